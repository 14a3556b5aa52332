import PyProof.Rows.All
import Wide.All
import OpenK.AllK
import Wide.FinOn
import HandS.ForMost
import HandS.Head3
import HandS.HeadHook2
import HandS.HeadEnd
import HandS.ForExc
import HandS.IsInst
import HandS.Gcd
import HandS.Wide
import HandS.WideBits
import HandS.ExcIs
import HandS.HotCalls
import HandS.ExcField
import HandS.TryMany
import HandS.ExcInit
import HandS.ExcInitHot
import HandS.ExcValue
import HandS.Conv
import HandS.NoneIn
import HandS.Deep
import HandS.SortInts
import HandS.Flow
import HandS.TupAny
import HandS.DictTup
import HandS.Rev
import HandS.Small
import PySem.Challenge.RW_joinpast_k00_fractions
namespace JP
/-- the common part of a top and a bottom, with the bottom's sign -/
def part (t b : Int) : Int := if b < 0 then -((Nat.gcd t.natAbs b.natAbs : Nat) : Int) else ((Nat.gcd t.natAbs b.natAbs : Nat) : Int)
def nrm (t b : Int) : Int × Int := (t.fdiv (part t b), b.fdiv (part t b))
theorem part_ne {t b : Int} (h : b ≠ 0) : part t b ≠ 0 := by
  unfold part
  have : 0 < Nat.gcd t.natAbs b.natAbs := Nat.gcd_pos_of_pos_right _ (by omega)
  split <;> omega
theorem part_dvd_t (t b : Int) : part t b ∣ t := by
  unfold part
  have h : ((Nat.gcd t.natAbs b.natAbs : Nat) : Int) ∣ t := Int.ofNat_dvd_left.mpr (Nat.gcd_dvd_left _ _)
  split
  · exact Int.neg_dvd.mpr h
  · exact h
theorem part_dvd_b (t b : Int) : part t b ∣ b := by
  unfold part
  have h : ((Nat.gcd t.natAbs b.natAbs : Nat) : Int) ∣ b := Int.ofNat_dvd_left.mpr (Nat.gcd_dvd_right _ _)
  split
  · exact Int.neg_dvd.mpr h
  · exact h
theorem part_abs (t b : Int) : (part t b).natAbs = Nat.gcd t.natAbs b.natAbs := by
  unfold part
  split <;> omega
theorem fdiv_of_mul {k p : Int} (h : k ≠ 0) : (k * p).fdiv k = p := by
  rw [Int.fdiv_eq_ediv_of_dvd (Int.dvd_mul_right k p)]
  exact Int.mul_ediv_cancel_left p h
theorem pos_of_mul_pos {k p : Int} (hk : 0 < k) (h : 0 < k * p) : 0 < p := by
  rcases Int.lt_or_le 0 p with z | z
  · exact z
  · exact absurd (Int.mul_nonpos_of_nonneg_of_nonpos (Int.le_of_lt hk) z) (by omega)
theorem pos_of_mul_neg {k p : Int} (hk : k < 0) (h : k * p < 0) : 0 < p := by
  rcases Int.lt_or_le 0 p with z | z
  · exact z
  · exact absurd (Int.mul_nonneg_of_nonpos_of_nonpos (Int.le_of_lt hk) z) (by omega)
theorem nrm_spec {t b : Int} (h : b ≠ 0) : ∃ k : Int, k ≠ 0 ∧ k = part t b ∧ t = k * (nrm t b).1 ∧ b = k * (nrm t b).2 ∧ 0 < (nrm t b).2 ∧ Nat.gcd (nrm t b).1.natAbs (nrm t b).2.natAbs = 1 := by
  have hk := part_ne (t := t) h
  obtain ⟨p, hp⟩ := part_dvd_t t b
  obtain ⟨q, hq⟩ := part_dvd_b t b
  have e1 : (nrm t b).1 = p := by
    show t.fdiv (part t b) = p
    conv => lhs; arg 1; rw [hp]
    exact fdiv_of_mul hk
  have e2 : (nrm t b).2 = q := by
    show b.fdiv (part t b) = q
    conv => lhs; arg 1; rw [hq]
    exact fdiv_of_mul hk
  refine ⟨part t b, hk, rfl, by rw [e1]; exact hp, by rw [e2]; exact hq, ?_, ?_⟩
  · rw [e2]
    have s : (b < 0 ∧ part t b < 0) ∨ (0 < b ∧ 0 < part t b) := by
      have : 0 < Nat.gcd t.natAbs b.natAbs := Nat.gcd_pos_of_pos_right _ (by omega)
      by_cases hb : b < 0
      · refine .inl ⟨hb, ?_⟩
        unfold part; rw [if_pos hb]; omega
      · refine .inr ⟨by omega, ?_⟩
        unfold part; rw [if_neg hb]; omega
    rcases s with ⟨s1, s2⟩ | ⟨s1, s2⟩
    · rw [hq] at s1
      exact pos_of_mul_neg s2 s1
    · rw [hq] at s1
      exact pos_of_mul_pos s2 s1
  · rw [e1, e2]
    have g := part_abs t b
    have a1 : t.natAbs = (part t b).natAbs * p.natAbs := by conv => lhs; rw [hp]; rw [Int.natAbs_mul]
    have a2 : b.natAbs = (part t b).natAbs * q.natAbs := by conv => lhs; rw [hq]; rw [Int.natAbs_mul]
    have a3 : (part t b).natAbs = (part t b).natAbs * Nat.gcd p.natAbs q.natAbs := by
      rw [← Nat.gcd_mul_left, ← a1, ← a2]; exact g
    have a4 : 0 < (part t b).natAbs := by omega
    have a5 : (part t b).natAbs * 1 = (part t b).natAbs * Nat.gcd p.natAbs q.natAbs := by rw [Nat.mul_one]; exact a3
    exact (Nat.eq_of_mul_eq_mul_left a4 a5).symm
theorem low_uniq {p q p' q' : Int} (h : 0 < q) (h' : 0 < q') (c : Nat.gcd p.natAbs q.natAbs = 1) (c' : Nat.gcd p'.natAbs q'.natAbs = 1) (e : p * q' = p' * q) : p = p' ∧ q = q' := by
  have n1 : p.natAbs * q'.natAbs = p'.natAbs * q.natAbs := by rw [← Int.natAbs_mul, ← Int.natAbs_mul, e]
  have d1 : q.natAbs ∣ q'.natAbs := by
    have : q.natAbs ∣ p.natAbs * q'.natAbs := by rw [n1]; exact Nat.dvd_mul_left _ _
    exact Nat.Coprime.dvd_of_dvd_mul_left (Nat.Coprime.symm c) this
  have d2 : q'.natAbs ∣ q.natAbs := by
    have : q'.natAbs ∣ p'.natAbs * q.natAbs := by rw [← n1]; exact Nat.dvd_mul_left _ _
    exact Nat.Coprime.dvd_of_dvd_mul_left (Nat.Coprime.symm c') this
  have e1 : q.natAbs = q'.natAbs := Nat.dvd_antisymm d1 d2
  have e2 : q = q' := by omega
  subst e2
  exact ⟨Int.eq_of_mul_eq_mul_right (by omega) e, rfl⟩
theorem nrm_eq {t b t' b' : Int} (h : b ≠ 0) (h' : b' ≠ 0) (e : t * b' = t' * b) : nrm t b = nrm t' b' := by
  obtain ⟨k, hk, _, e1, e2, q1, c1⟩ := nrm_spec (t := t) h
  obtain ⟨k', hk', _, e1', e2', q1', c1'⟩ := nrm_spec (t := t') h'
  have z : (nrm t b).1 * (nrm t' b').2 = (nrm t' b').1 * (nrm t b).2 := by
    have e3 : (k * k') * ((nrm t b).1 * (nrm t' b').2) = (k * k') * ((nrm t' b').1 * (nrm t b).2) := by
      calc (k * k') * ((nrm t b).1 * (nrm t' b').2) = (k * (nrm t b).1) * (k' * (nrm t' b').2) := by ac_rfl
        _ = t * b' := by rw [← e1, ← e2']
        _ = t' * b := e
        _ = (k' * (nrm t' b').1) * (k * (nrm t b).2) := by rw [← e1', ← e2]
        _ = (k * k') * ((nrm t' b').1 * (nrm t b).2) := by ac_rfl
    exact Int.eq_of_mul_eq_mul_left (Int.mul_ne_zero hk hk') e3
  obtain ⟨a1, a2⟩ := low_uniq q1 q1' c1 c1' z
  exact Prod.ext a1 a2
/-- a pair (t, b) has the value of the pair m in lowest terms -/
structure Val (t b : Int) (m : Int × Int) : Prop where
  nb : b ≠ 0
  is : nrm t b = m
theorem Val.pos {t b : Int} {m : Int × Int} (v : Val t b m) : 0 < m.2 := by
  obtain ⟨k, _, _, _, _, q, _⟩ := nrm_spec (t := t) v.nb
  rw [← v.is]; exact q
theorem Val.ex {t b : Int} {m : Int × Int} (v : Val t b m) : ∃ k : Int, k ≠ 0 ∧ t = k * m.1 ∧ b = k * m.2 := by
  obtain ⟨k, hk, _, e1, e2, _, _⟩ := nrm_spec (t := t) v.nb
  rw [v.is] at e1 e2
  exact ⟨k, hk, e1, e2⟩
theorem Val.zero {t b : Int} {m : Int × Int} (v : Val t b m) : t = 0 ↔ m.1 = 0 := by
  obtain ⟨k, hk, e1, e2⟩ := v.ex
  constructor
  · intro h
    rw [h] at e1
    rcases Int.mul_eq_zero.mp e1.symm with h | h
    · exact absurd h hk
    · exact h
  · intro h
    rw [e1, h, Int.mul_zero]
theorem Val.nm {t b : Int} (h : b ≠ 0) : Val t b (nrm t b) := ⟨h, rfl⟩
theorem Val.self {t b : Int} {m : Int × Int} (v : Val t b m) : Val m.1 m.2 m := by
  have p := v.pos
  obtain ⟨k, hk, e1, e2⟩ := v.ex
  refine ⟨by omega, ?_⟩
  rw [← v.is]
  have : nrm m.1 m.2 = nrm t b := nrm_eq (by omega) v.nb (by rw [e1, e2]; ac_rfl)
  rw [v.is] at this ⊢; exact this
theorem Val.scale {t b c : Int} {m : Int × Int} (v : Val t b m) (hc : c ≠ 0) : Val (t * c) (b * c) m :=
  ⟨Int.mul_ne_zero v.nb hc, by rw [← v.is]; exact nrm_eq (Int.mul_ne_zero v.nb hc) v.nb (by ac_rfl)⟩
theorem nrm_plus {t b t' b' : Int} {m m' : Int × Int} (v : Val t b m) (v' : Val t' b' m') : nrm (t * b' + t' * b) (b * b') = nrm (m.1 * m'.2 + m'.1 * m.2) (m.2 * m'.2) := by
  obtain ⟨k, hk, e1, e2⟩ := v.ex
  obtain ⟨k', hk', e1', e2'⟩ := v'.ex
  have p := v.pos
  have p' := v'.pos
  refine nrm_eq (Int.mul_ne_zero v.nb v'.nb) (Int.mul_ne_zero (by omega) (by omega)) ?_
  rw [e1, e2, e1', e2']
  have a1 : k * m.1 * (k' * m'.2) + k' * m'.1 * (k * m.2) = (k * k') * (m.1 * m'.2 + m'.1 * m.2) := by rw [Int.mul_add]; congr 1 <;> ac_rfl
  rw [a1]; ac_rfl
theorem nrm_times {t b t' b' : Int} {m m' : Int × Int} (v : Val t b m) (v' : Val t' b' m') : nrm (t * t') (b * b') = nrm (m.1 * m'.1) (m.2 * m'.2) := by
  obtain ⟨k, hk, e1, e2⟩ := v.ex
  obtain ⟨k', hk', e1', e2'⟩ := v'.ex
  have p := v.pos
  have p' := v'.pos
  refine nrm_eq (Int.mul_ne_zero v.nb v'.nb) (Int.mul_ne_zero (by omega) (by omega)) ?_
  rw [e1, e2, e1', e2']
  ac_rfl
theorem nrm_over {t b t' b' : Int} {m m' : Int × Int} (v : Val t b m) (v' : Val t' b' m') (h : m'.1 ≠ 0) : nrm (t * b') (b * t') = nrm (m.1 * m'.2) (m.2 * m'.1) := by
  obtain ⟨k, hk, e1, e2⟩ := v.ex
  obtain ⟨k', hk', e1', e2'⟩ := v'.ex
  have p := v.pos
  have p' := v'.pos
  have ht : t' ≠ 0 := fun z => h (v'.zero.mp z)
  refine nrm_eq (Int.mul_ne_zero v.nb ht) (Int.mul_ne_zero (by omega) h) ?_
  rw [e1, e2, e1', e2']
  ac_rfl
/-! sizes -/
theorem nrm_le {t b : Int} (h : b ≠ 0) : (nrm t b).1.natAbs ≤ t.natAbs ∧ (nrm t b).2.natAbs ≤ b.natAbs := by
  obtain ⟨k, hk, _, e1, e2, _, _⟩ := nrm_spec (t := t) h
  have k0 : 1 ≤ k.natAbs := by omega
  constructor
  · conv => rhs; rw [e1, Int.natAbs_mul]
    exact Nat.le_mul_of_pos_left _ k0
  · conv => rhs; rw [e2, Int.natAbs_mul]
    exact Nat.le_mul_of_pos_left _ k0
theorem part_le {t b : Int} (h : b ≠ 0) : (part t b).natAbs ≤ b.natAbs := by
  rw [part_abs]
  exact Nat.le_of_dvd (by omega) (Nat.gcd_dvd_right _ _)
/-! the loop of _law_gcd -/
/-- what holds ahead of turn i; n: the bits of the second number -/
structure GcdAt (g n i : Nat) (x y : Nat) : Prop where
  gc : Nat.gcd x y = g
  ev : i % 2 = 0 → y < 2 ^ (n - i / 2)
  od : i % 2 = 1 → x < 2 ^ (n - i / 2) ∧ y < x
theorem GcdAt.next {g n i x y : Nat} (h : GcdAt g n i x y) (hy : y ≠ 0) (hi : i < 2 * n + 1) : GcdAt g n (i + 1) y (x % y) := by
  refine ⟨?_, fun e => ?_, fun e => ?_⟩
  · rw [← h.gc, Nat.gcd_comm x y, Nat.gcd_rec y x, Nat.gcd_comm]
  · obtain ⟨a, b⟩ := h.od (by omega)
    have e2 : (i + 1) / 2 = i / 2 + 1 := by omega
    rw [e2]
    have hn : i / 2 < n := by omega
    have e3 : 2 ^ (n - i / 2) = 2 * 2 ^ (n - (i / 2 + 1)) := by
      rw [show n - i / 2 = (n - (i / 2 + 1)) + 1 by omega, Nat.pow_succ]; omega
    rw [e3] at a
    have m1 : x % y < y := Nat.mod_lt _ (by omega)
    have m2 : x = y * (x / y) + x % y := (Nat.div_add_mod x y).symm
    have m3 : 1 ≤ x / y := (Nat.one_le_div_iff (by omega)).mpr (by omega)
    have m4 : y * 1 ≤ y * (x / y) := Nat.mul_le_mul_left y m3
    omega
  · have a := h.ev (by omega)
    have e2 : (i + 1) / 2 = i / 2 := by omega
    rw [e2]
    exact ⟨a, Nat.mod_lt _ (by omega)⟩
theorem GcdAt.done {g n x y : Nat} (h : GcdAt g n (2 * n + 2) x y) : x = g := by
  have a := h.ev (by omega)
  have e : n - (2 * n + 2) / 2 = 0 := by omega
  rw [e] at a
  have : y = 0 := by omega
  rw [this] at h
  have := h.gc
  rw [Nat.gcd_zero_right] at this; exact this
theorem GcdAt.over {g n x y : Nat} (h : GcdAt g n (2 * n + 1) x y) : False := by
  obtain ⟨a, b⟩ := h.od (by omega)
  have e : n - (2 * n + 1) / 2 = 0 := by omega
  rw [e] at a
  omega
theorem GcdAt.ret {g n i x : Nat} (h : GcdAt g n i x 0) : x = g := by
  have := h.gc
  rw [Nat.gcd_zero_right] at this; exact this
end JP
set_option Elab.async false
set_option linter.all false
set_option maxRecDepth 100000
set_option maxHeartbeats 0
namespace JPH
open PySem PySem.Spec PyProof.Rows L2 He
/-- a fact about the written part -/
abbrev Fk := PySem.W.Frag → Bool
def obsF (fa : List Fk) (fn : List DefD) (K : PySem.W.Frag) : AlD := ((fa.all fun f => f K) && fn.all fun d => d.ok K, fn.map fun d => fnW K d.at_)
def SaysF (fa : List Fk) (fn : List DefD) (K : PySem.W.Frag) : Prop := obsF fa fn K = valD fn
def obsFG (n : Nat) (fa : List Fk) (fn : List DefD) (g : Addr → Option Obj) : AlD := obsF fa fn (frG g (asD g n))
def hookF (n : Nat) (fa : List Fk) (fn : List DefD) : PySem.W.Hook where
  α := AlD
  obs := fun s => obsFG n fa fn s.heap.get?
  val := fun _ => valD fn
  says := fun _ h => ∃ K : PySem.W.Frag, K.In h ∧ SaysF fa fn K
  of := fun _ _ e => ⟨_, frG_in, e⟩
  keeps := fun _ _ _ ⟨K, hK, c⟩ k => ⟨K, PySem.W.Frag.In.keeps hK k, c⟩
theorem obsFG_eq {n : Nat} {fa : List Fk} {fn : List DefD} {g : Addr → Option Obj} {s : Shared} (h : ∀ a, g a = s.heap.get? a) : obsFG n fa fn g = (hookF n fa fn).obs s := by
  have e : g = s.heap.get? := funext h
  rw [e] <;> rfl
section
variable {fa : List Fk} {fn : List DefD} {K : PySem.W.Frag}
theorem SaysF.all (c : SaysF fa fn K) {f : Fk} (h : f ∈ fa) : f K = true := by
  have c1 := (ba (show ((fa.all fun f => f K) && fn.all fun d => d.ok K) = true from congrArg (fun z : AlD => z.1) c)).1
  exact List.all_eq_true.mp c1 f h
theorem SaysF.fact (c : SaysF fa fn K) (i : Nat) {f : Fk} (h : fa[i]? = some f := by rfl) : f K = true := c.all (List.mem_of_getElem? h)
theorem SaysF.def_ (c : SaysF fa fn K) (i : Nat) {d : DefD} (h : fn[i]? = some d := by rfl) : ∃ fd, FunD K d.name d.qual d.params d.body d.scope (d.dvs K) (d.kws K) (fAd K d.at_) fd := by
  have c2 := (ba (show ((fa.all fun f => f K) && fn.all fun d => d.ok K) = true from congrArg (fun z : AlD => z.1) c)).2
  have e : fn.map (fun d => fnW K d.at_) = fn.map DefD.val := congrArg (fun z : AlD => z.2) c
  have e2 : (fn.map fun d => fnW K d.at_)[i]? = (fn.map DefD.val)[i]? := by rw [e]
  rw [List.getElem?_map, List.getElem?_map, h] at e2
  exact DefD.funD (Option.some.inj e2) (List.all_eq_true.mp c2 d (List.mem_of_getElem? h))
end
end JPH
set_option Elab.async false
set_option linter.all false
set_option maxRecDepth 100000
set_option maxHeartbeats 4000000
namespace JP
open PySem PySem.Spec PyProof.Rows L2
/-! ### what may leave a def: exceptions whose context is None -/
theorem passN {X : Cx} : Passes (L2N.CX X.prog X.w) X E0 := fun _ _ _ _ _ _ _ h => by
  obtain ⟨_, _, _, _, _, _, _, _, _, _, _, _, z⟩ := h
  exact z.elim
theorem cx_end {P : Program} {w : World} (H : Hp) (s : Shared) (e : Value) (s' : Shared) (h : L2N.CX P w [] H s (fun _ _ _ => False) e s') : False := by
  obtain ⟨_, _, _, _, _, _, _, _, _, _, _, _, z⟩ := h
  exact z
theorem takesN0 {X : Cx} : L2N.Takes X (fun _ _ _ _ => False) := fun _ _ x => by
  obtain ⟨_, _, _, _, _, _, _, _, _, _, _, _, _, _, _, _, z⟩ := x
  exact z.elim
theorem passAtN {X : Cx} {W : WX} (tk : L2N.Takes X W) (σ : L2.St) : PassesAt (L2N.CX X.prog X.w) X σ (WE W σ) := fun _ _ _ e s' I c => tk e s' (L2N.XE.of_call I (fun _ _ _ h => h) c)
theorem passesN {X : Cx} {K : Value → Shared → Prop} {E₁ : Value → Shared → Prop} (hx : X.xe = fun e s' => wpAny (model X.prog X.w) X.A (leaving X.env e) (fun _ s'' => K e s'') E₁ s') : PassesOwn (model X.prog X.w) X.A X.env X.xe := passes_of hx
section
variable {X : Cx}
/-- X(), an own exception class without own __init__ -/
theorem pmk_own0 {C : Addr} {bmB : List Value} {B newId initId : String} {x : Str} {p pos : Pos} (F : ExcBaseFacts B newId initId bmB) (q : PySem.W.excIn X.K C bmB newId = true) (gC : X.mg x = some (.ref C))
    (kC : PySem.W.keepIn X.K (.ref C) = true) (r : Raises X (.ref C)) (hg : Gl X x) (hdb : (x == ("__debug__" : Str)) = false := by decide) :
    L2N.PMk X (.Call (.Name x p) [] [] pos) (fun σ H Q => Q (.ref C) none H) := by
  intro pins s σ H Q I h
  refine wpAny_Call_Name_kw (ld_glob I hg gC ?_ hdb)
  refine PySem.W.callWith_K0 I.kIn kC ?_
  show wpAny _ _ (call (.ref C) []) _ _ _
  obtain ⟨bm, N, nm, qn, bs, hdct, sn, sub, ab, col, dd, k0, k1, k2, k3, k5, mN, hC, hN, hni, T⟩ := exc_obj I.kIn q
  refine wpAny_call_exc_subT F T hC hN hni (fun h' e hm => ?_) (Nat.zero_le _)
  exact L2N.mk_of I hm r h (I.hok.gone hm.new)
/-- // by any divisor but 0 below 2 ^ 9000 -/
def CDivG (_ j : Int) : Prop := j ≠ 0 ∧ j.natAbs.log2 < 9000
theorem op_fdivG : OpR X (binaryOp .FloorDiv) (rI CDivG fun i j => .int (i.fdiv j)) := opI fun _ _ _ _ _ _ _ hc q => floordiv_int hc.1 q (.inl (PyProof.noPylong_of_log2 hc.2))
/-- a for over a list or a tuple -/
def iSeq (K : PySem.W.Frag) (tl : TE) : TI := fun σ H R => tl σ H fun x H1 => ∃ a, x = .ref a ∧ (((∃ xs, SqL K H1 a xs) ∧ R (Itl K a) H1) ∨ ((∃ xs, SqT K H1 a xs) ∧ R (Itt K a) H1))
theorem pi_seq {tg l : Expr} {tl : TE} (hl : PE X l tl) : PI X tg l (iSeq X.K tl) := by
  refine ⟨fun pins s σ H R I h => ?_⟩
  refine thn (hl.run pins s σ H _ I h) fun v s1 ⟨x, H1, I1, r1, q1⟩ => ?_
  obtain ⟨a, e, ⟨⟨xs, hq⟩, q⟩ | ⟨⟨xs, hq⟩, q⟩⟩ := q1
  · subst e
    cases r1
    obtain ⟨its, rv, p, hz⟩ := I1.list hq
    refine wpAny_pyIter_list p.isList ?_
    refine ⟨s1.heap.objs.size, [s1.heap.objs.size], _, _, H1, rfl, I1.kept (t' := s1.toks) fun b o e => Heap.get?_push_of_some _ e, turn_list a _, ⟨_, Heap.get?_push_size _ rfl, rfl, rfl⟩, fun b hb => ?_, q⟩
    have e : b = s1.heap.objs.size := by simpa using hb
    subst e
    exact I1.fpOk (Nat.le_refl _) (I1.hok.fresh (Nat.le_refl _))
  · subst e
    cases r1
    obtain ⟨its, rv, p, hz⟩ := I1.tuple hq
    refine wpAny_pyIter_tuple (show s1.heap.IsTuple a its.toArray from p) ?_
    refine ⟨s1.heap.objs.size, [s1.heap.objs.size], _, _, H1, rfl, I1.kept (t' := s1.toks) fun b o e => Heap.get?_push_of_some _ e, turn_tuple a _, ⟨_, Heap.get?_push_size _ rfl, rfl, rfl⟩, fun b hb => ?_, q⟩
    have e : b = s1.heap.objs.size := by simpa using hb
    subst e
    exact I1.fpOk (Nat.le_refl _) (I1.hok.fresh (Nat.le_refl _))
/-- a, b, .. = a list or a tuple of that length -/
def Sq (K : PySem.W.Frag) (H : Hp) (a : Addr) (xs : List V) : Prop := SqL K H a xs ∨ SqT K H a xs
def gSeq (K : PySem.W.Frag) (n : Nat) (t : TGs) : TG := fun v σ H Q => ∃ a xs, v = .ref a ∧ Sq K H a xs ∧ xs.length = n ∧ t xs σ H Q
theorem pg_seq {es : List Expr} {k : Nat} {t : TGs} {n : Nat} {pos : Pos} (hc : X.calm = true) (h : PGs X es t)
    (hn : (assignEach es X.env).length = n := by rfl) (hst : (assignEach es X.env).findIdx? (·.1) = none := by rfl) : PG X (.Tuple es k pos) (gSeq X.K n t) := by
  refine ⟨fun pins s σ H v u Q I r hw => ?_⟩
  obtain ⟨a, xs, e1, hq | hq, hl, hw⟩ := hw
  · exact (pg_lst hc h hn hst).run pins s σ H v u Q I r ⟨a, xs, e1, hq, hl, hw⟩
  · exact (pg_tup hc h hn hst).run pins s σ H v u Q I r ⟨a, xs, e1, hq, hl, hw⟩
/-- isinstance(e, (c1, c2, ..)), e the exception that is pinned -/
def rIsET (K : PySem.W.Frag) (D a : Addr) : List V → Hp → VK → Prop := fun xs H Q => ∃ (tp : Addr) (cs : List V) (us : List Value) (b : Bool), xs = [.ref a, .ref tp] ∧ H tp = some (.tup cs) ∧ Paired ClsV cs us ∧ PySem.W.kitAny K (.ref D) us = some b ∧ Q (.bl b) H
theorem inst_pin {pins : List (Addr × Obj)} {σ : L2.St} {H : Hp} {s : Shared} {a D : Addr} {oe : Obj} {d : Option Addr} (I : Inv X pins σ H s) (hp : (a, oe) ∈ X.pn) (hz : Zc (.ref D) d oe) (hf : ∃ vs, oe.data = .fields vs) : ∃ od, oe.dict = d ∧ s.heap.get? a = some oe ∧ (d = none → PySem.W.InstAt s.heap a oe D none) ∧ od = d := by
  obtain ⟨hget, _⟩ := I.pin (a, oe) (List.mem_append.mpr (.inl hp))
  obtain ⟨vs, hv⟩ := hf
  refine ⟨d, hz.2, hget, fun hd => ?_, rfl⟩
  obtain ⟨oc, od, oda, osl⟩ := oe
  obtain ⟨h1, h2⟩ := hz
  dsimp only at h1 h2 hv
  subst h1 h2 hv hd
  exact ⟨hget, rfl, rfl, trivial⟩
theorem call_isEP {a D : Addr} {oe : Obj} (C : ExcC X.K D) (hp : (a, oe) ∈ X.pn) (hz : Zc (.ref D) none oe) (hf : ∃ vs, oe.data = .fields vs) : CallR X (.builtin "isinstance") (rIsE X.K D a) := by
  intro pins s σ H xs us Q I r h
  obtain ⟨c, cv, b, rfl, hcv, e, q⟩ := h
  obtain ⟨u1, u2, rfl, r1, r2⟩ := vals2 r
  cases (show u1 = Value.ref a from r1)
  have ec := hcv _ r2
  subst ec
  obtain ⟨od, _, _, J, _⟩ := inst_pin I hp hz hf
  exact PySem.W.kia_one (PySem.W.handS_kitx_exc C.hg C.hk C.hs C.hd C.ha C.hn C.ht C.hm) I.kIn (J rfl) e (fun z => nomatch z) fun tk => ⟨.bl b, H, I.kept (t' := tk) fun _ _ z => z, rfl, q⟩
theorem call_isET {a D : Addr} {oe : Obj} (C : ExcC X.K D) (hp : (a, oe) ∈ X.pn) (hz : Zc (.ref D) none oe) (hf : ∃ vs, oe.data = .fields vs) : CallR X (.builtin "isinstance") (rIsET X.K D a) := by
  intro pins s σ H xs us Q I r h
  obtain ⟨tp, cs, ws, b, rfl, hT, k, e, q⟩ := h
  obtain ⟨u1, u2, rfl, r1, r2⟩ := vals2 r
  cases (show u1 = Value.ref a from r1)
  cases (show u2 = Value.ref tp from r2)
  obtain ⟨od, _, _, J, _⟩ := inst_pin I hp hz hf
  obtain ⟨_, its, rv, o, h1, h2, n, h3⟩ := (show ObjOk X.prog X.w H s.heap tp (.tup cs) from I.hok tp _ hT)
  have e3 := ClsV.all k rv
  subst e3
  obtain ⟨oc, od, dt, sl⟩ := o
  simp only at h2 h3
  subst h2 h3
  exact PySem.W.kia_tup (PySem.W.handS_kitx_exc C.hg C.hk C.hs C.hd C.ha C.hn C.ht C.hm) I.kIn (J rfl) h1 e (fun z => nomatch z) fun tk => ⟨.bl b, H, I.tok tk, rfl, q⟩
end
/-! ### heaps -/
theorem Same.new {H : Hp} {p : Addr} {o : HO} (h : H p = none) : Same H (upd H p o) := fun a u e => by
  rw [upd_ne (ne_of_none e h)]
  exact e
/-- an object that H does not know may change -/
theorem Same.mut {H H' : Hp} {p : Addr} {o : HO} (e : Same H H') (h : H p = none) : Same H (upd H' p o) := fun a u ha => by
  rw [upd_ne (ne_of_none ha h)]
  exact e a u ha
theorem Same.rd {H H' : Hp} {a : Addr} {u : HO} (e : Same H H') (h : Rd H a u) : Rd H' a u := by
  rcases h with h | ⟨o, h⟩
  · exact Or.inl (e a _ h)
  · exact Or.inr ⟨o, e a _ h⟩
theorem Same.sl {K : PySem.W.Frag} {H H' : Hp} {a : Addr} {xs : List V} (e : Same H H') (h : SqL K H a xs) : SqL K H' a xs := by
  rcases h with h | h
  · exact Or.inl (Same.rd e h)
  · exact Or.inr h
theorem Same.st {K : PySem.W.Frag} {H H' : Hp} {a : Addr} {xs : List V} (e : Same H H') (h : SqT K H a xs) : SqT K H' a xs := by
  rcases h with h | h
  · exact Or.inl (Same.rd e h)
  · exact Or.inr h
theorem Same.sq {K : PySem.W.Frag} {H H' : Hp} {a : Addr} {xs : List V} (e : Same H H') (h : Sq K H a xs) : Sq K H' a xs := h.imp (Same.sl e) (Same.st e)
theorem Same.fresh {H H' : Hp} {p : Addr} (e : Same H H') (h : H' p = none) : H p = none := e.free h
mutual
theorem Same.dp {K : PySem.W.Frag} {H H' : Hp} (e : Same H H') : ∀ {d : PyData} {v : V}, Dp K H v d → Dp K H' v d
  | .none, _, h => by cases h; exact .non
  | .bool b, _, h => by cases h; exact .bl b
  | .int i, _, h => by cases h; exact .int i
  | .str x, _, h => by cases h; exact .str x
  | .list ds, _, h => by
    cases h with
    | lst hs ha => exact .lst (Same.sl e hs) (Same.dpa e ha)
  | .tuple ds, _, h => by
    cases h with
    | tup hs ha => exact .tup (Same.st e hs) (Same.dpa e ha)
  | .dict _, _, h => by cases h
theorem Same.dpa {K : PySem.W.Frag} {H H' : Hp} (e : Same H H') : ∀ {ds : List PyData} {vs : List V}, DpAll K H vs ds → DpAll K H' vs ds
  | [], _, h => by cases h; exact .nil
  | d :: ds, _, h => by
    cases h with
    | cons h1 h2 => exact .cons (Same.dp e h1) (Same.dpa e h2)
end
/-! ### readings by steps -/
section
variable {σ : L2.St} {H : Hp} {D : Ends} {K : PySem.W.Frag}
theorem w_seq {t u : TS} (q : t { D with nx := u D } σ H) : tSeq t u D σ H := q
theorem w_next (q : D.nx σ H) : tNext D σ H := q
theorem w_asg {te : TE} {g : TG} (q : te σ H fun x H1 => g x σ H1 D.nx) : tAsg te g D σ H := q
theorem w_name {i : Nat} {v : V} {Q : L2.St → Hp → Prop} (q : Q (σ.set i (some v)) H) : gName i v σ H Q := q
theorem w_drop {te : TE} (q : te σ H fun _ H1 => D.nx σ H1) : tDrop te D σ H := q
theorem w_ret {te : TE} (q : te σ H D.rt) : tRet te D σ H := q
theorem w_retN (q : D.rt .non H) : tRetN D σ H := q
theorem w_if {c : TT} {t u : TS} (q : c σ H fun b H1 => if b = true then t D σ H1 else u D σ H1) : tIfS c t u D σ H := q
theorem w_brk (q : D.bk σ H) : tBreak D σ H := q
theorem w_cont (q : D.ct σ H) : tCont D σ H := q
theorem w_var {i : Nat} {Q : VK} (v : V) (h : σ[i]? = some (some v)) (q : Q v H) : tVar i σ H Q := ⟨v, h, q⟩
theorem w_c {v : V} {Q : VK} (q : Q v H) : tC v σ H Q := q
theorem w_op {r : R2} {ta tb : TE} {Q : VK} (q : ta σ H fun x H1 => tb σ H1 fun y H2 => r x y H2 Q) : tOp r ta tb σ H Q := q
theorem w_un {r : V → Hp → VK → Prop} {ta : TE} {Q : VK} (q : ta σ H fun x H1 => r x H1 Q) : tUn r ta σ H Q := q
theorem w_cb {r : List V → Hp → VK → Prop} {ta : TA} {Q : VK} (q : ta σ H fun vs H1 => r vs H1 Q) : tCB r ta σ H Q := q
theorem w_nil {Q : List V → Hp → Prop} (q : Q [] H) : tNil σ H Q := q
theorem w_cons {te : TE} {tr : TA} {Q : List V → Hp → Prop} (q : te σ H fun x H1 => tr σ H1 fun xs H2 => Q (x :: xs) H2) : tCons te tr σ H Q := q
end
/-! ### new objects, told without their place -/
section
variable {X : Cx} {e a b : Expr} {es : List Expr} {t : TA} {ta tb te : TE} {pos : Pos}
def tTupA (t : TA) : TE := fun σ H Q => t σ H fun xs H1 => xs.length ≤ sizeLine ∧ ∀ p H2, H1 p = none → Same H1 H2 → H2 p = some (.tup xs) → Q (.ref p) H2
def tLstA (t : TA) : TE := fun σ H Q => t σ H fun xs H1 => xs.length ≤ sizeLine ∧ ∀ p H2, H1 p = none → Same H1 H2 → H2 p = some (.lst xs) → Q (.ref p) H2
theorem pe_tupA {x1 : Nat} (h : PA X es t) : PE X (.Tuple es x1 pos) (tTupA t) := by
  refine ⟨fun pins s σ H Q I hq => ?_⟩
  refine wpAny_Tuple_spliced (thn (h.run pos pins s σ H _ I hq) fun us s1 ⟨xs, H1, I1, r, z, q⟩ => ⟨by rw [← r.length]; exact z, ?_⟩)
  have hf : H1 s1.heap.objs.size = none := I1.hok.fresh (Nat.le_refl _)
  refine ⟨.ref s1.heap.objs.size, upd H1 s1.heap.objs.size (.tup xs), I1.laid (t' := s1.toks) (fun b u e => Heap.get?_push_of_some _ e) (Nat.le_refl _) ?_, rfl, q _ _ hf (Same.new hf) upd_same⟩
  exact ⟨z, us, r, ⟨_, Heap.get?_push_size _ rfl, rfl, _, rfl⟩⟩
theorem pe_lstA (h : PA X es t) : PE X (.List es pos) (tLstA t) := by
  refine ⟨fun pins s σ H Q I hq => ?_⟩
  refine wpAny_List_spliced (thn (h.run pos pins s σ H _ I hq) fun us s1 ⟨xs, H1, I1, r, z, q⟩ => ⟨by rw [← r.length]; exact z, ?_⟩)
  have hf : H1 s1.heap.objs.size = none := I1.hok.fresh (Nat.le_refl _)
  refine ⟨.ref s1.heap.objs.size, upd H1 s1.heap.objs.size (.lst xs), I1.laid (t' := s1.toks) (fun b u e => Heap.get?_push_of_some _ e) (Nat.le_refl _) ?_, rfl, q _ _ hf (Same.new hf) upd_same⟩
  exact ⟨z, us, 0, r, Heap.get?_push_size _ rfl⟩
theorem CallR.imp {f : Value} {r r' : List V → Hp → VK → Prop} (h : CallR X f r) (i : ∀ xs H Q, r' xs H Q → r xs H Q) : CallR X f r' := fun pins s σ H xs us Q I rs q => h pins s σ H xs us Q I rs (i _ _ _ q)
theorem OpR.imp {f : Value → Value → Sem Value} {r r' : R2} (h : OpR X f r) (i : ∀ x y H Q, r' x y H Q → r x y H Q) : OpR X f r' := fun pins s σ H x y v u Q I rx ry q => h pins s σ H x y v u Q I rx ry (i _ _ _ _ q)
theorem MtR.imp {id : String} {r r' : V → List V → Hp → VK → Prop} (h : MtR X id r) (i : ∀ x xs H Q, r' x xs H Q → r x xs H Q) : MtR X id r' := fun pins s σ H x xs v us Q I rx rs q => h pins s σ H x xs v us Q I rx rs (i _ _ _ _ q)
theorem SlR.imp {r r' : V → Option Int → Option Int → Hp → VK → Prop} (h : SlR X r) (i : ∀ x lo hi H Q, r' x lo hi H Q → r x lo hi H Q) : SlR X r' := by
  unfold SlR at *
  intros
  exact h _ _ _ _ _ _ _ _ _ _ _ _ (by assumption) (by assumption) (by assumption) (by assumption) (by assumption) (i _ _ _ _ _ (by assumption))
/-- all but the object at l stands -/
def But (l : Addr) (H H2 : Hp) : Prop := ∀ b, b ≠ l → H2 b = H b
theorem But.same {l : Addr} {H0 H H2 : Hp} (c : But l H H2) (e : Same H0 H) (h : H0 l = none) : Same H0 H2 := fun a u ha => by
  rw [c a (ne_of_none ha h)]
  exact e a u ha
theorem But.st {K : PySem.W.Frag} {l p : Addr} {H H2 : Hp} {xs : List V} {o : HO} (c : But l H H2) (hl : H l = some o) (ho : Mut (some o)) (h : SqT K H p xs) : SqT K H2 p xs := by
  rcases h with (h | ⟨ob, h⟩) | h
  · refine .inl (.inl ?_)
    rw [c p (fun z => by rw [z, hl] at h; cases h; exact ho)]
    exact h
  · refine .inl (.inr ⟨ob, ?_⟩)
    rw [c p (fun z => by rw [z, hl] at h; cases h; exact ho)]
    exact h
  · exact .inr h
theorem But.sl {K : PySem.W.Frag} {l p : Addr} {H H2 : Hp} {xs : List V} (c : But l H H2) (hn : p ≠ l) (h : SqL K H p xs) : SqL K H2 p xs := by
  rcases h with (h | ⟨ob, h⟩) | h
  · exact .inl (.inl (by rw [c p hn]; exact h))
  · exact .inl (.inr ⟨ob, by rw [c p hn]; exact h⟩)
  · exact .inr h
def rAppendA : V → List V → Hp → VK → Prop := fun x vs H Q => ∃ l xs y, x = .ref l ∧ vs = [y] ∧ H l = some (.lst xs) ∧ xs.length < sizeLine ∧ ∀ H2, But l H H2 → H2 l = some (.lst (xs ++ [y])) → Q .non H2
theorem but_upd {l : Addr} {H : Hp} {o : HO} : But l H (upd H l o) := fun _ hb => upd_ne hb
theorem mt_appendA : MtR X "list.append" rAppendA := MtR.imp mt_append fun _ _ _ _ ⟨l, xs, y, h1, h2, h3, h4, q⟩ => ⟨l, xs, y, h1, h2, h3, h4, q _ but_upd upd_same⟩
/-- + of ints, texts, lists, tuples -/
def rCatL (K : PySem.W.Frag) : R2 := fun x y H Q => ∃ a b xs ys, x = .ref a ∧ y = .ref b ∧ H a = some (.lst xs) ∧ H b = some (.lst ys) ∧ xs.length + ys.length ≤ sizeLine ∧ ∀ p H2, H p = none → Same H H2 → H2 p = some (.lst (xs ++ ys)) → Q (.ref p) H2
def rAddA (K : PySem.W.Frag) : R2 := fun x y H Q => (rI0 fun i j => .int (i + j)) x y H Q ∨ (∃ i j, x = .str i ∧ y = .str j ∧ i.length + j.length ≤ sizeLine ∧ Q (.str (i ++ j)) H) ∨ rCatL K x y H Q
theorem op_addA : OpR X (binaryOp .Add) (rAddA X.K) := op_add.or (op_add_str.or (OpR.imp op_cat fun _ _ _ _ ⟨a, b, xs, ys, h1, h2, h3, h4, h5, q⟩ => ⟨a, b, xs, ys, h1, h2, h3, h4, h5, fun p hp => q p _ hp (Same.new hp) upd_same⟩))
def rEqA (K : PySem.W.Frag) : R2 := fun x y H Q => rEq x y H Q ∨ rEqD K x y H Q
def rNeA (K : PySem.W.Frag) : R2 := fun x y H Q => rNe x y H Q ∨ rNeD K x y H Q
theorem op_eqA (hu : X.A.units + 64 < cLine) : OpR X (compareOp .Eq) (rEqA X.K) := op_eq.or (op_eqD hu)
theorem op_neA (hu : X.A.units + 64 < cLine) : OpR X (compareOp .NotEq) (rNeA X.K) := op_ne.or (op_neD hu)
def rIsA (K : PySem.W.Frag) : List V → Hp → VK → Prop := fun xs H Q => rIsi K xs H Q ∨ rIsiT K xs H Q
theorem call_isA : CallR X (.builtin "isinstance") (rIsA X.K) := call_isi.or call_isiT
def rLen (K : PySem.W.Frag) : List V → Hp → VK → Prop := fun xs H Q => ∃ x n, xs = [x] ∧ LenV K x H n ∧ Q (.int (n : Int)) H
theorem call_lenA : CallR X (.builtin "len") (rLen X.K) := call_len
def rInt : List V → Hp → VK → Prop := fun xs H Q => (∃ i, xs = [.int i] ∧ Q (.int i) H) ∨ ∃ k, xs = [.bl k] ∧ Q (.int (if k then 1 else 0)) H
theorem call_intA : CallR X (.type "int") rInt := call_int1
def rAbs : List V → Hp → VK → Prop := fun xs H Q => ∃ i, xs = [.int i] ∧ Q (.int (if i < 0 then -i else i)) H
theorem call_absA : CallR X (.builtin "abs") rAbs := call_abs
def rListA (K : PySem.W.Frag) : List V → Hp → VK → Prop := fun xs H Q => ∃ p ys, xs = [.ref p] ∧ Sq K H p ys ∧ ∀ l H2, H l = none → Same H H2 → H2 l = some (.lst ys) → Q (.ref l) H2
theorem call_listA : CallR X (.type "list") (rListA X.K) := CallR.imp call_list_of fun _ _ _ ⟨p, ys, h1, h2, q⟩ => ⟨p, ys, h1, h2, fun l hl => q l _ hl (Same.new hl) upd_same⟩
def rTupleA (K : PySem.W.Frag) : List V → Hp → VK → Prop := fun xs H Q => ∃ p ys, xs = [.ref p] ∧ Sq K H p ys ∧ ∀ l H2, Same H H2 → SqT K H2 l ys → Q (.ref l) H2
theorem call_tupleA : CallR X (.type "tuple") (rTupleA X.K) := CallR.imp call_tuple_of fun _ _ _ ⟨p, ys, h1, h2, q⟩ => ⟨p, ys, h1, h2.elim (fun h => .inl ⟨h, fun l hl => q l _ (Same.new hl) (SqT.of upd_same)⟩) fun h => .inr ⟨h, q p _ (Same.refl _) h⟩⟩
/-- xs[lo:hi] of a list, a tuple, a text -/
def rSlQ (K : PySem.W.Frag) : V → Option Int → Option Int → Hp → VK → Prop := fun x lo hi H Q => ∃ a xs, x = .ref a ∧ SqL K H a xs ∧ ∀ p H2, H p = none → Same H H2 → H2 p = some (.lst (cutV xs lo hi)) → Q (.ref p) H2
theorem sl_listA : SlR X (rSlQ X.K) := SlR.imp sl_list fun _ _ _ _ _ ⟨a, xs, h1, h2, q⟩ => ⟨a, xs, h1, h2, fun p hp => q p _ hp (Same.new hp) upd_same⟩
end
/-! ### more steps -/
section
variable {σ : L2.St} {H : Hp} {D : Ends} {K : PySem.W.Frag} {Q : VK} {p : Addr} {xs : List V}
theorem w_tup {ta : TA} (q : ta σ H fun xs H1 => xs.length ≤ sizeLine ∧ ∀ p H2, H1 p = none → Same H1 H2 → H2 p = some (.tup xs) → Q (.ref p) H2) : tTupA ta σ H Q := q
theorem w_lst {ta : TA} (q : ta σ H fun xs H1 => xs.length ≤ sizeLine ∧ ∀ p H2, H1 p = none → Same H1 H2 → H2 p = some (.lst xs) → Q (.ref p) H2) : tLstA ta σ H Q := q
theorem w_test {te : TE} {Q : Bool → Hp → Prop} (q : te σ H fun x H1 => ∃ k, x = .bl k ∧ Q k H1) : tTest te σ H Q := q
theorem w_B {te : TE} {Q : Bool → Hp → Prop} (q : te σ H fun x H1 => ∃ k, x = .bl k ∧ Q k H1) : tB te σ H Q := q
theorem w_bl {b : Bool} {Q : Bool → Prop} (q : Q b) : ∃ k, V.bl b = .bl k ∧ Q k := ⟨b, rfl, q⟩
theorem w_and {t u : TT} {Q : Bool → Hp → Prop} (q : t σ H fun c H1 => if c = true then u σ H1 Q else Q false H1) : tAnd t u σ H Q := q
theorem w_or {t u : TT} {Q : Bool → Hp → Prop} (q : t σ H fun c H1 => if c = true then Q true H1 else u σ H1 Q) : tOr t u σ H Q := q
theorem w_not {t : TT} {Q : Bool → Hp → Prop} (q : t σ H fun c H1 => Q (!c) H1) : tNot t σ H Q := q
theorem w_andV {ta tb : TE} (q : ta σ H fun x H1 => ∃ c, x = .bl c ∧ if c = true then tb σ H1 Q else Q (.bl false) H1) : tAndV ta tb σ H Q := q
theorem w_orV {ta tb : TE} (q : ta σ H fun x H1 => ∃ c, x = .bl c ∧ if c = true then Q (.bl true) H1 else tb σ H1 Q) : tOrV ta tb σ H Q := q
theorem w_notV {ta : TE} (q : ta σ H fun x H1 => ∃ c, x = .bl c ∧ Q (.bl (!c)) H1) : tNotV ta σ H Q := q
theorem w_ifE {t : TT} {ta tb : TE} (q : t σ H fun c H1 => if c = true then ta σ H1 Q else tb σ H1 Q) : tIf t ta tb σ H Q := q
theorem w_call {sp : Sp} {dvs : List V} {E : XK} {t : TA} (q : t σ H fun vs H1 => sp (vs ++ dvs) H1 Q E) : tCall sp dvs E t σ H Q := q
theorem w_bm {T : String} {r : V → List V → Hp → VK → Prop} {to : TE} {t : TA} (q : to σ H fun x H1 => tyV K T x H1 ∧ t σ H1 fun xs H2 => r x xs H2 Q) : tBM K T r to t σ H Q := q
theorem w_bm0 {T : String} {r : V → List V → Hp → VK → Prop} {to : TE} (q : to σ H fun x H1 => tyV K T x H1 ∧ r x [] H1 Q) : tBM0 K T r to σ H Q := q
theorem w_bits {to : TE} (q : to σ H fun x H1 => ∃ i, x = .int i ∧ Q (.int (Builtin.Int.intBits i : Nat)) H1) : tBits to σ H Q := q
theorem w_I0 {g : Int → Int → V} {i j : Int} (q : Q (g i j) H) : rI0 g (.int i) (.int j) H Q := ⟨i, j, rfl, rfl, q⟩
theorem w_I {C : Int → Int → Prop} {g : Int → Int → V} {i j : Int} (c : C i j) (q : Q (g i j) H) : rI C g (.int i) (.int j) H Q := ⟨i, j, rfl, rfl, c, q⟩
theorem w_U {g : Int → V} {i : Int} (q : Q (g i) H) : rU g (.int i) H Q := ⟨i, rfl, q⟩
theorem w_add {i j : Int} (q : Q (.int (i + j)) H) : rAddA K (.int i) (.int j) H Q := .inl ⟨i, j, rfl, rfl, q⟩
theorem w_addS {i j : Str} (c : i.length + j.length ≤ sizeLine) (q : Q (.str (i ++ j)) H) : rAddA K (.str i) (.str j) H Q := .inr (.inl ⟨i, j, rfl, rfl, c, q⟩)
theorem w_addL {a b : Addr} {xs ys : List V} (h1 : H a = some (.lst xs)) (h2 : H b = some (.lst ys)) (c : xs.length + ys.length ≤ sizeLine) (q : ∀ p H2, H p = none → Same H H2 → H2 p = some (.lst (xs ++ ys)) → Q (.ref p) H2) : rAddA K (.ref a) (.ref b) H Q := .inr (.inr ⟨a, b, xs, ys, rfl, rfl, h1, h2, c, q⟩)
theorem dec_i {i j : Int} : decide (V.int i = V.int j) = decide (i = j) := by
  by_cases h : i = j
  · rw [h, decide_eq_true rfl, decide_eq_true rfl]
  · rw [decide_eq_false h, decide_eq_false fun z => h (V.int.inj z)]
theorem dec_s {i j : Str} : decide (V.str i = V.str j) = decide (i = j) := by
  by_cases h : i = j
  · rw [h, decide_eq_true rfl, decide_eq_true rfl]
  · rw [decide_eq_false h, decide_eq_false fun z => h (V.str.inj z)]
theorem w_eqI {i j : Int} (q : Q (.bl (decide (i = j))) H) : rEqA K (.int i) (.int j) H Q := .inl ⟨rfl, by rw [dec_i]; exact q⟩
theorem w_neI {i j : Int} (q : Q (.bl (!decide (i = j))) H) : rNeA K (.int i) (.int j) H Q := .inl ⟨rfl, by rw [dec_i]; exact q⟩
theorem w_eqS {i j : Str} (q : Q (.bl (decide (i = j))) H) : rEqA K (.str i) (.str j) H Q := .inl ⟨rfl, by rw [dec_s]; exact q⟩
theorem w_neS {i j : Str} (q : Q (.bl (!decide (i = j))) H) : rNeA K (.str i) (.str j) H Q := .inl ⟨rfl, by rw [dec_s]; exact q⟩
theorem w_eqD {x y : V} {d e : PyData} (h1 : Dp K H x d) (h2 : Dp K H y e) (s1 : SeqAt.shaped d = true) (s2 : SeqAt.shaped e = true) (q : Q (.bl (PyData.eqv d e)) H) : rEqA K x y H Q := .inr ⟨d, e, h1, h2, s1, s2, q⟩
theorem w_neD {x y : V} {d e : PyData} (h1 : Dp K H x d) (h2 : Dp K H y e) (s1 : SeqAt.shaped d = true) (s2 : SeqAt.shaped e = true) (q : Q (.bl (!PyData.eqv d e)) H) : rNeA K x y H Q := .inr ⟨d, e, h1, h2, s1, s2, q⟩
theorem w_ix {i : Int} {v : V} (h : Sq K H p xs) (ha : atI xs i = some v) (q : Q v H) : rIx K (.ref p) (.int i) H Q := h.elim (fun h => .inl ⟨p, xs, i, v, rfl, rfl, h, ha, q⟩) fun h => .inr (.inl ⟨p, xs, i, v, rfl, rfl, h, ha, q⟩)
theorem w_len (xs : List V) (h : Sq K H p xs) (q : Q (.int (xs.length : Int)) H) : rLen K [.ref p] H Q := ⟨.ref p, xs.length, rfl, h.elim (fun h => .inl ⟨_, h, rfl⟩) fun h => .inr ⟨_, h, rfl⟩, q⟩
theorem w_lenS {x : Str} (hz : x.length ≤ sizeLine) (q : Q (.int (x.length : Int)) H) : rLen K [.str x] H Q := ⟨.str x, x.length, rfl, ⟨hz, rfl⟩, q⟩
theorem w_int {i : Int} (q : Q (.int i) H) : rInt [.int i] H Q := .inl ⟨i, rfl, q⟩
theorem w_abs {i : Int} (q : Q (.int (i.natAbs : Int)) H) : rAbs [.int i] H Q := ⟨i, rfl, by rw [show (if i < 0 then -i else i) = (i.natAbs : Int) by split <;> omega]; exact q⟩
theorem w_gcd {a b : Int} (q : Q (.int ((Nat.gcd a.natAbs b.natAbs : Nat) : Int)) H) : rGcd [.int a, .int b] H Q := ⟨a, b, rfl, q⟩
theorem w_list {ys : List V} (h : Sq K H p ys) (q : ∀ l H2, H l = none → Same H H2 → H2 l = some (.lst ys) → Q (.ref l) H2) : rListA K [.ref p] H Q := ⟨p, ys, rfl, h, q⟩
theorem w_tuple {ys : List V} (h : Sq K H p ys) (q : ∀ l H2, Same H H2 → SqT K H2 l ys → Q (.ref l) H2) : rTupleA K [.ref p] H Q := ⟨p, ys, rfl, h, q⟩
theorem tyx_l (h : SqL K H p xs) : TyX K H (.ref p) (.type "list") := by
  rcases h with (h | ⟨o, h⟩) | ⟨o, its, n, h1, h2, _⟩
  · exact .base (.lst h)
  · exact .base (.frz h)
  · exact .kList h1 h2
theorem tyx_t (h : SqT K H p xs) : TyX K H (.ref p) (.type "tuple") := by
  rcases h with (h | ⟨o, h⟩) | ⟨o, its, n, h1, h2, _⟩
  · exact .base (.tup h)
  · exact .fTuple h
  · exact .kTuple h1 h2
theorem w_isi {x : V} {a c : String} {b : Bool} (ty : TyX K H x (.type a)) (e : kitB a c = some b) (q : Q (.bl b) H) : rIsA K [x, .ty c] H Q := .inl ⟨x, .ty c, _, _, b, rfl, .ty c, ty, kit_ty e, q⟩
theorem w_append {l : Addr} {y : V} (h : H l = some (.lst xs)) (hz : xs.length < sizeLine) (q : ∀ H2, But l H H2 → H2 l = some (.lst (xs ++ [y])) → Q .non H2) : rAppendA (.ref l) [y] H Q := ⟨l, xs, y, rfl, rfl, h, hz, q⟩
theorem w_new {n : Nat} {B : Prop} (hn : n ≤ sizeLine) (q : B) : n ≤ sizeLine ∧ B := ⟨hn, q⟩
theorem iteD {c : Prop} [Decidable c] {A B : Prop} (h1 : c → A) (h2 : ¬ c → B) : if decide c = true then A else B := by
  by_cases h : c
  · rw [decide_eq_true h]
    exact iteT (h1 h)
  · rw [decide_eq_false h]
    exact iteF (h2 h)
theorem iteN {c : Bool} {A B : Prop} (h1 : c = false → A) (h2 : c = true → B) : if (!c) = true then A else B := by
  cases c with
  | true => exact iteF (h2 rfl)
  | false => exact iteT (h1 rfl)
theorem iteB {c : Bool} {A B : Prop} (h1 : c = true → A) (h2 : c = false → B) : if c = true then A else B := by
  cases c with
  | true => exact iteT (h1 rfl)
  | false => exact iteF (h2 rfl)
end
/-! ### defs -/
/-- the def nm of the text stands behind the top -/
structure At (K : PySem.W.Frag) (mg : Str → Option Value) (nm : Str) (st : Stmt) : Prop where
  ex : ∃ fd, FunD K nm nm (defArgs st) (defBody st) (defScope st) [] [] (He.ga K nm) fd
  gl : mg nm = some (.ref (He.ga K nm))
/-- it keeps its promise -/
structure Def (P : Program) (w : World) (K : PySem.W.Frag) (mg : Str → Option Value) (base : Heap) (nm : Str) (k : Nat) (ps : List Str) (sp : Sp) : Prop where
  ex : ∃ f fd, FnOk P w K mg base (L2N.CX P w) k f fd ps sp ∧ mg nm = some (.ref f) ∧ PySem.W.keepIn K (.ref f) = true ∧ Binds K fd ps [] ∧ ∃ o, K.lookup f = some o ∧ o.data = .func fd
section
variable {P : Program} {w : World} {K : PySem.W.Frag} {mg : Str → Option Value} {base : Heap}
theorem Def.of {nm : Str} {st : Stmt} {N ps : List Str} {k : Nat} {sp : Sp} (h : At K mg nm st) (S : FnScope N ps (defScope st))
    (hbind : ∀ (kV doc pm : Value) (an : Option Addr) (cdv ct : Value) (us : List Value), us.length = ps.length → bindArgs (PySem.W.fnOf nm nm (defArgs st) (defBody st) (defScope st) .none kV doc pm an cdv ct) ⟨us, []⟩ = pure (ps.zip us))
    (len : ∀ vs H Q E, sp vs H Q E → vs.length = ps.length)
    (hbody : ∀ (f : Addr) (cdv : Value) (A : Around) (outer : List Env) (s : Shared) (H : Hp) (vs : List V) (Q : VK) (E : XK), Room k (A.deeper (envOfC nm (defScope st) s.heap.objs.size f cdv)) → sp vs H Q E →
      ∃ t, PSs (cxOf (L2N.CX P w) P w K mg base N nm (defScope st) f cdv A outer s H E) (defBody st) t ∧ t { nx := fun _ H' => Q .non H', rt := Q } (start N vs) H) : Def P w K mg base nm (k + 1) ps sp := by
  obtain ⟨fd, F⟩ := h.ex
  refine ⟨_, fd, F.ok S len (hbody (He.ga K nm)), h.gl, F.kp, F.bindsN hbind, ?_⟩
  obtain ⟨oc, od, dV, kV, doc, pm, an, cdv, ct, osl, rfl, lk, _⟩ := F.ex
  exact ⟨_, lk, rfl⟩
theorem Def.mono {nm : Str} {j k : Nat} {ps : List Str} {sp : Sp} (d : Def P w K mg base nm j ps sp) (h : j ≤ k) : Def P w K mg base nm k ps sp := by
  obtain ⟨f, fd, F, a, b, c⟩ := d.ex
  exact ⟨f, fd, F.mono h, a, b, c⟩
end
section
variable {X : Cx} {nm : Str} {k : Nat} {ps : List Str} {sp : Sp} {p pos : Pos} {e : Expr} {es : List Expr} {t : TA}
theorem pe_def (d : Def X.prog X.w X.K X.mg X.base nm k ps sp) (hr : Room k X.A) (hg : Gl X nm) (ha : PA X (e :: es) t) (hdb : (nm == ("__debug__" : Str)) = false := by decide)
    (he : starEach (e :: es) X.env = (false, eval e X.env) :: starEach es X.env := by rfl) (hpl : (backTo pos (starEach es X.env)).any (·.1) = false := by rfl) : PE X (.Call (.Name nm p) (e :: es) [] pos) (tCall sp [] E0 t) := by
  obtain ⟨f, fd, F, hm, hk, hb, _⟩ := d.ex
  exact pe_call F hr hg hm hk hb .nil passN ha hdb he hpl
theorem pe_def0 (d : Def X.prog X.w X.K X.mg X.base nm k ps sp) (hr : Room k X.A) (hg : Gl X nm) (hdb : (nm == ("__debug__" : Str)) = false := by decide) : PE X (.Call (.Name nm p) [] [] pos) (tCall sp [] E0 tNil) := by
  obtain ⟨f, fd, F, hm, hk, hb, _⟩ := d.ex
  exact pe_call0 F hr hg hm hk hb .nil passN hdb
/-- a call whose exception is wished for at the caller's slots -/
theorem pe_defS {W : WX} (d : Def X.prog X.w X.K X.mg X.base nm k ps sp) (hr : Room k X.A) (hg : Gl X nm) (tk : L2N.Takes X W) (ha : PA X (e :: es) t) (hdb : (nm == ("__debug__" : Str)) = false := by decide)
    (he : starEach (e :: es) X.env = (false, eval e X.env) :: starEach es X.env := by rfl) (hpl : (backTo pos (starEach es X.env)).any (·.1) = false := by rfl) : PE X (.Call (.Name nm p) (e :: es) [] pos) (tCallS sp (WE W) t) := by
  obtain ⟨f, fd, F, hm, hk, hb, _⟩ := d.ex
  exact pe_callS F hr hg hm hk hb (fun σ => passAtN tk σ) ha hdb he hpl
theorem w_callS {σ : L2.St} {H : Hp} {Q : VK} {sp : Sp} {E : L2.St → XK} {t : TA} (q : t σ H fun vs H1 => sp vs H1 Q (E σ)) : tCallS sp E t σ H Q := q
end
/-! ### sizes -/
abbrev Sm (n : Nat) (x : Int) : Prop := x.natAbs < 2 ^ n
theorem Sm.mono {a b : Nat} {x : Int} (h : Sm a x) (e : a ≤ b) : Sm b x := Nat.lt_of_lt_of_le h (Nat.pow_le_pow_right (by decide) e)
theorem Sm.mulOk {a b : Nat} {x y : Int} (h : Sm a x) (h' : Sm b y) (e : a + b ≤ 999990) : CMulW x y :=
  wide_mul (a := a + 1) (b := b + 1) (Sm.mono h (Nat.le_succ a)) (Sm.mono h' (Nat.le_succ b)) (Nat.succ_pos _) (Nat.succ_pos _) (by omega)
theorem Sm.mul {a b : Nat} {x y : Int} (h : Sm a x) (h' : Sm b y) : Sm (a + b) (x * y) := wide_lt h h'
theorem Sm.add {a : Nat} {x y : Int} (h : Sm a x) (h' : Sm a y) : Sm (a + 1) (x + y) := by
  have e : 2 ^ (a + 1) = 2 ^ a + 2 ^ a := by rw [Nat.pow_succ]; omega
  show (x + y).natAbs < 2 ^ (a + 1)
  have h1 : x.natAbs < 2 ^ a := h
  have h2 : y.natAbs < 2 ^ a := h'
  rw [e]
  omega
theorem Sm.neg {a : Nat} {x : Int} (h : Sm a x) : Sm a (-x) := by
  show (-x).natAbs < 2 ^ a
  rw [Int.natAbs_neg]
  exact h
theorem Sm.divOk {b : Nat} {x y : Int} (h0 : y ≠ 0) (h : Sm b y) (e : b ≤ 8990) : CDivG x y :=
  ⟨h0, Nat.lt_of_lt_of_le (PySem.Flt.log2_lt_of (Nat.succ_pos b) (Sm.mono h (Nat.le_succ b))) (by omega)⟩
theorem Sm.le {a : Nat} {x y : Int} (h : Sm a y) (e : x.natAbs ≤ y.natAbs) : Sm a x := Nat.lt_of_le_of_lt e h
theorem small_div {x y : Int} (h0 : 0 < y) (h : y < 1073741824) : CDivG x y := Sm.divOk (b := 30) (by omega) (show y.natAbs < 2 ^ 30 by omega) (by omega)
theorem small_mul {x y : Int} (h0 : y.natAbs < 1073741824) (h : x.natAbs < 1073741824) : CMulW x y := Sm.mulOk (a := 30) (b := 30) (show x.natAbs < 2 ^ 30 by omega) (show y.natAbs < 2 ^ 30 by omega) (by omega)
/-! ### loops -/
section
variable {K : PySem.W.Frag} {σ : L2.St} {H : Hp} {D : Ends} {g : TG} {tb : TS}
/-- what a for asks of its iterator J -/
def ForW (J : It) (g : TG) (tb : TS) (D : Ends) (σ : L2.St) (H : Hp) : Prop := ∃ W : Nat → Nat → L2.St → Hp → Prop, (∃ m, W 0 m σ H) ∧ ∀ i m σ H, W i m σ H →
  (J.stop i H ∧ D.nx σ H) ∨ (J.go i H ∧ ∃ N : L2.St → Hp → Prop, (∀ σ' H', N σ' H' → ∃ m', m' < m ∧ W (i + 1) m' σ' H') ∧ ∀ x H', J.yld i H x H' → g x σ H' fun σ2 H2 => tb { D with nx := N, ct := N, bk := D.nx } σ2 H2)
theorem w_for {wi : TI} (q : wi σ H fun J H1 => ForW J g tb D σ H1) : tFor wi g tb D σ H := q
theorem w_rng1 {ta : TA} {R : It → Hp → Prop} (q : ta σ H fun vs H1 => ∃ j : Int, vs = [.int j] ∧ -(2 ^ 62) ≤ j ∧ j < 2 ^ 62 ∧ R (Itr 0 j.toNat) H1) : iRng1 ta σ H R := q
theorem w_rng2 {ta : TA} {R : It → Hp → Prop} (q : ta σ H fun vs H1 => ∃ i j : Int, vs = [.int i, .int j] ∧ (-(2 ^ 62) ≤ i ∧ i < 2 ^ 62 ∧ -(2 ^ 62) ≤ j ∧ j < 2 ^ 62) ∧ R (Itr i (j - i).toNat) H1) : iRng2 ta σ H R := q
theorem w_iseq {tl : TE} {R : It → Hp → Prop} (q : tl σ H fun x H1 => ∃ a, x = .ref a ∧ (((∃ xs, SqL K H1 a xs) ∧ R (Itl K a) H1) ∨ ((∃ xs, SqT K H1 a xs) ∧ R (Itt K a) H1))) : iSeq K tl σ H R := q
/-- range(j) -/
theorem for_rng1 {j : Int} {n : Nat} (hj : j.toNat = n) (h1 : -(2 ^ 62) ≤ j) (h2 : j < 2 ^ 62) (Pv : Nat → L2.St → Hp → Prop) (h0 : Pv 0 σ H)
    (hs : ∀ i σ H, i < n → Pv i σ H → g (.int (i : Int)) σ H fun σ2 H2 => tb { D with nx := Pv (i + 1), ct := Pv (i + 1), bk := D.nx } σ2 H2) (hd : ∀ σ H, Pv n σ H → D.nx σ H) :
    ∃ k : Int, [V.int j] = [V.int k] ∧ -(2 ^ 62) ≤ k ∧ k < 2 ^ 62 ∧ ForW (Itr 0 k.toNat) g tb D σ H := by
  subst hj
  exact ⟨j, rfl, h1, h2, for_range (lo := 0) (n := j.toNat) Pv h0 (fun i σ H hi p => by rw [Int.zero_add]; exact hs i σ H hi p) hd⟩
theorem for_rng2 {a j : Int} {n : Nat} (hj : (j - a).toNat = n) (h1 : -(2 ^ 62) ≤ a) (h2 : a < 2 ^ 62) (h3 : -(2 ^ 62) ≤ j) (h4 : j < 2 ^ 62) (Pv : Nat → L2.St → Hp → Prop) (h0 : Pv 0 σ H)
    (hs : ∀ i σ H, i < n → Pv i σ H → g (.int (a + (i : Int))) σ H fun σ2 H2 => tb { D with nx := Pv (i + 1), ct := Pv (i + 1), bk := D.nx } σ2 H2) (hd : ∀ σ H, Pv n σ H → D.nx σ H) :
    ∃ i k : Int, [V.int a, V.int j] = [V.int i, V.int k] ∧ (-(2 ^ 62) ≤ i ∧ i < 2 ^ 62 ∧ -(2 ^ 62) ≤ k ∧ k < 2 ^ 62) ∧ ForW (Itr i (k - i).toNat) g tb D σ H := by
  subst hj
  exact ⟨a, j, rfl, ⟨h1, h2, h3, h4⟩, for_range (lo := a) (n := (j - a).toNat) Pv h0 hs hd⟩
/-- a list or a tuple that stands in H0, from which all the heaps grow -/
theorem for_seq {a : Addr} {xs : List V} (H0 : Hp) (hq : Sq K H0 a xs) (Pv : Nat → L2.St → Hp → Prop) (h0 : Pv 0 σ H) (hl : ∀ i σ H, i ≤ xs.length → Pv i σ H → Same H0 H)
    (hs : ∀ i x σ H, xs[i]? = some x → Pv i σ H → g x σ H fun σ2 H2 => tb { D with nx := Pv (i + 1), ct := Pv (i + 1), bk := D.nx } σ2 H2) (hd : ∀ σ H, Pv xs.length σ H → D.nx σ H) :
    ∃ b, V.ref a = .ref b ∧ (((∃ xs, SqL K H b xs) ∧ ForW (Itl K b) g tb D σ H) ∨ ((∃ xs, SqT K H b xs) ∧ ForW (Itt K b) g tb D σ H)) := by
  refine ⟨a, rfl, ?_⟩
  rcases hq with hq | hq
  · exact .inl ⟨⟨xs, Same.sl (hl 0 σ H (Nat.zero_le _) h0) hq⟩, for_list Pv h0 (fun i σ H hi p => Same.sl (hl i σ H hi p) hq) hs hd⟩
  · exact .inr ⟨⟨xs, Same.st (hl 0 σ H (Nat.zero_le _) h0) hq⟩, for_tup Pv h0 (fun i σ H hi p => Same.st (hl i σ H hi p) hq) hs hd⟩
end
/-! ### targets; bits -/
theorem g_cons {t : TG} {u : TGs} {v : V} {r : List V} {σ : L2.St} {H : Hp} {Q : L2.St → Hp → Prop} (q : t v σ H fun σ' H' => u r σ' H' Q) : gCons t u (v :: r) σ H Q := ⟨v, r, rfl, q⟩
theorem g_nil {σ : L2.St} {H : Hp} {Q : L2.St → Hp → Prop} (q : Q σ H) : gNil [] σ H Q := ⟨rfl, q⟩
theorem bits_lt (n : Nat) : n < 2 ^ Builtin.Int.intBits (n : Int) := by
  unfold Builtin.Int.intBits
  split
  · rename_i h
    have : (n : Int) = 0 := by simpa using h
    omega
  · rw [Int.natAbs_natCast]
    exact Nat.lt_log2_self
/-! ### the methods of a list; medium numbers -/
theorem w_tyl {K : PySem.W.Frag} {l : Addr} {H : Hp} {B : Prop} (xs : List V) (h : H l = some (.lst xs)) (q : B) : tyV K "list" (.ref l) H ∧ B := ⟨.inl ⟨rfl, _, SqL.of h⟩, q⟩
theorem med_mul {x y : Int} (h0 : x.natAbs < 18446744073709551616) (h : y.natAbs < 18446744073709551616) : CMulW x y := Sm.mulOk (a := 64) (b := 64) h0 h (by decide)
theorem size_of {n : Nat} (h : n < 16777216) : n < sizeLine := by rw [sizeLine_eq]; exact h
theorem size_le {n : Nat} (h : n ≤ 16777216) : n ≤ sizeLine := by rw [sizeLine_eq]; exact h
theorem map_at {ns : List Int} {i : Nat} {x : V} (h : (ns.map V.int)[i]? = some x) : ∃ c, ns[i]? = some c ∧ V.int c = x := by
  rw [List.getElem?_map] at h
  cases e : ns[i]? with
  | none => rw [e] at h; cases h
  | some c => rw [e] at h; exact ⟨c, rfl, Option.some.inj h⟩
theorem map_get {ns : List Int} {i : Nat} {c : Int} (h : ns[i]? = some c) : (ns.map V.int)[i]? = some (.int c) := by
  rw [List.getElem?_map, h]; rfl
/-! ### powers of ten; items of written lists -/
section
variable {H : Hp} {Q : VK}
theorem w_pw {i j : Int} (k : Int) (e : i ^ j.toNat = k) (c : CPow i j) (q : Q (.int k) H) : rI CPow (fun i j => .int (i ^ j.toNat)) (.int i) (.int j) H Q := ⟨i, j, rfl, rfl, c, by show Q (.int (i ^ j.toNat)) H; rw [e]; exact q⟩
theorem w_p6 (q : Q (.int 1000000) H) : rI CPow (fun i j => .int (i ^ j.toNat)) (.int 10) (.int 6) H Q := w_pw 1000000 (by decide) ⟨by decide, by decide, by decide⟩ q
theorem w_p9 (q : Q (.int 1000000000) H) : rI CPow (fun i j => .int (i ^ j.toNat)) (.int 10) (.int 9) H Q := w_pw 1000000000 (by decide) ⟨by decide, by decide, by decide⟩ q
theorem w_p12 (q : Q (.int 1000000000000) H) : rI CPow (fun i j => .int (i ^ j.toNat)) (.int 10) (.int 12) H Q := w_pw 1000000000000 (by decide) ⟨by decide, by decide, by decide⟩ q
theorem w_p15 (q : Q (.int 1000000000000000) H) : rI CPow (fun i j => .int (i ^ j.toNat)) (.int 10) (.int 15) H Q := w_pw 1000000000000000 (by decide) ⟨by decide, by decide, by decide⟩ q
theorem w_p18 (q : Q (.int 1000000000000000000) H) : rI CPow (fun i j => .int (i ^ j.toNat)) (.int 10) (.int 18) H Q := w_pw 1000000000000000000 (by decide) ⟨by decide, by decide, by decide⟩ q
theorem w_p24 (q : Q (.int 1000000000000000000000000) H) : rI CPow (fun i j => .int (i ^ j.toNat)) (.int 10) (.int 24) H Q := w_pw 1000000000000000000000000 (by decide) ⟨by decide, by decide, by decide⟩ q
theorem w_p30 (q : Q (.int 1000000000000000000000000000000) H) : rI CPow (fun i j => .int (i ^ j.toNat)) (.int 10) (.int 30) H Q := w_pw 1000000000000000000000000000000 (by decide) ⟨by decide, by decide, by decide⟩ q
end
theorem big_mul {x y : Int} (h0 : x.natAbs ≤ 10000000000000000000000000000000000000000000000000000000000000) (h : y.natAbs ≤ 10000000000000000000000000000000000000000000000000000000000000) : CMulW x y :=
  Sm.mulOk (a := 210) (b := 210) (Nat.lt_of_le_of_lt h0 (by decide)) (Nat.lt_of_le_of_lt h (by decide)) (by decide)
theorem ix_ints (ns : List Int) {i : Int} (h0 : 0 ≤ i) (h1 : i < ns.length) : ∃ c, ns[i.toNat]? = some c ∧ c ∈ ns ∧ atI (ns.map V.int) i = some (.int c) := by
  have hi : i.toNat < ns.length := by omega
  refine ⟨ns[i.toNat], List.getElem?_eq_getElem hi, List.getElem_mem hi, ?_⟩
  have g := atI_nat (map_get (List.getElem?_eq_getElem hi))
  rw [Int.toNat_of_nonneg h0] at g
  exact g
theorem w_slq {K : PySem.W.Frag} {H : Hp} {Q : VK} {a : Addr} {lo hi : Option Int} (xs ys : List V) (h : SqL K H a xs) (e : cutV xs lo hi = ys) (q : ∀ p H2, H p = none → Same H H2 → H2 p = some (.lst ys) → Q (.ref p) H2) : rSlQ K (.ref a) lo hi H Q :=
  ⟨a, xs, rfl, h, fun p H2 n s z => q p H2 n s (by rw [z, e])⟩
theorem w_slice {r : V → Option Int → Option Int → Hp → VK → Prop} {te : TE} {tl th : TO} {σ : L2.St} {H : Hp} {Q : VK} (q : te σ H fun x H1 => tl σ H1 fun l H2 => th σ H2 fun u H3 => r x l u H3 Q) : tSl r te tl th σ H Q := q
theorem w_part {t : TE} {σ : L2.St} {H : Hp} {Q : Option Int → Hp → Prop} (q : t σ H fun x H1 => ∃ i, x = .int i ∧ Q (some i) H1) : tPart t σ H Q := q
theorem w_nopart {σ : L2.St} {H : Hp} {Q : Option Int → Hp → Prop} (q : Q none H) : tNoPart σ H Q := q
theorem w_ei {i : Int} {Q : Int → Prop} (q : Q i) : ∃ k, V.int i = .int k ∧ Q k := ⟨i, rfl, q⟩
/-! ### ways that meet behind a statement -/
def tCut (t u : TS) : TS := fun D σ H => ∃ M : L2.St → Hp → Prop, t { D with nx := M } σ H ∧ ∀ σ' H', M σ' H' → u D σ' H'
theorem pss_cut {X : Cx} {st : Stmt} {rest : List Stmt} {t u : TS} (h1 : PS X st t) (h2 : PSs X rest u) : PSs X (st :: rest) (tCut t u) := by
  refine ⟨fun pins s σ H D I ⟨M, h, k⟩ => wpAny_execs_cons (thn (h1.run pins s σ H { D with nx := M } I h) fun f s1 q => ?_)⟩
  cases f with
  | next =>
    obtain ⟨σ', H', I', m⟩ := q
    exact h2.run pins s1 σ' H' D I' (k σ' H' m)
  | ret v => exact q
  | brk => exact q
  | cont => exact q
theorem w_cut {t u : TS} {D : Ends} {σ : L2.St} {H : Hp} (M : L2.St → Hp → Prop) (h : t { D with nx := M } σ H) (k : ∀ σ' H', M σ' H' → u D σ' H') : tCut t u D σ H := ⟨M, h, k⟩
/-! ### a list repeated -/
section
variable {X : Cx}
def rRepA : R2 := fun x y H Q => ∃ l k xs, x = .ref l ∧ y = .int k ∧ H l = some (.lst xs) ∧ -(2 ^ 63) ≤ k ∧ k < 2 ^ 63 ∧ xs.length * k.toNat ≤ sizeLine ∧ ∀ p H2, H p = none → Same H H2 → H2 p = some (.lst (List.replicate k.toNat xs).flatten) → Q (.ref p) H2
theorem op_repA : OpR X (binaryOp .Mult) rRepA := OpR.imp op_rep fun _ _ _ _ ⟨l, k, xs, h1, h2, h3, h4, h5, h6, q⟩ => ⟨l, k, xs, h1, h2, h3, h4, h5, h6, fun p hp => q p _ hp (Same.new hp) upd_same⟩
theorem w_rep {H : Hp} {Q : VK} {l : Addr} {k : Int} {xs : List V} (ys : List V) (h : H l = some (.lst xs)) (h0 : -(2 ^ 63) ≤ k) (h1 : k < 2 ^ 63) (hz : xs.length * k.toNat ≤ sizeLine) (e : (List.replicate k.toNat xs).flatten = ys) (q : ∀ p H2, H p = none → Same H H2 → H2 p = some (.lst ys) → Q (.ref p) H2) : rRepA (.ref l) (.int k) H Q :=
  ⟨l, k, xs, rfl, rfl, h, h0, h1, hz, fun p H2 n s z => q p H2 n s (by rw [z, e])⟩
end
/-! ### what the head tells of an exception's class -/
def xcB (K : PySem.W.Frag) (D : Addr) : Bool :=
  decide (PySem.W.findIn K (.ref D) "__getattribute__" = some (some (.builtin "BaseException.__getattribute__"))) && (decide (PySem.W.findIn K (.ref D) "__getattr__" = some none) && (decide (PySem.W.subIn K (.ref D) (.type "BaseException") = some true) && (PySem.W.hasDictIn K D &&
  (decide (PySem.W.findIn K (.ref D) "__class__" = some (some (.builtin "object.__class__"))) && (decide (PySem.W.specialIn K (.builtin "object.__class__") "__get__" = some (some (.builtin "getset_descriptor.__get__"))) && (decide (PySem.W.takesIn K (.builtin "object.__class__") = some true) && decide (PySem.W.mroIn K D (.type "object") = some true)))))))
theorem xcB_ok {K : PySem.W.Frag} {D : Addr} (h : xcB K D = true) : ExcC K D := by
  obtain ⟨h1, h⟩ := He.ba h
  obtain ⟨h2, h⟩ := He.ba h
  obtain ⟨h3, h⟩ := He.ba h
  obtain ⟨h4, h⟩ := He.ba h
  obtain ⟨h5, h⟩ := He.ba h
  obtain ⟨h6, h⟩ := He.ba h
  obtain ⟨h7, h8⟩ := He.ba h
  exact ⟨of_decide_eq_true h1, of_decide_eq_true h2, of_decide_eq_true h3, h4, of_decide_eq_true h5, of_decide_eq_true h6, of_decide_eq_true h7, of_decide_eq_true h8⟩
/-- X of the text is an error over ValueError without an __init__ -/
abbrev ExcPlain (K : PySem.W.Frag) (x : Str) : Prop := PySem.W.excIn K (He.ga K x) He.veBase "ValueError.__new__" = true ∧ PySem.W.keepIn K (.ref (He.ga K x)) = true ∧ PySem.W.subIn K (.ref (He.ga K x)) (.type "BaseException") = some true ∧ PySem.W.typeIn K (.ref (He.ga K x)) = some (.type "type")
theorem Same.at {H H' : Hp} {a : Addr} {o : HO} (e : Same H H') (h : H a = some o) : H' a = some o := e a o h
theorem map_at0 {K : PySem.W.Frag} {H : Hp} {Q : VK} {p : Addr} {ns : List Int} {i : Nat} {c : Int} (h : Sq K H p (ns.map V.int)) (e : ns[i]? = some c) (q : Q (.int c) H) : rIx K (.ref p) (.int (i : Int)) H Q := w_ix h (atI_nat (map_get e)) q
/-! ### carrying over, the elder heap named -/
section
variable {K : PySem.W.Frag} {H' : Hp} {a : Addr} {xs : List V} (H : Hp)
theorem tr_sl (e : Same H H') (h : SqL K H a xs) : SqL K H' a xs := Same.sl e h
theorem tr_st (e : Same H H') (h : SqT K H a xs) : SqT K H' a xs := Same.st e h
theorem tr_sq (e : Same H H') (h : Sq K H a xs) : Sq K H' a xs := Same.sq e h
theorem tr_at {o : HO} (e : Same H H') (h : H a = some o) : H' a = some o := e a o h
theorem tr_dp {v : V} {d : PyData} (e : Same H H') (h : Dp K H v d) : Dp K H' v d := Same.dp e h
theorem tr_same {H0 : Hp} (e : Same H H') (h : Same H0 H) : Same H0 H' := h.trans e
end
theorem sq_l {K : PySem.W.Frag} {H : Hp} {a : Addr} {xs : List V} (h : SqL K H a xs) : Sq K H a xs := .inl h
theorem sq_t {K : PySem.W.Frag} {H : Hp} {a : Addr} {xs : List V} (h : SqT K H a xs) : Sq K H a xs := .inr h
theorem tr_eq {H : Hp} {a : Addr} {o : HO} (u : HO) (h : H a = some u) (e : u = o) : H a = some o := e ▸ h
theorem tr_eqt {K : PySem.W.Frag} {H : Hp} {a : Addr} {xs : List V} (ys : List V) (h : SqT K H a ys) (e : ys = xs) : SqT K H a xs := e ▸ h
theorem tr_eql {K : PySem.W.Frag} {H : Hp} {a : Addr} {xs : List V} (ys : List V) (h : SqL K H a ys) (e : ys = xs) : SqL K H a xs := e ▸ h
theorem cxOf_K {CX : CXT} {P : Program} {w : World} {K : PySem.W.Frag} {mg : Str → Option Value} {base : Heap} {N : List Str} {qual : Str} {scope : Scope} {f : Addr} {cd : Value} {A : Around} {outer : List Env} {s : Shared} {H : Hp} {E : XK} :
    (cxOf CX P w K mg base N qual scope f cd A outer s H E).K = K := rfl
/-! ### the end: nothing leaves the law -/
theorem fnOk_quiet {P : Program} {w : World} {K : PySem.W.Frag} {mg : Str → Option Value} {base : Heap} {k : Nat} {f : Addr} {fd : FuncData} {ps : List Str} {sp : Sp} (F : FnOk P w K mg base (L2N.CX P w) k f fd ps sp) (hE : ∀ vs H Q E, sp vs H Q E → sp vs H Q E0) : FnOk P w K mg base CX0 k f fd ps sp := by
  refine ⟨F.len, fun A outer s H args us vs Q E hr e0 hb rv h => codeAny_mono (F.run A outer s H args us vs Q E0 hr e0 hb rv (hE _ _ _ _ h)) fun r s' q => ?_⟩
  cases r with
  | error e =>
    obtain ⟨_, _, _, _, _, _, _, _, _, _, _, _, z⟩ := q
    exact z.elim
  | ok fl => cases fl <;> exact q
theorem Def.quiet {P : Program} {w : World} {K : PySem.W.Frag} {mg : Str → Option Value} {base : Heap} {nm : Str} {k : Nat} {ps : List Str} {sp : Sp} {x qual : Str} {params : Arguments} {body : List Stmt} {scope : Scope} {fa : Addr} {fd : FuncData}
    (d : Def P w K mg base nm k ps sp) (hm : mg nm = some (.ref fa)) (F : FunD K x qual params body scope [] [] fa fd) (hE : ∀ vs H Q E, sp vs H Q E → sp vs H Q E0) : FnOk P w K mg base CX0 k fa fd ps sp := by
  obtain ⟨f, fd', G, h, _, _, o, lk, ho⟩ := d.ex
  rw [hm] at h
  cases h
  obtain ⟨oc, od, dV, kV, doc, pm, an, cdv, ct, osl, e, lk2, _⟩ := F.ex
  rw [lk] at lk2
  cases lk2
  have e2 : fd = fd' := by injection ho
  rw [e2]
  exact fnOk_quiet G hE
end JP
set_option Elab.async false
set_option linter.all false
set_option maxRecDepth 100000
set_option maxHeartbeats 4000000
namespace JP
open PySem PySem.Spec PyProof.Rows L2 L2H HotX
/-! ### a caught exception of a class that is known, asked and handed to a def -/
/-- isinstance(e, c) | isinstance(e, (c, ..)) of the exception at a, its class cls, its dict d -/
def rIsX (K : PySem.W.Frag) (cls : Value) (d : Option Addr) (a : Addr) : List V → Hp → VK → Prop := fun xs H Q => ∃ D, cls = .ref D ∧ d = none ∧ ExcC K D ∧ (rIsE K D a xs H Q ∨ rIsET K D a xs H Q)
theorem call_isX {X : Cx} {a : Addr} {oe : Obj} {cls : Value} {d : Option Addr} (hp : (a, oe) ∈ X.pn) (hz : Zc cls d oe) (hf : ∃ vs, oe.data = .fields vs) : CallR X (.builtin "isinstance") (rIsX X.K cls d a) := by
  intro pins s σ H xs us Q I r h
  obtain ⟨D, rfl, rfl, C, h | h⟩ := h
  · exact call_isEP C hp hz hf pins s σ H xs us Q I r h
  · exact call_isET C hp hz hf pins s σ H xs us Q I r h
/-- a def's promise where the exception p is handled, of which Zp is known -/
structure FnZ (P : Program) (w : World) (K : PySem.W.Frag) (mg : Str → Option Value) (base : Heap) (k : Nat) (f : Addr) (fd : FuncData) (ps : List Str) (Zp : Addr × Obj → Prop) (sp : Addr → Sp) : Prop where
  len : ∀ a vs H Q E, sp a vs H Q E → vs.length = ps.length
  run : ∀ (A : Around) (outer : List Env) (s : Shared) (H : Hp) (args : Args) (us : List Value) (vs : List V) (Q : VK) (E : XK) (p : Addr × Obj), RoomH k A → Hot1 A p → Zp p → PinOk outer H s p → Env0 P w K mg base A outer s H →
    BindsTo s fd args (ps.zip us) → Vals vs us → sp p.1 vs H Q E → codeAny (model P w) A (.call (.ref f) args) (CR (L2N.CX P w) outer P w H s Q E) s
/-- the body may use what is known of the pin -/
theorem fn_ofZ {P : Program} {w : World} {K : PySem.W.Frag} {mg : Str → Option Value} {base : Heap} {k : Nat} {f : Addr} {name qual : Str} {params : Arguments} {body : List Stmt} {scope : Scope} {dV kV doc pm cdv ct oc : Value} {an od : Option Addr}
    {osl : Array (Option Value)} {N ps : List Str} {Zp : Addr × Obj → Prop} {sp : Addr → Sp} (lk : K.lookup f = some ⟨oc, od, .func (PySem.W.fnOf name qual params body scope dV kV doc pm an cdv ct), osl⟩) (hcd : PySem.W.codeIn K cdv qual = true) (S : FnScope N ps scope)
    (len : ∀ a vs H Q E, sp a vs H Q E → vs.length = ps.length)
    (hbody : ∀ (A : Around) (outer : List Env) (s : Shared) (H : Hp) (vs : List V) (Q : VK) (E : XK) (p : Addr × Obj), Hot1 A p → Zp p → RoomH k (A.deeper (envOfC qual scope s.heap.objs.size f cdv)) → sp p.1 vs H Q E →
      ∃ t, PSs (cxH (L2N.CX P w) P w K mg base N qual scope f cdv A outer s H E p) body t ∧ t { nx := fun _ H' => Q .non H', rt := Q } (L2.start N vs) H) :
    FnZ P w K mg base (k + 1) f (PySem.W.fnOf name qual params body scope dV kV doc pm an cdv ct) ps Zp sp := by
  refine ⟨len, fun A outer s H args us vs Q E p hr hot hz hpin e0 hb r hsp => ?_⟩
  have KX : K.In s.heap := e0.mod.kin.keeps fun b o e => (e0.bs b o e).1
  have lim : s.heap.NoLimit := e0.mod.nolimit.keeps fun b o e => (e0.bs b o e).1
  have hl := len _ _ _ _ _ hsp
  have hkind : ∀ y ∈ ps.zip us, scope.names.lookup y.1 = some .local ∨ (scope.names.lookup y.1 = some .cell ∧ ((cellsFrom (s.heap.objs.size + 1) scope.names []).lookup y.1).isSome = true) := by
    rintro ⟨n, v⟩ hy
    exact (S.par n (List.of_mem_zip hy).1).imp id fun q => ⟨q, PySem.W.cellsFrom_some _ _ _ (.inl q)⟩
  refine codeAny_call_function hr.depth (KX _ _ lk) rfl S.co S.gen rfl (PySem.W.codeRec_of KX hcd) (hb _ _ _ _ (wpAny_newFunctionEnv_cells S.kind hkind fun env he s1 x => ?_))
  subst he
  refine ⟨lim.keeps x.toInCall.keep, codeAny_func ?_⟩
  obtain ⟨t, ht, hq⟩ := hbody A outer s H vs Q E p hot hz (hr.deeper _) hsp
  refine wpAny_mono (ht.run [] s1 _ H _ (inv_startH S hpin e0 hl r x) hq) (fun fl s' hs => ?_) fun e s' hs => hs
  cases fl with
  | ret u => obtain ⟨v, σ', H', J, rv, q⟩ := hs; exact ⟨v, H', J.os, J.bare, J.base, J.hok, rv, q⟩
  | next => obtain ⟨σ', H', J, q⟩ := hs; exact ⟨V.non, H', J.os, J.bare, J.base, J.hok, rfl, q⟩
  | brk => obtain ⟨_, _, _, q⟩ := hs; exact False.elim q
  | cont => obtain ⟨_, _, _, q⟩ := hs; exact False.elim q
/-- f(e) in a suite: the caught exception's class is D, it has no dict -/
def tCallZ (D : Addr) (cls : Value) (d : Option Addr) (sp : Sp) (t : TA) : TE := fun σ H Q => t σ H fun vs H1 => cls = .ref D ∧ d = none ∧ sp vs H1 Q E0
theorem w_callZ {D : Addr} {cls : Value} {d : Option Addr} {sp : Sp} {t : TA} {σ : L2.St} {H : Hp} {Q : VK} (q : t σ H fun vs H1 => cls = .ref D ∧ d = none ∧ sp vs H1 Q E0) : tCallZ D cls d sp t σ H Q := q
theorem pe_callZ {X : Cx} {k : Nat} {f D : Addr} {fd : FuncData} {ps : List Str} {sp : Addr → Sp} {x : Str} {q pos : Pos} {e : Expr} {es : List Expr} {t : TA} {p : Addr × Obj} {cls : Value} {d : Option Addr}
    (F : FnZ X.prog X.w X.K X.mg X.base k f fd ps (fun p => Zc (.ref D) none p.2) sp) (hr : RoomH k X.A) (hp : p ∈ X.pn) (hot : Hot1 X.A p) (hz : Zc cls d p.2) (hg : Gl X x) (hm : X.mg x = some (.ref f)) (hk : PySem.W.keepIn X.K (.ref f) = true) (hb : Binds X.K fd ps [])
    (ha : PA X (e :: es) t) (hdb : (x == ("__debug__" : Str)) = false := by decide) (he : starEach (e :: es) X.env = (false, eval e X.env) :: starEach es X.env := by rfl) (hpl : (backTo pos (starEach es X.env)).any (·.1) = false := by rfl) :
    PE X (.Call (.Name x q) (e :: es) [] pos) (tCallZ D cls d (sp p.1) t) := by
  refine ⟨fun pins s σ H Q I h => wpAny_Call_Name_kw (ld_glob I hg hm ?_ hdb)⟩
  refine PySem.W.callWith_K (h₀ := X.base) I.ok.mod.kin hk (thn (ha.run pos pins s σ H _ I h) fun us s1 ⟨vs, H1, I1, r, hcls, hd, q⟩ => ⟨I1.kIn, ?_⟩) he hpl
  subst hcls hd
  have hl : us.length = ps.length := r.length.symm.trans (F.len _ _ _ _ _ q)
  have b := hb s1 us I1.kIn (by rw [List.append_nil]; exact hl)
  rw [List.append_nil] at b
  obtain ⟨p1, p2, p3, p4, p5⟩ := I1.pin p (List.mem_append_left _ hp)
  have hpin : PinOk X.stack H1 s1 p := ⟨p1, p2, fun hm => (List.mem_cons.mp (I1.stkSub p.1 hm)).elim p3 p4, p5⟩
  refine wpAny_call (codeAny_mono (F.run X.A X.stack s1 H1 ⟨us, []⟩ us vs Q E0 p hr hot hz hpin I1.env0 b r q) fun res s' hq => ?_)
  cases res with
  | error e => exact passN pins σ H1 s1 e s' I1 hq
  | ok fl =>
    cases fl with
    | ret u => exact I1.after hq
    | next => exact False.elim hq
    | brk => exact False.elim hq
    | cont => exact False.elim hq
theorem hot_suite {X : Cx} {a : Addr} {oe : Obj} {cls : Value} {d : Option Addr} {pn : List (Addr × Obj)} (hz : L2N.Zn cls d oe) (hf : ∃ vs, oe.data = .fields vs) : Hot1 (X.suite a ((a, oe) :: pn)).A (a, oe) := by
  obtain ⟨vs, hv⟩ := hf
  exact ⟨rfl, vs, hv, hz.2.2 vs hv⟩
theorem room_suite {X : Cx} {a : Addr} {pn : List (Addr × Obj)} {k : Nat} (r : Room k X.A) : RoomH k (X.suite a pn).A := ⟨r.dp, r.un⟩
/-- such a def of the text -/
structure DefZ (P : Program) (w : World) (K : PySem.W.Frag) (mg : Str → Option Value) (base : Heap) (nm : Str) (k : Nat) (ps : List Str) (D : Addr) (sp : Addr → Sp) : Prop where
  ex : ∃ f fd, FnZ P w K mg base k f fd ps (fun p => Zc (.ref D) none p.2) sp ∧ mg nm = some (.ref f) ∧ PySem.W.keepIn K (.ref f) = true ∧ Binds K fd ps []
theorem pe_defZ {X : Cx} {nm : Str} {k : Nat} {ps : List Str} {D : Addr} {sp : Addr → Sp} {q pos : Pos} {e : Expr} {es : List Expr} {t : TA} {p : Addr × Obj} {cls : Value} {d : Option Addr}
    (dz : DefZ X.prog X.w X.K X.mg X.base nm k ps D sp) (hr : RoomH k X.A) (hp : p ∈ X.pn) (hot : Hot1 X.A p) (hz : Zc cls d p.2) (hg : Gl X nm) (ha : PA X (e :: es) t) (hdb : (nm == ("__debug__" : Str)) = false := by decide)
    (he : starEach (e :: es) X.env = (false, eval e X.env) :: starEach es X.env := by rfl) (hpl : (backTo pos (starEach es X.env)).any (·.1) = false := by rfl) : PE X (.Call (.Name nm q) (e :: es) [] pos) (tCallZ D cls d (sp p.1) t) := by
  obtain ⟨f, fd, F, hm, hk, hb⟩ := dz.ex
  exact pe_callZ F hr hp hot hz hg hm hk hb ha hdb he hpl
theorem DefZ.of {P : Program} {w : World} {K : PySem.W.Frag} {mg : Str → Option Value} {base : Heap} {nm : Str} {st : Stmt} {N ps : List Str} {k : Nat} {D : Addr} {sp : Addr → Sp} (h : At K mg nm st) (S : FnScope N ps (defScope st))
    (hbind : ∀ (kV doc pm : Value) (an : Option Addr) (cdv ct : Value) (us : List Value), us.length = ps.length → bindArgs (PySem.W.fnOf nm nm (defArgs st) (defBody st) (defScope st) .none kV doc pm an cdv ct) ⟨us, []⟩ = pure (ps.zip us))
    (len : ∀ a vs H Q E, sp a vs H Q E → vs.length = ps.length)
    (hbody : ∀ (f : Addr) (cdv : Value) (A : Around) (outer : List Env) (s : Shared) (H : Hp) (vs : List V) (Q : VK) (E : XK) (p : Addr × Obj), Hot1 A p → Zc (.ref D) none p.2 → RoomH k (A.deeper (envOfC nm (defScope st) s.heap.objs.size f cdv)) → sp p.1 vs H Q E →
      ∃ t, PSs (cxH (L2N.CX P w) P w K mg base N nm (defScope st) f cdv A outer s H E p) (defBody st) t ∧ t { nx := fun _ H' => Q .non H', rt := Q } (start N vs) H) : DefZ P w K mg base nm (k + 1) ps D sp := by
  obtain ⟨fd, F⟩ := h.ex
  obtain ⟨oc, od, dV, kV, doc, pm, an, cdv, ct, osl, e, lk, hcd, hD, hK⟩ := id F.ex
  subst e
  exact ⟨_, _, fn_ofZ lk hcd S len (hbody (He.ga K nm) cdv), h.gl, F.kp, F.bindsN hbind⟩
end JP
set_option Elab.async false
set_option linter.all false
set_option maxRecDepth 100000
set_option maxHeartbeats 4000000
namespace JP
open PySem PySem.Spec PyProof.Rows L2
def top (i : Nat) : Stmt := PySem.Challenge.pw_joinpast_k00_fractions.main.body.getD i (.Pass ⟨0, 0, 0, 0⟩)
structure Tx (K : PySem.W.Frag) (mg : Str → Option Value) : Prop where
  at_ratio : At K mg "ratio" (top 34)
  at_parts_of : At K mg "parts_of" (top 35)
  at_fraction : At K mg "fraction" (top 36)
  at_plus : At K mg "plus" (top 37)
  at_times : At K mg "times" (top 38)
  at_over : At K mg "over" (top 39)
  at__law_whole : At K mg "_law_whole" (top 41)
  at__law_cell : At K mg "_law_cell" (top 42)
  at__law_digits : At K mg "_law_digits" (top 43)
  at__law_gcd : At K mg "_law_gcd" (top 44)
  at__law_frac : At K mg "_law_frac" (top 45)
  at__law_is : At K mg "_law_is" (top 46)
  at__law_number : At K mg "_law_number" (top 47)
  at__law_pair : At K mg "_law_pair" (top 48)
  at__law_passed : At K mg "_law_passed" (top 49)
  at__law_other_pair : At K mg "_law_other_pair" (top 50)
  at__law_another : At K mg "_law_another" (top 51)
  at__law_refused : At K mg "_law_refused" (top 52)
  at__law_right : At K mg "_law_right" (top 53)
  at__law_next : At K mg "_law_next" (top 54)
  at_law : At K mg "law" (top 55)
  g_RowError : mg "RowError" = some (.ref (He.ga K "RowError"))
  g_NoQuotient : mg "NoQuotient" = some (.ref (He.ga K "NoQuotient"))
  g_ZeroPolynomial : mg "ZeroPolynomial" = some (.ref (He.ga K "ZeroPolynomial"))
  g_ZeroSum : mg "ZeroSum" = some (.ref (He.ga K "ZeroSum"))
  g_NoRows : mg "NoRows" = some (.ref (He.ga K "NoRows"))
  g_BadName : mg "BadName" = some (.ref (He.ga K "BadName"))
  g_RowTwice : mg "RowTwice" = some (.ref (He.ga K "RowTwice"))
  g_UnknownRow : mg "UnknownRow" = some (.ref (He.ga K "UnknownRow"))
  g_RowsDiffer : mg "RowsDiffer" = some (.ref (He.ga K "RowsDiffer"))
  g_SpotTwice : mg "SpotTwice" = some (.ref (He.ga K "SpotTwice"))
  g_BadStretch : mg "BadStretch" = some (.ref (He.ga K "BadStretch"))
  g_ShortStretch : mg "ShortStretch" = some (.ref (He.ga K "ShortStretch"))
  g_TooLong : mg "TooLong" = some (.ref (He.ga K "TooLong"))
  g_CannotStand : mg "CannotStand" = some (.ref (He.ga K "CannotStand"))
  g_Broken : mg "Broken" = some (.ref (He.ga K "Broken"))
  g_NotFinite : mg "NotFinite" = some (.ref (He.ga K "NotFinite"))
  g_BadParts : mg "BadParts" = some (.ref (He.ga K "BadParts"))
  g_Barred : mg "Barred" = some (.ref (He.ga K "Barred"))
  g_NotCourse : mg "NotCourse" = some (.ref (He.ga K "NotCourse"))
  g_BreaksOwnRule : mg "BreaksOwnRule" = some (.ref (He.ga K "BreaksOwnRule"))
  g_NotBlocked : mg "NotBlocked" = some (.ref (He.ga K "NotBlocked"))
  g_Unsure : mg "Unsure" = some (.ref (He.ga K "Unsure"))
  g_Contradiction : mg "Contradiction" = some (.ref (He.ga K "Contradiction"))
  g_NotStricter : mg "NotStricter" = some (.ref (He.ga K "NotStricter"))
  g_NoFamilies : mg "NoFamilies" = some (.ref (He.ga K "NoFamilies"))
  g_NotLet : mg "NotLet" = some (.ref (He.ga K "NotLet"))
  g_NotFree : mg "NotFree" = some (.ref (He.ga K "NotFree"))
  g_NotTimely : mg "NotTimely" = some (.ref (He.ga K "NotTimely"))
  g_NotEntered : mg "NotEntered" = some (.ref (He.ga K "NotEntered"))
  g_NothingToUndo : mg "NothingToUndo" = some (.ref (He.ga K "NothingToUndo"))
  g_BadNotation : mg "BadNotation" = some (.ref (He.ga K "BadNotation"))
  i_gcd : mg "gcd" = some (.builtin "math.gcd")
  n_ValueError : mg "ValueError" = none
  n_abs : mg "abs" = none
  n_bool : mg "bool" = none
  n_int : mg "int" = none
  n_isinstance : mg "isinstance" = none
  n_len : mg "len" = none
  n_list : mg "list" = none
  n_range : mg "range" = none
  n_tuple : mg "tuple" = none
  x_NoQuotient : ExcPlain K "NoQuotient"
  xc_NoQuotient : ExcC K (He.ga K "NoQuotient")
  ko_RowError : PySem.W.kitOne K (.ref (He.ga K "NoQuotient")) (.ref (He.ga K "RowError")) = some true
  ko_ValueError : PySem.W.kitOne K (.ref (He.ga K "NoQuotient")) (.type "ValueError") = some true
  ko_self : PySem.W.kitOne K (.ref (He.ga K "NoQuotient")) (.ref (He.ga K "NoQuotient")) = some true
  ka_other : PySem.W.kitAny K (.ref (He.ga K "NoQuotient")) [.ref (He.ga K "BadName"), .ref (He.ga K "BadNotation"), .ref (He.ga K "BadParts"), .ref (He.ga K "BadStretch"), .ref (He.ga K "Barred"), .ref (He.ga K "BreaksOwnRule"), .ref (He.ga K "Broken"), .ref (He.ga K "CannotStand"), .ref (He.ga K "Contradiction"), .ref (He.ga K "NoFamilies"), .ref (He.ga K "NoRows"), .ref (He.ga K "NotBlocked"), .ref (He.ga K "NotCourse"), .ref (He.ga K "NotEntered"), .ref (He.ga K "NotFinite"), .ref (He.ga K "NotFree"), .ref (He.ga K "NotLet"), .ref (He.ga K "NotStricter"), .ref (He.ga K "NotTimely"), .ref (He.ga K "NothingToUndo"), .ref (He.ga K "RowTwice"), .ref (He.ga K "RowsDiffer"), .ref (He.ga K "ShortStretch"), .ref (He.ga K "SpotTwice"), .ref (He.ga K "TooLong"), .ref (He.ga K "UnknownRow"), .ref (He.ga K "Unsure"), .ref (He.ga K "ZeroPolynomial"), .ref (He.ga K "ZeroSum")] = some false
  em_self : PySem.W.exmOne K (.ref (He.ga K "NoQuotient")) (.ref (He.ga K "NoQuotient")) = some true
  em_RowError : PySem.W.exmOne K (.ref (He.ga K "NoQuotient")) (.ref (He.ga K "RowError")) = some true
local macro_rules | `(tactic| walk_at "w1") => `(tactic| first
  | with_reducible refine w_seq ?_
  | with_reducible refine w_asg ?_
  | with_reducible refine w_name ?_
  | with_reducible refine w_op ?_
  | ((with_reducible refine w_var ?v ?h ?q); (case h => exact rfl))
  | with_reducible refine w_c ?_
  | with_reducible refine w_ret ?_
  | with_reducible refine w_if ?_
  | with_reducible refine w_drop ?_
  | with_reducible refine w_next ?_
  | with_reducible refine w_un ?_
  | with_reducible refine w_p18 ?_
  | with_reducible refine w_p30 ?_
  | with_reducible refine w_p6 ?_
  | with_reducible refine w_p9 ?_
  | with_reducible refine w_p12 ?_
  | with_reducible refine w_p15 ?_
  | with_reducible refine w_p24 ?_
  | with_reducible refine w_slice ?_
  | with_reducible refine w_part ?_
  | with_reducible refine w_nopart ?_
  | with_reducible refine w_ei ?_
  | with_reducible refine w_for ?_
  | with_reducible refine w_rng1 ?_
  | with_reducible refine w_rng2 ?_
  | with_reducible refine w_iseq ?_
  | ((with_reducible refine w_I ?c ?q); (case c => walk_at "side"))
  | ((with_reducible refine w_len ?xs ?h ?q); (case h => walk_at "tr"))
  | with_reducible refine w_cb ?_
  | with_reducible refine w_cons ?_
  | with_reducible refine w_nil ?_
  | with_reducible refine w_test ?_
  | with_reducible refine w_B ?_
  | with_reducible refine w_bl ?_
  | with_reducible refine w_and ?_
  | with_reducible refine w_or ?_
  | with_reducible refine w_not ?_
  | with_reducible refine w_andV ?_
  | with_reducible refine w_orV ?_
  | with_reducible refine w_notV ?_
  | with_reducible refine w_ifE ?_
  | with_reducible refine w_call ?_
  | with_reducible refine w_bm ?_
  | ((with_reducible refine w_tyl ?xs ?h ?q); (case h => assumption))
  | with_reducible refine w_bm0 ?_
  | with_reducible refine w_bits ?_
  | with_reducible refine w_tup ?_
  | with_reducible refine w_lst ?_
  | with_reducible refine w_I0 ?_
  | with_reducible refine w_U ?_
  | with_reducible refine w_add ?_
  | with_reducible refine w_eqI ?_
  | with_reducible refine w_neI ?_
  | with_reducible refine w_eqS ?_
  | with_reducible refine w_neS ?_
  | with_reducible refine w_int ?_
  | with_reducible refine w_abs ?_
  | with_reducible refine w_gcd ?_)
local macro_rules | `(tactic| walk_at "w") => `(tactic| repeat (walk_at "w1"))
local macro_rules | `(tactic| walk_at "w0") => `(tactic| simp only [cxOf_K, L2.start, List.map_cons, List.map_nil, List.length_cons, List.length_nil, Nat.reduceAdd, Nat.reduceSub, List.replicate_succ, List.replicate_zero, List.cons_append, List.nil_append])
local macro_rules | `(tactic| walk_at "side") => `(tactic| first | assumption | (exact small_div (by omega) (by omega)) | (exact small_mul (by omega) (by omega)) | (exact med_mul (by omega) (by omega)) | (exact big_mul (by omega) (by omega)) | (exact ⟨by decide, by decide, by decide⟩) | (show (0 : Int) < _; omega))
local macro_rules | `(tactic| walk_at "ch") => `(tactic| first
  | with_reducible assumption
  | with_reducible exact Same.refl _
  | ((with_reducible refine tr_at ?H ?e ?h); (case e => with_reducible assumption); (case h => walk_at "ch"))
  | ((with_reducible refine tr_st ?H ?e ?h); (case e => with_reducible assumption); (case h => walk_at "ch"))
  | ((with_reducible refine tr_sl ?H ?e ?h); (case e => with_reducible assumption); (case h => walk_at "ch"))
  | ((with_reducible refine tr_same ?H ?e ?h); (case e => with_reducible assumption); (case h => walk_at "ch"))
  | ((with_reducible refine tr_sq ?H ?e ?h); (case e => with_reducible assumption); (case h => walk_at "ch"))
  | ((with_reducible refine tr_dp ?H ?e ?h); (case e => with_reducible assumption); (case h => walk_at "ch"))
  | walk_at "tr2")
local macro_rules | `(tactic| walk_at "tr") => `(tactic| first
  | walk_at "ch"
  | ((with_reducible refine tr_eq ?u ?h ?e); (case h => walk_at "ch"); (case e => rfl))
  | ((with_reducible refine tr_eqt ?u ?h ?e); (case h => walk_at "ch"); (case e => rfl))
  | ((with_reducible refine tr_eql ?u ?h ?e); (case h => walk_at "ch"); (case e => rfl))
  | ((with_reducible refine SqT.of ?_); first | walk_at "ch" | ((with_reducible refine tr_eq ?u ?h ?e); (case h => walk_at "ch"); (case e => rfl)))
  | ((with_reducible refine SqL.of ?_); first | walk_at "ch" | ((with_reducible refine tr_eq ?u ?h ?e); (case h => walk_at "ch"); (case e => rfl)))
  | ((with_reducible refine sq_l ?_); walk_at "tr")
  | ((with_reducible refine sq_t ?_); walk_at "tr"))
local macro_rules | `(tactic| walk_at "tr2") => `(tactic| fail)
local macro_rules | `(tactic| walk_at "sz") => `(tactic| (simp only [List.length_cons, List.length_nil, List.length_append, List.length_map]; decide))
local macro_rules | `(tactic| walk_at "g") => `(tactic| repeat (first
  | (with_reducible refine g_cons ?_)
  | (with_reducible refine g_nil ?_)
  | (with_reducible refine w_name ?_)))
/-! ### the program: fractions -/
/-- v is passed for t / b -/
def FV (K : PySem.W.Frag) (H : Hp) (v : V) (t b : Int) : Prop := (v = .int t ∧ b = 1) ∨ ∃ p, v = .ref p ∧ Sq K H p [.int t, .int b]
theorem Same.fv {K : PySem.W.Frag} {H H' : Hp} {v : V} {t b : Int} (e : Same H H') (h : FV K H v t b) : FV K H' v t b := by
  rcases h with h | ⟨p, h1, h2⟩
  · exact .inl h
  · exact .inr ⟨p, h1, Same.sq e h2⟩
def sp_ratio : Sp := fun vs H Q _ => ∃ a b : Int, vs = [.int a, .int b] ∧ b ≠ 0 ∧ Sm 8900 b ∧ ∀ p H2, H p = none → Same H H2 → H2 p = some (.tup [.int (nrm a b).1, .int (nrm a b).2]) → Q (.ref p) H2
theorem sc_ratio : FnScope ["top", "bottom", "part"] ["top", "bottom"] (defScope (top 34)) := ⟨rfl, rfl, rfl, by decide +kernel, rfl, by decide +kernel, by decide +kernel⟩
theorem d_ratio {P : Program} {w : World} {K : PySem.W.Frag} {mg : Str → Option Value} {base : Heap} (T : Tx K mg) : Def P w K mg base "ratio" 1 ["top", "bottom"] sp_ratio := by
  refine Def.of T.at_ratio sc_ratio (fun _ _ _ _ _ _ us hl => match us, hl with | [_, _], _ => rfl) (fun vs H Q E h => by (obtain ⟨_, _, rfl, _⟩ := h; rfl)) (fun f cdv A outer s H vs Q E hr h => ?_)
  refine ⟨_, PSs.nox (pss_cons (ps_set (i := 2) sc_ratio.nd rfl (Or.inl rfl) (pe_callBfun cr_gcd (by rfl) T.i_gcd (pa_cons (pv 0) (pa_cons (pv 1) pa_nil))))
      (pss_cons (ps_if (pt_cmpR op_lt (pv 1) pe_int (nomark _)) (pss_one (ps_set (i := 2) sc_ratio.nd rfl (Or.inl rfl) (pe_un un_neg (pv 2)))) pss_nil)
      (pss_one (ps_ret (pe_tupA (pa_cons (pe_op op_fdivG (pv 0) (pv 2)) (pa_cons (pe_op op_fdivG (pv 1) (pv 2)) pa_nil))))))), ?_⟩
  obtain ⟨a, b, rfl, hb, hz, q⟩ := h
  have hp : part a b ≠ 0 := part_ne hb
  have hc : CDivG a (part a b) := Sm.divOk hp (Sm.le hz (part_le hb)) (by decide)
  walk_at "w0"
  walk_at "w"
  refine iteD (fun h => ?_) (fun h => ?_)
  · have e : -((Nat.gcd a.natAbs b.natAbs : Nat) : Int) = part a b := (if_pos h).symm
    walk_at "w"
    rw [e]
    walk_at "w"
    exact ⟨by walk_at "sz", q⟩
  · have e : ((Nat.gcd a.natAbs b.natAbs : Nat) : Int) = part a b := (if_neg h).symm
    rw [e]
    walk_at "w"
    exact ⟨by walk_at "sz", q⟩
def sp_parts_of (K : PySem.W.Frag) : Sp := fun vs H Q _ => ∃ v t b, vs = [v] ∧ FV K H v t b ∧ ∀ p H2, H p = none → Same H H2 → H2 p = some (.tup [.int t, .int b]) → Q (.ref p) H2
theorem sc_parts_of : FnScope ["value"] ["value"] (defScope (top 35)) := ⟨rfl, rfl, rfl, by decide +kernel, rfl, by decide +kernel, by decide +kernel⟩
theorem d_parts_of {P : Program} {w : World} {K : PySem.W.Frag} {mg : Str → Option Value} {base : Heap} (T : Tx K mg) : Def P w K mg base "parts_of" 1 ["value"] (sp_parts_of K) := by
  refine Def.of T.at_parts_of sc_parts_of (fun _ _ _ _ _ _ us hl => match us, hl with | [_], _ => rfl) (fun vs H Q E h => by (obtain ⟨_, _, _, rfl, _⟩ := h; rfl)) (fun f cdv A outer s H vs Q E hr h => ?_)
  refine ⟨_, PSs.nox (pss_cons (ps_if (pt_val (pe_callB call_isA (by rfl) T.n_isinstance (by decide +kernel) (pa_cons (pv 0) (pa_cons (pe_bltn (v := .ty "int") (u := .type "int") (by rfl) T.n_int (by decide +kernel) rfl) pa_nil)))) (pss_one (ps_ret (pe_tupA (pa_cons (pv 0) (pa_cons pe_int pa_nil))))) pss_nil)
      (pss_one (ps_ret (pe_tupA (pa_cons (pe_ix ix_seq (pv 0) pe_int (fun _ _ => rfl)) (pa_cons (pe_ix ix_seq (pv 0) pe_int (fun _ _ => rfl)) pa_nil)))))), ?_⟩
  obtain ⟨v, t, b, rfl, ⟨rfl, rfl⟩ | ⟨p, rfl, hs⟩, q⟩ := h
  · walk_at "w0"
    walk_at "w"
    refine w_isi (.base (.int _)) (b := true) (by decide +kernel) ?_
    walk_at "w"
    refine iteT ?_
    walk_at "w"
    exact ⟨by walk_at "sz", q⟩
  · walk_at "w0"
    walk_at "w"
    have e : ∃ ty, TyX K H (.ref p) (.type ty) ∧ kitB ty "int" = some false := hs.elim (fun h => ⟨_, tyx_l h, by decide +kernel⟩) fun h => ⟨_, tyx_t h, by decide +kernel⟩
    obtain ⟨ty, e1, e2⟩ := e
    refine w_isi e1 e2 ?_
    walk_at "w"
    refine iteF ?_
    walk_at "w"
    refine w_ix hs (i := 0) rfl ?_
    walk_at "w"
    refine w_ix hs (i := 1) rfl ?_
    walk_at "w"
    exact ⟨by walk_at "sz", q⟩
def tup2 (m : Int × Int) : HO := .tup [.int m.1, .int m.2]
def sp_fraction (K : PySem.W.Frag) : Sp := fun vs H Q _ => ∃ v t b, vs = [v] ∧ FV K H v t b ∧ b ≠ 0 ∧ Sm 8900 b ∧ ∀ p H2, H p = none → Same H H2 → H2 p = some (tup2 (nrm t b)) → Q (.ref p) H2
theorem sc_fraction : FnScope ["value", "top", "bottom"] ["value"] (defScope (top 36)) := ⟨rfl, rfl, rfl, by decide +kernel, rfl, by decide +kernel, by decide +kernel⟩
theorem d_fraction {P : Program} {w : World} {K : PySem.W.Frag} {mg : Str → Option Value} {base : Heap} (T : Tx K mg) : Def P w K mg base "fraction" 2 ["value"] (sp_fraction K) := by
  refine Def.of T.at_fraction sc_fraction (fun _ _ _ _ _ _ us hl => match us, hl with | [_], _ => rfl) (fun vs H Q E h => by (obtain ⟨_, _, _, rfl, _⟩ := h; rfl)) (fun f cdv A outer s H vs Q E hr h => ?_)
  refine ⟨_, PSs.nox (pss_cons (ps_asg (pe_def (d_parts_of T) (hr.mono (by decide)) (by rfl) (pa_cons (pv 0) pa_nil)) (pg_seq rfl (pgs_cons (pg_name (i := 1) sc_fraction.nd rfl (Or.inl rfl)) (pgs_cons (pg_name (i := 2) sc_fraction.nd rfl (Or.inl rfl)) pgs_nil))))
      (pss_one (ps_ret (pe_def (d_ratio T) (hr.mono (by decide)) (by rfl) (pa_cons (pv 1) (pa_cons (pv 2) pa_nil)))))), ?_⟩
  obtain ⟨v, t, b, rfl, hv, hb, hz, q⟩ := h
  walk_at "w0"
  walk_at "w"
  refine ⟨v, t, b, rfl, hv, fun p H2 n1 s1 e1 => ?_⟩
  refine ⟨_, _, rfl, .inr (SqT.of e1), rfl, ?_⟩
  walk_at "g"
  walk_at "w"
  exact ⟨t, b, rfl, hb, hz, fun p H2 n2 s2 e2 => q p H2 (s1.free n2) (s1.trans s2) e2⟩
def sp_plus (K : PySem.W.Frag) : Sp := fun vs H Q _ => ∃ v u t b t' b', vs = [v, u] ∧ FV K H v t b ∧ FV K H u t' b' ∧ b ≠ 0 ∧ b' ≠ 0 ∧ Sm 4000 t ∧ Sm 4000 b ∧ Sm 4000 t' ∧ Sm 4000 b' ∧
  ∀ p H2, Same H H2 → H2 p = some (tup2 (nrm (t * b' + t' * b) (b * b'))) → Q (.ref p) H2
theorem sc_plus : FnScope ["one", "two", "top", "bottom", "other_top", "other_bottom"] ["one", "two"] (defScope (top 37)) := ⟨rfl, rfl, rfl, by decide +kernel, rfl, by decide +kernel, by decide +kernel⟩
theorem d_plus {P : Program} {w : World} {K : PySem.W.Frag} {mg : Str → Option Value} {base : Heap} (T : Tx K mg) : Def P w K mg base "plus" 2 ["one", "two"] (sp_plus K) := by
  refine Def.of T.at_plus sc_plus (fun _ _ _ _ _ _ us hl => match us, hl with | [_, _], _ => rfl) (fun vs H Q E h => by (obtain ⟨_, _, _, _, _, _, rfl, _⟩ := h; rfl)) (fun f cdv A outer s H vs Q E hr h => ?_)
  refine ⟨_, PSs.nox (pss_cons (ps_asg (pe_def (d_parts_of T) (hr.mono (by decide)) (by rfl) (pa_cons (pv 0) pa_nil)) (pg_seq rfl (pgs_cons (pg_name (i := 2) sc_plus.nd rfl (Or.inl rfl)) (pgs_cons (pg_name (i := 3) sc_plus.nd rfl (Or.inl rfl)) pgs_nil))))
      (pss_cons (ps_asg (pe_def (d_parts_of T) (hr.mono (by decide)) (by rfl) (pa_cons (pv 1) pa_nil)) (pg_seq rfl (pgs_cons (pg_name (i := 4) sc_plus.nd rfl (Or.inl rfl)) (pgs_cons (pg_name (i := 5) sc_plus.nd rfl (Or.inl rfl)) pgs_nil))))
      (pss_one (ps_ret (pe_def (d_ratio T) (hr.mono (by decide)) (by rfl) (pa_cons (pe_op op_addA (pe_op op_mulW (pv 2) (pv 5)) (pe_op op_mulW (pv 4) (pv 3))) (pa_cons (pe_op op_mulW (pv 3) (pv 5)) pa_nil))))))), ?_⟩
  obtain ⟨v, u, t, b, t', b', rfl, hv, hu, hb, hb', z1, z2, z3, z4, q⟩ := h
  walk_at "w0"
  walk_at "w"
  refine ⟨v, t, b, rfl, hv, fun p H2 n1 s1 e1 => ?_⟩
  refine ⟨_, _, rfl, .inr (SqT.of e1), rfl, ?_⟩
  walk_at "g"
  walk_at "w"
  refine ⟨u, t', b', rfl, Same.fv s1 hu, fun p2 H3 n2 s2 e2 => ?_⟩
  refine ⟨_, _, rfl, .inr (SqT.of e2), rfl, ?_⟩
  walk_at "g"
  have m1 : CMulW t b' := Sm.mulOk z1 z4 (by decide)
  have m2 : CMulW t' b := Sm.mulOk z3 z2 (by decide)
  have m3 : CMulW b b' := Sm.mulOk z2 z4 (by decide)
  walk_at "w"
  exact ⟨_, _, rfl, Int.mul_ne_zero hb hb', Sm.mono (Sm.mul z2 z4) (by decide), fun p H4 n3 s3 e3 => q p H4 ((s1.trans s2).trans s3) e3⟩
def sp_times (K : PySem.W.Frag) : Sp := fun vs H Q _ => ∃ v u t b t' b', vs = [v, u] ∧ FV K H v t b ∧ FV K H u t' b' ∧ b ≠ 0 ∧ b' ≠ 0 ∧ Sm 4000 t ∧ Sm 4000 b ∧ Sm 4000 t' ∧ Sm 4000 b' ∧
  ∀ p H2, Same H H2 → H2 p = some (tup2 (nrm (t * t') (b * b'))) → Q (.ref p) H2
theorem sc_times : FnScope ["one", "two", "top", "bottom", "other_top", "other_bottom"] ["one", "two"] (defScope (top 38)) := ⟨rfl, rfl, rfl, by decide +kernel, rfl, by decide +kernel, by decide +kernel⟩
theorem d_times {P : Program} {w : World} {K : PySem.W.Frag} {mg : Str → Option Value} {base : Heap} (T : Tx K mg) : Def P w K mg base "times" 2 ["one", "two"] (sp_times K) := by
  refine Def.of T.at_times sc_times (fun _ _ _ _ _ _ us hl => match us, hl with | [_, _], _ => rfl) (fun vs H Q E h => by (obtain ⟨_, _, _, _, _, _, rfl, _⟩ := h; rfl)) (fun f cdv A outer s H vs Q E hr h => ?_)
  refine ⟨_, PSs.nox (pss_cons (ps_asg (pe_def (d_parts_of T) (hr.mono (by decide)) (by rfl) (pa_cons (pv 0) pa_nil)) (pg_seq rfl (pgs_cons (pg_name (i := 2) sc_times.nd rfl (Or.inl rfl)) (pgs_cons (pg_name (i := 3) sc_times.nd rfl (Or.inl rfl)) pgs_nil))))
      (pss_cons (ps_asg (pe_def (d_parts_of T) (hr.mono (by decide)) (by rfl) (pa_cons (pv 1) pa_nil)) (pg_seq rfl (pgs_cons (pg_name (i := 4) sc_times.nd rfl (Or.inl rfl)) (pgs_cons (pg_name (i := 5) sc_times.nd rfl (Or.inl rfl)) pgs_nil))))
      (pss_one (ps_ret (pe_def (d_ratio T) (hr.mono (by decide)) (by rfl) (pa_cons (pe_op op_mulW (pv 2) (pv 4)) (pa_cons (pe_op op_mulW (pv 3) (pv 5)) pa_nil))))))), ?_⟩
  obtain ⟨v, u, t, b, t', b', rfl, hv, hu, hb, hb', z1, z2, z3, z4, q⟩ := h
  walk_at "w0"
  walk_at "w"
  refine ⟨v, t, b, rfl, hv, fun p H2 n1 s1 e1 => ?_⟩
  refine ⟨_, _, rfl, .inr (SqT.of e1), rfl, ?_⟩
  walk_at "g"
  walk_at "w"
  refine ⟨u, t', b', rfl, Same.fv s1 hu, fun p2 H3 n2 s2 e2 => ?_⟩
  refine ⟨_, _, rfl, .inr (SqT.of e2), rfl, ?_⟩
  walk_at "g"
  have m1 : CMulW t t' := Sm.mulOk z1 z3 (by decide)
  have m3 : CMulW b b' := Sm.mulOk z2 z4 (by decide)
  walk_at "w"
  exact ⟨_, _, rfl, Int.mul_ne_zero hb hb', Sm.mono (Sm.mul z2 z4) (by decide), fun p H4 n3 s3 e3 => q p H4 ((s1.trans s2).trans s3) e3⟩
/-! ### the law's own helpers -/
def sp_whole : Sp := fun vs H Q _ => ∃ i : Int, vs = [.int i] ∧ Q (.bl true) H
theorem sc__law_whole : FnScope ["value"] ["value"] (defScope (top 41)) := ⟨rfl, rfl, rfl, by decide +kernel, rfl, by decide +kernel, by decide +kernel⟩
theorem d__law_whole {P : Program} {w : World} {K : PySem.W.Frag} {mg : Str → Option Value} {base : Heap} (T : Tx K mg) : Def P w K mg base "_law_whole" 1 ["value"] sp_whole := by
  refine Def.of T.at__law_whole sc__law_whole (fun _ _ _ _ _ _ us hl => match us, hl with | [_], _ => rfl) (fun vs H Q E h => by (obtain ⟨_, rfl, _⟩ := h; rfl)) (fun f cdv A outer s H vs Q E hr h => ?_)
  refine ⟨_, PSs.nox (pss_one (ps_ret (pe_and (pe_callB call_isA (by rfl) T.n_isinstance (by decide +kernel) (pa_cons (pv 0) (pa_cons (pe_bltn (v := .ty "int") (u := .type "int") (by rfl) T.n_int (by decide +kernel) rfl) pa_nil))) (pe_one (pe_not (pe_callB call_isA (by rfl) T.n_isinstance (by decide +kernel) (pa_cons (pv 0) (pa_cons (pe_bltn (v := .ty "bool") (u := .type "bool") (by rfl) T.n_bool (by decide +kernel) rfl) pa_nil)))))))), ?_⟩
  obtain ⟨i, rfl, q⟩ := h
  walk_at "w0"
  walk_at "w"
  refine w_isi (.base (.int _)) (b := true) (by decide +kernel) ⟨_, rfl, iteT ?_⟩
  walk_at "w"
  refine w_isi (.base (.int _)) (b := false) (by decide +kernel) ⟨_, rfl, ?_⟩
  exact q
end JP
set_option Elab.async false
set_option linter.all false
set_option maxRecDepth 100000
set_option maxHeartbeats 4000000
namespace JP
open PySem PySem.Spec PyProof.Rows L2
local macro_rules | `(tactic| walk_at "w1") => `(tactic| first
  | with_reducible refine w_seq ?_
  | with_reducible refine w_asg ?_
  | with_reducible refine w_name ?_
  | with_reducible refine w_op ?_
  | ((with_reducible refine w_var ?v ?h ?q); (case h => exact rfl))
  | with_reducible refine w_c ?_
  | with_reducible refine w_ret ?_
  | with_reducible refine w_if ?_
  | with_reducible refine w_drop ?_
  | with_reducible refine w_next ?_
  | with_reducible refine w_un ?_
  | with_reducible refine w_p18 ?_
  | with_reducible refine w_p30 ?_
  | with_reducible refine w_p6 ?_
  | with_reducible refine w_p9 ?_
  | with_reducible refine w_p12 ?_
  | with_reducible refine w_p15 ?_
  | with_reducible refine w_p24 ?_
  | with_reducible refine w_slice ?_
  | with_reducible refine w_part ?_
  | with_reducible refine w_nopart ?_
  | with_reducible refine w_ei ?_
  | with_reducible refine w_for ?_
  | with_reducible refine w_rng1 ?_
  | with_reducible refine w_rng2 ?_
  | with_reducible refine w_iseq ?_
  | ((with_reducible refine w_I ?c ?q); (case c => walk_at "side"))
  | ((with_reducible refine w_len ?xs ?h ?q); (case h => walk_at "tr"))
  | with_reducible refine w_cb ?_
  | with_reducible refine w_cons ?_
  | with_reducible refine w_nil ?_
  | with_reducible refine w_test ?_
  | with_reducible refine w_B ?_
  | with_reducible refine w_bl ?_
  | with_reducible refine w_and ?_
  | with_reducible refine w_or ?_
  | with_reducible refine w_not ?_
  | with_reducible refine w_andV ?_
  | with_reducible refine w_orV ?_
  | with_reducible refine w_notV ?_
  | with_reducible refine w_ifE ?_
  | with_reducible refine w_call ?_
  | with_reducible refine w_bm ?_
  | ((with_reducible refine w_tyl ?xs ?h ?q); (case h => assumption))
  | with_reducible refine w_bm0 ?_
  | with_reducible refine w_bits ?_
  | with_reducible refine w_tup ?_
  | with_reducible refine w_lst ?_
  | with_reducible refine w_I0 ?_
  | with_reducible refine w_U ?_
  | with_reducible refine w_add ?_
  | with_reducible refine w_eqI ?_
  | with_reducible refine w_neI ?_
  | with_reducible refine w_eqS ?_
  | with_reducible refine w_neS ?_
  | with_reducible refine w_int ?_
  | with_reducible refine w_abs ?_
  | with_reducible refine w_gcd ?_)
local macro_rules | `(tactic| walk_at "w") => `(tactic| repeat (walk_at "w1"))
local macro_rules | `(tactic| walk_at "w0") => `(tactic| simp only [cxOf_K, L2.start, List.map_cons, List.map_nil, List.length_cons, List.length_nil, Nat.reduceAdd, Nat.reduceSub, List.replicate_succ, List.replicate_zero, List.cons_append, List.nil_append])
local macro_rules | `(tactic| walk_at "side") => `(tactic| first | assumption | (exact small_div (by omega) (by omega)) | (exact small_mul (by omega) (by omega)) | (exact med_mul (by omega) (by omega)) | (exact big_mul (by omega) (by omega)) | (exact ⟨by decide, by decide, by decide⟩) | (show (0 : Int) < _; omega))
local macro_rules | `(tactic| walk_at "ch") => `(tactic| first
  | with_reducible assumption
  | with_reducible exact Same.refl _
  | ((with_reducible refine tr_at ?H ?e ?h); (case e => with_reducible assumption); (case h => walk_at "ch"))
  | ((with_reducible refine tr_st ?H ?e ?h); (case e => with_reducible assumption); (case h => walk_at "ch"))
  | ((with_reducible refine tr_sl ?H ?e ?h); (case e => with_reducible assumption); (case h => walk_at "ch"))
  | ((with_reducible refine tr_same ?H ?e ?h); (case e => with_reducible assumption); (case h => walk_at "ch"))
  | ((with_reducible refine tr_sq ?H ?e ?h); (case e => with_reducible assumption); (case h => walk_at "ch"))
  | ((with_reducible refine tr_dp ?H ?e ?h); (case e => with_reducible assumption); (case h => walk_at "ch"))
  | walk_at "tr2")
local macro_rules | `(tactic| walk_at "tr") => `(tactic| first
  | walk_at "ch"
  | ((with_reducible refine tr_eq ?u ?h ?e); (case h => walk_at "ch"); (case e => rfl))
  | ((with_reducible refine tr_eqt ?u ?h ?e); (case h => walk_at "ch"); (case e => rfl))
  | ((with_reducible refine tr_eql ?u ?h ?e); (case h => walk_at "ch"); (case e => rfl))
  | ((with_reducible refine SqT.of ?_); first | walk_at "ch" | ((with_reducible refine tr_eq ?u ?h ?e); (case h => walk_at "ch"); (case e => rfl)))
  | ((with_reducible refine SqL.of ?_); first | walk_at "ch" | ((with_reducible refine tr_eq ?u ?h ?e); (case h => walk_at "ch"); (case e => rfl)))
  | ((with_reducible refine sq_l ?_); walk_at "tr")
  | ((with_reducible refine sq_t ?_); walk_at "tr"))
local macro_rules | `(tactic| walk_at "tr2") => `(tactic| fail)
local macro_rules | `(tactic| walk_at "sz") => `(tactic| (simp only [List.length_cons, List.length_nil, List.length_append, List.length_map]; decide))
local macro_rules | `(tactic| walk_at "g") => `(tactic| repeat (first
  | (with_reducible refine g_cons ?_)
  | (with_reducible refine g_nil ?_)
  | (with_reducible refine w_name ?_)))
def sp_gcd : Sp := fun vs H Q _ => ∃ a b : Int, vs = [.int a, .int b] ∧ Sm 100000 b ∧ Q (.int ((Nat.gcd a.natAbs b.natAbs : Nat) : Int)) H
theorem sc__law_gcd : FnScope ["a", "b", "one", "two", "turn", "rest"] ["a", "b"] (defScope (top 44)) := ⟨rfl, rfl, rfl, by decide +kernel, rfl, by decide +kernel, by decide +kernel⟩
theorem d__law_gcd {P : Program} {w : World} {K : PySem.W.Frag} {mg : Str → Option Value} {base : Heap} (T : Tx K mg) : Def P w K mg base "_law_gcd" 1 ["a", "b"] sp_gcd := by
  refine Def.of T.at__law_gcd sc__law_gcd (fun _ _ _ _ _ _ us hl => match us, hl with | [_, _], _ => rfl) (fun vs H Q E h => by (obtain ⟨_, _, rfl, _⟩ := h; rfl)) (fun f cdv A outer s H vs Q E hr h => ?_)
  refine ⟨_, PSs.nox (pss_cons (ps_set (i := 2) sc__law_gcd.nd rfl (Or.inl rfl) (pe_callB call_absA (by rfl) T.n_abs (by decide +kernel) (pa_cons (pv 0) pa_nil)))
      (pss_cons (ps_set (i := 3) sc__law_gcd.nd rfl (Or.inl rfl) (pe_callB call_absA (by rfl) T.n_abs (by decide +kernel) (pa_cons (pv 1) pa_nil)))
      (pss_cons (ps_for PassesOwn.never rfl (pi_range1 (by rfl) T.n_range (pa_cons (pe_op op_addA (pe_op op_mulW pe_int (pe_bits (pv 3))) pe_int) pa_nil)) (pg_name (i := 4) sc__law_gcd.nd rfl (Or.inl rfl)) (pss_cons (ps_if (pt_cmpR (op_eqA hr.units) (pv 3) pe_int (nomark _)) (pss_one (ps_ret (pv 2))) pss_nil)
      (pss_cons (ps_set (i := 5) sc__law_gcd.nd rfl (Or.inl rfl) (pe_op op_mod (pe_callTy call_intA (by rfl) T.n_int (by decide +kernel) (pa_cons (pv 2) pa_nil)) (pv 3)))
      (pss_cons (ps_set (i := 2) sc__law_gcd.nd rfl (Or.inl rfl) (pv 3))
      (pss_one (ps_set (i := 3) sc__law_gcd.nd rfl (Or.inl rfl) (pv 5)))))))
      (pss_one (ps_ret (pv 2)))))), ?_⟩
  obtain ⟨a, b, rfl, hz, q⟩ := h
  have hbits : Builtin.Int.intBits (b.natAbs : Int) ≤ 100000 := PyProof.Rows.intBits_le (by rw [Int.natAbs_natCast]; exact hz)
  have hlt : b.natAbs < 2 ^ Builtin.Int.intBits (b.natAbs : Int) := bits_lt b.natAbs
  walk_at "w0"
  walk_at "w"
  generalize Builtin.Int.intBits (b.natAbs : Int) = n at hbits hlt ⊢
  refine for_rng1 (n := 2 * n + 2) (by omega) (by omega) (by omega)
    (fun i σ' H' => H' = H ∧ ∃ (x y : Nat) (v4 v5 : Option V), σ' = [some (.int a), some (.int b), some (.int x), some (.int y), v4, v5] ∧ GcdAt (Nat.gcd a.natAbs b.natAbs) n i x y)
    ⟨rfl, a.natAbs, b.natAbs, none, none, rfl, rfl, fun _ => hlt, fun z => absurd z (by decide)⟩ ?_ ?_
  · rintro i σ' H' hi ⟨rfl, x, y, v4, v5, rfl, G⟩
    walk_at "w"
    refine iteD (fun h => ?_) (fun h => ?_)
    · walk_at "w"
      have hy : y = 0 := by omega
      subst hy
      rw [← G.ret] at q
      exact q
    · walk_at "w"
      have hy : y ≠ 0 := by omega
      have hi2 : i < 2 * n + 1 := by
        rcases Nat.lt_or_ge i (2 * n + 1) with z | z
        · exact z
        · have : i = 2 * n + 1 := by omega
          subst this
          exact absurd G.over id
      exact ⟨rfl, y, x % y, _, _, rfl, G.next hy hi2⟩
  · rintro σ' H' ⟨rfl, x, y, v4, v5, rfl, G⟩
    walk_at "w"
    rw [G.done]
    exact q
def sp_frac : Sp := fun vs H Q _ => ∃ a b : Int, vs = [.int a, .int b] ∧ b ≠ 0 ∧ Sm 8900 b ∧ ∀ p H2, H p = none → Same H H2 → H2 p = some (tup2 (nrm a b)) → Q (.ref p) H2
theorem sc__law_frac : FnScope ["top", "bottom", "part"] ["top", "bottom"] (defScope (top 45)) := ⟨rfl, rfl, rfl, by decide +kernel, rfl, by decide +kernel, by decide +kernel⟩
theorem d__law_frac {P : Program} {w : World} {K : PySem.W.Frag} {mg : Str → Option Value} {base : Heap} (T : Tx K mg) : Def P w K mg base "_law_frac" 2 ["top", "bottom"] sp_frac := by
  refine Def.of T.at__law_frac sc__law_frac (fun _ _ _ _ _ _ us hl => match us, hl with | [_, _], _ => rfl) (fun vs H Q E h => by (obtain ⟨_, _, rfl, _⟩ := h; rfl)) (fun f cdv A outer s H vs Q E hr h => ?_)
  refine ⟨_, PSs.nox (pss_cons (ps_set (i := 2) sc__law_frac.nd rfl (Or.inl rfl) (pe_def (d__law_gcd T) (hr.mono (by decide)) (by rfl) (pa_cons (pv 0) (pa_cons (pv 1) pa_nil))))
      (pss_cons (ps_if (pt_cmpR op_lt (pv 1) pe_int (nomark _)) (pss_one (ps_set (i := 2) sc__law_frac.nd rfl (Or.inl rfl) (pe_un un_neg (pv 2)))) pss_nil)
      (pss_one (ps_ret (pe_tupA (pa_cons (pe_op op_fdivG (pv 0) (pv 2)) (pa_cons (pe_op op_fdivG (pv 1) (pv 2)) pa_nil))))))), ?_⟩
  obtain ⟨a, b, rfl, hb, hz, q⟩ := h
  have hp : part a b ≠ 0 := part_ne hb
  have hc : CDivG a (part a b) := Sm.divOk hp (Sm.le hz (part_le hb)) (by decide)
  walk_at "w0"
  walk_at "w"
  refine ⟨a, b, rfl, Sm.mono hz (by decide), ?_⟩
  walk_at "w"
  refine iteD (fun h => ?_) (fun h => ?_)
  · have e : -((Nat.gcd a.natAbs b.natAbs : Nat) : Int) = part a b := (if_pos h).symm
    walk_at "w"
    rw [e]
    walk_at "w"
    exact ⟨by walk_at "sz", q⟩
  · have e : ((Nat.gcd a.natAbs b.natAbs : Nat) : Int) = part a b := (if_neg h).symm
    rw [e]
    walk_at "w"
    exact ⟨by walk_at "sz", q⟩
/-! the cells -/
def lawCell (ns : List Int) (k : Int) : Int :=
  if k < ns.length then ns.getD k.toNat 0 else (((ns.foldl (fun s c => (s * 31 + c % 1000003) % 1000003) 17) + 7) * (k + 3) * 69621) % 2147483647
def sp_cell (K : PySem.W.Frag) : Sp := fun vs H Q _ => ∃ (a : Addr) (k : Int) (ns : List Int), vs = [.ref a, .int k] ∧ SqL K H a (ns.map V.int) ∧ 0 ≤ k ∧ k ≤ 1000 ∧ Q (.int (lawCell ns k)) H
theorem sc__law_cell : FnScope ["script", "k", "seed", "cell"] ["script", "k"] (defScope (top 42)) := ⟨rfl, rfl, rfl, by decide +kernel, rfl, by decide +kernel, by decide +kernel⟩
theorem d__law_cell {P : Program} {w : World} {K : PySem.W.Frag} {mg : Str → Option Value} {base : Heap} (T : Tx K mg) : Def P w K mg base "_law_cell" 1 ["script", "k"] (sp_cell K) := by
  refine Def.of T.at__law_cell sc__law_cell (fun _ _ _ _ _ _ us hl => match us, hl with | [_, _], _ => rfl) (fun vs H Q E h => by (obtain ⟨_, _, _, rfl, _⟩ := h; rfl)) (fun f cdv A outer s H vs Q E hr h => ?_)
  refine ⟨_, PSs.nox (pss_cons (ps_if (pt_cmpR op_lt (pv 1) (pe_callB call_lenA (by rfl) T.n_len (by decide +kernel) (pa_cons (pv 0) pa_nil)) (nomark _)) (pss_one (ps_ret (pe_ix ix_seq (pv 0) (pv 1) (fun _ _ => rfl)))) pss_nil)
      (pss_cons (ps_set (i := 2) sc__law_cell.nd rfl (Or.inl rfl) pe_int)
      (pss_cons (ps_for PassesOwn.never rfl (pi_seq (pv 0)) (pg_name (i := 3) sc__law_cell.nd rfl (Or.inl rfl)) (pss_one (ps_set (i := 2) sc__law_cell.nd rfl (Or.inl rfl) (pe_op op_mod (pe_callTy call_intA (by rfl) T.n_int (by decide +kernel) (pa_cons (pe_op op_addA (pe_op op_mulW (pv 2) pe_int) (pe_op op_mod (pe_callTy call_intA (by rfl) T.n_int (by decide +kernel) (pa_cons (pv 3) pa_nil)) pe_int)) pa_nil)) pe_int))))
      (pss_one (ps_ret (pe_op op_mod (pe_callTy call_intA (by rfl) T.n_int (by decide +kernel) (pa_cons (pe_op op_mulW (pe_op op_mulW (pe_op op_addA (pv 2) pe_int) (pe_op op_addA (pv 1) pe_int)) pe_int) pa_nil)) pe_int)))))), ?_⟩
  obtain ⟨a, k, ns, rfl, hs, h0, h1, q⟩ := h
  have hq : Sq K H a (ns.map V.int) := .inl hs
  walk_at "w0"
  walk_at "w"
  refine iteD (fun h => ?_) (fun h => ?_)
  · walk_at "w"
    rw [List.length_map] at h
    have e : lawCell ns k = ns.getD k.toNat 0 := if_pos h
    have g : (ns.map V.int)[k.toNat]? = some (.int (lawCell ns k)) := by
      rw [e, List.getElem?_map, List.getD_eq_getElem?_getD, List.getElem?_eq_getElem (by omega)]
      rfl
    have g2 := atI_nat g
    rw [Int.toNat_of_nonneg h0] at g2
    exact w_ix hq g2 q
  · rw [List.length_map] at h
    walk_at "w"
    refine for_seq H hq (fun i σ' H' => H' = H ∧ ∃ (v : Option V) (z : Int), σ' = [some (.ref a), some (.int k), some (.int z), v] ∧ z = (ns.take i).foldl (fun s c => (s * 31 + c % 1000003) % 1000003) 17 ∧ 0 ≤ z ∧ z < 1000003)
      ⟨rfl, none, 17, rfl, rfl, by decide, by decide⟩ (fun i σ' H' _ ⟨e, _⟩ => e ▸ Same.refl _) ?_ ?_
    · rintro i x σ' H' hi ⟨rfl, v, z, rfl, ez, z0, z1⟩
      obtain ⟨c, hc, rfl⟩ : ∃ c, ns[i]? = some c ∧ V.int c = x := by
        rw [List.getElem?_map] at hi
        cases e : ns[i]? with
        | none => rw [e] at hi; cases hi
        | some c => rw [e] at hi; exact ⟨c, rfl, Option.some.inj hi⟩
      walk_at "w"
      refine ⟨rfl, _, _, rfl, ?_, Int.emod_nonneg _ (by decide), Int.emod_lt_of_pos _ (by decide)⟩
      rw [List.take_add_one, hc, ez]
      simp
    · rintro σ' H' ⟨rfl, v, z, rfl, ez, z0, z1⟩
      rw [List.length_map, List.take_length] at ez
      walk_at "w"
      have e : lawCell ns k = ((z + 7) * (k + 3) * 69621) % 2147483647 := by
        unfold lawCell
        rw [if_neg h, ez]
      have m1 : CMulW (z + 7) (k + 3) := small_mul (by omega) (by omega)
      have m2 : CMulW ((z + 7) * (k + 3)) 69621 := Sm.mulOk (a := 60) (b := 30) (Sm.mul (a := 30) (b := 30) (show (z + 7).natAbs < 2 ^ 30 by omega) (show (k + 3).natAbs < 2 ^ 30 by omega)) (by decide) (by decide)
      walk_at "w"
      rw [e] at q
      exact q
end JP
set_option Elab.async false
set_option linter.all false
set_option maxRecDepth 100000
set_option maxHeartbeats 4000000
namespace JP
open PySem PySem.Spec PyProof.Rows L2
local macro_rules | `(tactic| walk_at "w1") => `(tactic| first
  | with_reducible refine w_seq ?_
  | with_reducible refine w_asg ?_
  | with_reducible refine w_name ?_
  | with_reducible refine w_op ?_
  | ((with_reducible refine w_var ?v ?h ?q); (case h => exact rfl))
  | with_reducible refine w_c ?_
  | with_reducible refine w_ret ?_
  | with_reducible refine w_if ?_
  | with_reducible refine w_drop ?_
  | with_reducible refine w_next ?_
  | with_reducible refine w_un ?_
  | with_reducible refine w_p18 ?_
  | with_reducible refine w_p30 ?_
  | with_reducible refine w_p6 ?_
  | with_reducible refine w_p9 ?_
  | with_reducible refine w_p12 ?_
  | with_reducible refine w_p15 ?_
  | with_reducible refine w_p24 ?_
  | with_reducible refine w_slice ?_
  | with_reducible refine w_part ?_
  | with_reducible refine w_nopart ?_
  | with_reducible refine w_ei ?_
  | with_reducible refine w_for ?_
  | with_reducible refine w_rng1 ?_
  | with_reducible refine w_rng2 ?_
  | with_reducible refine w_iseq ?_
  | ((with_reducible refine w_I ?c ?q); (case c => walk_at "side"))
  | ((with_reducible refine w_len ?xs ?h ?q); (case h => walk_at "tr"))
  | with_reducible refine w_cb ?_
  | with_reducible refine w_cons ?_
  | with_reducible refine w_nil ?_
  | with_reducible refine w_test ?_
  | with_reducible refine w_B ?_
  | with_reducible refine w_bl ?_
  | with_reducible refine w_and ?_
  | with_reducible refine w_or ?_
  | with_reducible refine w_not ?_
  | with_reducible refine w_andV ?_
  | with_reducible refine w_orV ?_
  | with_reducible refine w_notV ?_
  | with_reducible refine w_ifE ?_
  | with_reducible refine w_call ?_
  | with_reducible refine w_bm ?_
  | ((with_reducible refine w_tyl ?xs ?h ?q); (case h => assumption))
  | with_reducible refine w_bm0 ?_
  | with_reducible refine w_bits ?_
  | with_reducible refine w_tup ?_
  | with_reducible refine w_lst ?_
  | with_reducible refine w_I0 ?_
  | with_reducible refine w_U ?_
  | with_reducible refine w_add ?_
  | with_reducible refine w_eqI ?_
  | with_reducible refine w_neI ?_
  | with_reducible refine w_eqS ?_
  | with_reducible refine w_neS ?_
  | with_reducible refine w_int ?_
  | with_reducible refine w_abs ?_
  | with_reducible refine w_gcd ?_)
local macro_rules | `(tactic| walk_at "w") => `(tactic| repeat (walk_at "w1"))
local macro_rules | `(tactic| walk_at "w0") => `(tactic| simp only [cxOf_K, L2.start, List.map_cons, List.map_nil, List.length_cons, List.length_nil, Nat.reduceAdd, Nat.reduceSub, List.replicate_succ, List.replicate_zero, List.cons_append, List.nil_append])
local macro_rules | `(tactic| walk_at "side") => `(tactic| first | assumption | (exact small_div (by omega) (by omega)) | (exact small_mul (by omega) (by omega)) | (exact med_mul (by omega) (by omega)) | (exact big_mul (by omega) (by omega)) | (exact ⟨by decide, by decide, by decide⟩) | (show (0 : Int) < _; omega))
local macro_rules | `(tactic| walk_at "ch") => `(tactic| first
  | with_reducible assumption
  | with_reducible exact Same.refl _
  | ((with_reducible refine tr_at ?H ?e ?h); (case e => with_reducible assumption); (case h => walk_at "ch"))
  | ((with_reducible refine tr_st ?H ?e ?h); (case e => with_reducible assumption); (case h => walk_at "ch"))
  | ((with_reducible refine tr_sl ?H ?e ?h); (case e => with_reducible assumption); (case h => walk_at "ch"))
  | ((with_reducible refine tr_same ?H ?e ?h); (case e => with_reducible assumption); (case h => walk_at "ch"))
  | ((with_reducible refine tr_sq ?H ?e ?h); (case e => with_reducible assumption); (case h => walk_at "ch"))
  | ((with_reducible refine tr_dp ?H ?e ?h); (case e => with_reducible assumption); (case h => walk_at "ch"))
  | walk_at "tr2")
local macro_rules | `(tactic| walk_at "tr") => `(tactic| first
  | walk_at "ch"
  | ((with_reducible refine tr_eq ?u ?h ?e); (case h => walk_at "ch"); (case e => rfl))
  | ((with_reducible refine tr_eqt ?u ?h ?e); (case h => walk_at "ch"); (case e => rfl))
  | ((with_reducible refine tr_eql ?u ?h ?e); (case h => walk_at "ch"); (case e => rfl))
  | ((with_reducible refine SqT.of ?_); first | walk_at "ch" | ((with_reducible refine tr_eq ?u ?h ?e); (case h => walk_at "ch"); (case e => rfl)))
  | ((with_reducible refine SqL.of ?_); first | walk_at "ch" | ((with_reducible refine tr_eq ?u ?h ?e); (case h => walk_at "ch"); (case e => rfl)))
  | ((with_reducible refine sq_l ?_); walk_at "tr")
  | ((with_reducible refine sq_t ?_); walk_at "tr"))
local macro_rules | `(tactic| walk_at "tr2") => `(tactic| fail)
local macro_rules | `(tactic| walk_at "sz") => `(tactic| (simp only [List.length_cons, List.length_nil, List.length_append, List.length_map]; decide))
local macro_rules | `(tactic| walk_at "g") => `(tactic| repeat (first
  | (with_reducible refine g_cons ?_)
  | (with_reducible refine g_nil ?_)
  | (with_reducible refine w_name ?_)))
def digA : Int → List Int → List Int
  | _, [] => []
  | r, z :: zs => r % z :: digA (r.fdiv z) zs
def dS (s : Int) (k : Nat) : Int := (s * 48271 + 974711 * (k : Int) + 12345) % 2147483647
def dT (s : Int) : Int := ((s * (s.fdiv 65537 + 3)) % 2147483629).fdiv 19
def digB : Int → Nat → List Int → List Int
  | _, _, [] => []
  | s, k, z :: zs => dT (dS s k) % z :: digB (dS s k) (k + 1) zs
def digits (c : Int) (zs : List Int) : List Int := if 1000000000000000000 ≤ c then digA (c - 1000000000000000000) zs else digB (c % 2147483629) 0 zs
/-- row is a row of digits for the sizes -/
def Dig (zs ds : List Int) : Prop := ds.length = zs.length ∧ ∀ (i : Nat) (z d : Int), zs[i]? = some z → ds[i]? = some d → 0 ≤ d ∧ d < z
theorem digA_ok : ∀ (zs : List Int) (r : Int), (∀ z ∈ zs, 0 < z) → Dig zs (digA r zs)
  | [], _, _ => ⟨rfl, fun i z d h => by simp at h⟩
  | z :: zs, r, h => by
    obtain ⟨a, b⟩ := digA_ok zs (r.fdiv z) fun y hy => h y (List.mem_cons_of_mem _ hy)
    have hz := h z List.mem_cons_self
    refine ⟨by show _ + 1 = _ + 1; rw [a], fun i y d h1 h2 => ?_⟩
    cases i with
    | zero =>
      have e1 : z = y := by simpa using h1
      have e2 : r % z = d := by simpa [digA] using h2
      rw [← e1, ← e2]
      exact ⟨Int.emod_nonneg _ (by omega), Int.emod_lt_of_pos _ hz⟩
    | succ i => exact b i y d (by simpa using h1) (by simpa [digA] using h2)
theorem digB_ok : ∀ (zs : List Int) (s : Int) (k : Nat), (∀ z ∈ zs, 0 < z) → Dig zs (digB s k zs)
  | [], _, _, _ => ⟨rfl, fun i z d h => by simp at h⟩
  | z :: zs, s, k, h => by
    obtain ⟨a, b⟩ := digB_ok zs (dS s k) (k + 1) fun y hy => h y (List.mem_cons_of_mem _ hy)
    have hz := h z List.mem_cons_self
    refine ⟨by show _ + 1 = _ + 1; rw [a], fun i y d h1 h2 => ?_⟩
    cases i with
    | zero =>
      have e1 : z = y := by simpa using h1
      have e2 : dT (dS s k) % z = d := by simpa [digB] using h2
      rw [← e1, ← e2]
      exact ⟨Int.emod_nonneg _ (by omega), Int.emod_lt_of_pos _ hz⟩
    | succ i => exact b i y d (by simpa using h1) (by simpa [digB] using h2)
theorem digits_ok (c : Int) (zs : List Int) (h : ∀ z ∈ zs, 0 < z) : Dig zs (digits c zs) := by
  unfold digits
  split
  · exact digA_ok _ _ h
  · exact digB_ok _ _ _ h
def sp_digits (K : PySem.W.Frag) : Sp := fun vs H Q _ => ∃ (c : Int) (a : Addr) (zs : List Int), vs = [.int c, .ref a] ∧ Sq K H a (zs.map V.int) ∧ (∀ z ∈ zs, 0 < z ∧ z < 1073741824) ∧ zs.length ≤ 1000 ∧
  ∀ p H2, H p = none → Same H H2 → H2 p = some (.lst ((digits c zs).map V.int)) → Q (.ref p) H2
theorem sc__law_digits : FnScope ["cell", "sizes", "row", "rest", "size", "seed", "k", "twice"] ["cell", "sizes"] (defScope (top 43)) := ⟨rfl, rfl, rfl, by decide +kernel, rfl, by decide +kernel, by decide +kernel⟩
theorem d__law_digits {P : Program} {w : World} {K : PySem.W.Frag} {mg : Str → Option Value} {base : Heap} (T : Tx K mg) : Def P w K mg base "_law_digits" 1 ["cell", "sizes"] (sp_digits K) := by
  refine Def.of T.at__law_digits sc__law_digits (fun _ _ _ _ _ _ us hl => match us, hl with | [_, _], _ => rfl) (fun vs H Q E h => by (obtain ⟨_, _, _, rfl, _⟩ := h; rfl)) (fun f cdv A outer s H vs Q E hr h => ?_)
  refine ⟨_, PSs.nox (pss_cons (ps_set (i := 2) sc__law_digits.nd rfl (Or.inl rfl) (pe_lstA pa_nil))
      (pss_cons (ps_set (i := 3) sc__law_digits.nd rfl (Or.inl rfl) (pe_callTy call_intA (by rfl) T.n_int (by decide +kernel) (pa_cons (pv 0) pa_nil)))
      (pss_cons (ps_if (pt_cmpR op_ge (pv 3) (pe_op op_pow pe_int pe_int) (nomark _)) (pss_cons (ps_set (i := 3) sc__law_digits.nd rfl (Or.inl rfl) (pe_op op_sub (pv 3) (pe_op op_pow pe_int pe_int)))
      (pss_cons (ps_for PassesOwn.never rfl (pi_seq (pv 1)) (pg_name (i := 4) sc__law_digits.nd rfl (Or.inl rfl)) (pss_cons (ps_expr (pe_bm PySem.F.plainAttrs_list PySem.F.slot_list_append PySem.F.type_list_append mt_appendA (pv 2) (pa_cons (pe_op op_mod (pe_callTy call_intA (by rfl) T.n_int (by decide +kernel) (pa_cons (pv 3) pa_nil)) (pv 4)) pa_nil)))
      (pss_one (ps_set (i := 3) sc__law_digits.nd rfl (Or.inl rfl) (pe_op op_fdivG (pe_callTy call_intA (by rfl) T.n_int (by decide +kernel) (pa_cons (pv 3) pa_nil)) (pv 4))))))
      (pss_one (ps_ret (pv 2))))) pss_nil)
      (pss_cons (ps_set (i := 5) sc__law_digits.nd rfl (Or.inl rfl) (pe_op op_mod (pe_callTy call_intA (by rfl) T.n_int (by decide +kernel) (pa_cons (pv 3) pa_nil)) pe_int))
      (pss_cons (ps_for PassesOwn.never rfl (pi_range1 (by rfl) T.n_range (pa_cons (pe_callB call_lenA (by rfl) T.n_len (by decide +kernel) (pa_cons (pv 1) pa_nil)) pa_nil)) (pg_name (i := 6) sc__law_digits.nd rfl (Or.inl rfl)) (pss_cons (ps_set (i := 5) sc__law_digits.nd rfl (Or.inl rfl) (pe_op op_mod (pe_callTy call_intA (by rfl) T.n_int (by decide +kernel) (pa_cons (pe_op op_addA (pe_op op_addA (pe_op op_mulW (pv 5) pe_int) (pe_op op_mulW pe_int (pv 6))) pe_int) pa_nil)) pe_int))
      (pss_cons (ps_set (i := 7) sc__law_digits.nd rfl (Or.inl rfl) (pe_op op_mod (pe_callTy call_intA (by rfl) T.n_int (by decide +kernel) (pa_cons (pe_op op_mulW (pv 5) (pe_op op_addA (pe_op op_fdivG (pv 5) pe_int) pe_int)) pa_nil)) pe_int))
      (pss_one (ps_expr (pe_bm PySem.F.plainAttrs_list PySem.F.slot_list_append PySem.F.type_list_append mt_appendA (pv 2) (pa_cons (pe_op op_mod (pe_op op_fdivG (pv 7) pe_int) (pe_ix ix_seq (pv 1) (pv 6) (fun _ _ => rfl))) pa_nil)))))))
      (pss_one (ps_ret (pv 2)))))))), ?_⟩
  obtain ⟨c, a, zs, rfl, hq, hzs, hlen, q⟩ := h
  walk_at "w0"
  walk_at "w"
  refine ⟨by walk_at "sz", fun l H1 n1 s1 e1 => ?_⟩
  have hlen' : (zs.map V.int).length ≤ 1000 := by rw [List.length_map]; exact hlen
  walk_at "w"
  refine iteD (fun h => ?_) (fun h => ?_)
  · walk_at "w"
    refine for_seq H hq (fun i σ' H' => Same H H' ∧ ∃ (r : Int) (v : Option V) (done : List Int), σ' = [some (.int c), some (.ref a), some (.ref l), some (.int r), v, none, none, none] ∧ H' l = some (.lst (done.map V.int)) ∧ done.length = i ∧ digA (c - 1000000000000000000) zs = done ++ digA r (zs.drop i))
      ⟨s1, _, none, [], rfl, e1, rfl, rfl⟩ (fun i σ' H' _ ⟨e, _⟩ => e) ?_ ?_
    · rintro i x σ' H' hi ⟨sm, r, v, done, rfl, el, ei, ed⟩
      obtain ⟨z, hz, rfl⟩ := map_at hi
      have hzz := hzs z (List.mem_of_getElem? hz)
      have hz0 : (0 : Int) < z := hzz.1
      have hil := (List.getElem?_eq_some_iff.mp hz).1
      have cd : CDivG r z := small_div hzz.1 hzz.2
      walk_at "w"
      refine w_append el (size_of (by rw [List.length_map]; omega)) fun H2 b2 e2 => ?_
      walk_at "w"
      have c0 : digA r (zs.drop i) = r % z :: digA (r.fdiv z) (zs.drop (i + 1)) := by
        rw [List.drop_eq_getElem_cons hil, (List.getElem?_eq_some_iff.mp hz).2]
        rfl
      refine ⟨But.same b2 sm n1, _, _, done ++ [r % z], rfl, ?_, ?_, ?_⟩
      · rw [e2, List.map_append]; rfl
      · rw [List.length_append, ei]; rfl
      · rw [ed, c0, List.append_assoc]; rfl
    · rintro σ' H' ⟨sm, r, v, done, rfl, el, ei, ed⟩
      walk_at "w"
      have e : digits c zs = done := by
        unfold digits
        rw [if_pos h, ed, List.length_map, List.drop_length]
        exact List.append_nil _
      rw [← e] at el
      exact q l H' n1 sm el
  · walk_at "w"
    have hq1 := Same.sq s1 hq
    walk_at "w"
    refine for_rng1 (n := zs.length) (by rw [List.length_map]; exact Int.toNat_natCast _) (by omega) (by omega) (fun i σ' H' => Same H H' ∧ ∃ (s : Int) (v1 v2 : Option V) (done : List Int), σ' = [some (.int c), some (.ref a), some (.ref l), some (.int c), none, some (.int s), v1, v2] ∧ H' l = some (.lst (done.map V.int)) ∧ done.length = i ∧ 0 ≤ s ∧ s < 2147483647 ∧ digB (c % 2147483629) 0 zs = done ++ digB s i (zs.drop i))
      ⟨s1, _, none, none, [], rfl, e1, rfl, Int.emod_nonneg _ (by decide), Int.lt_trans (Int.emod_lt_of_pos _ (by decide)) (by decide), rfl⟩ ?_ ?_
    · rintro i σ' H' hi ⟨sm, s, v1, v2, done, rfl, el, ei, s0, s2, ed⟩
      have hz : zs[i]? = some zs[i] := List.getElem?_eq_getElem hi
      have hzz := hzs zs[i] (List.mem_of_getElem? hz)
      have hz0 : (0 : Int) < zs[i] := hzz.1
      have c0 : digB s i (zs.drop i) = dT (dS s i) % zs[i] :: digB (dS s i) (i + 1) (zs.drop (i + 1)) := by
        rw [List.drop_eq_getElem_cons hi]
        rfl
      walk_at "w"
      generalize es : (s * 48271 + 974711 * (i : Int) + 12345) % 2147483647 = s'
      rw [show dS s i = s' from es] at c0
      have b0 : 0 ≤ s' := es ▸ Int.emod_nonneg _ (by decide)
      have b1 : s' < 2147483647 := es ▸ Int.emod_lt_of_pos _ (by decide)
      have b2 : 0 ≤ s'.fdiv 65537 ∧ s'.fdiv 65537 ≤ 2147483647 := by
        rw [Int.fdiv_eq_ediv_of_nonneg _ (by decide)]
        omega
      walk_at "w"
      refine w_ix (Same.sq sm hq) (atI_nat (map_get hz)) ?_
      walk_at "w"
      refine w_append el (size_of (by rw [List.length_map]; omega)) fun H2 bb e2 => ?_
      walk_at "w"
      refine ⟨But.same bb sm n1, s', _, _, done ++ [dT s' % zs[i]], rfl, ?_, ?_, b0, b1, ?_⟩
      · rw [e2, List.map_append]; rfl
      · rw [List.length_append, ei]; rfl
      · rw [ed, c0, List.append_assoc]; rfl
    · rintro σ' H' ⟨sm, s, v1, v2, done, rfl, el, ei, s0, s2, ed⟩
      walk_at "w"
      have e : digits c zs = done := by
        unfold digits
        rw [if_neg h, ed, List.drop_length]
        exact List.append_nil _
      rw [← e] at el
      exact q l H' n1 sm el
end JP
set_option Elab.async false
set_option linter.all false
set_option maxRecDepth 100000
set_option maxHeartbeats 4000000
namespace JP
open PySem PySem.Spec PyProof.Rows L2
local macro_rules | `(tactic| walk_at "w1") => `(tactic| first
  | with_reducible refine w_seq ?_
  | with_reducible refine w_asg ?_
  | with_reducible refine w_name ?_
  | with_reducible refine w_op ?_
  | ((with_reducible refine w_var ?v ?h ?q); (case h => exact rfl))
  | with_reducible refine w_c ?_
  | with_reducible refine w_ret ?_
  | with_reducible refine w_if ?_
  | with_reducible refine w_drop ?_
  | with_reducible refine w_next ?_
  | with_reducible refine w_un ?_
  | with_reducible refine w_p18 ?_
  | with_reducible refine w_p30 ?_
  | with_reducible refine w_p6 ?_
  | with_reducible refine w_p9 ?_
  | with_reducible refine w_p12 ?_
  | with_reducible refine w_p15 ?_
  | with_reducible refine w_p24 ?_
  | with_reducible refine w_slice ?_
  | with_reducible refine w_part ?_
  | with_reducible refine w_nopart ?_
  | with_reducible refine w_ei ?_
  | with_reducible refine w_for ?_
  | with_reducible refine w_rng1 ?_
  | with_reducible refine w_rng2 ?_
  | with_reducible refine w_iseq ?_
  | ((with_reducible refine w_I ?c ?q); (case c => walk_at "side"))
  | ((with_reducible refine w_len ?xs ?h ?q); (case h => walk_at "tr"))
  | with_reducible refine w_cb ?_
  | with_reducible refine w_cons ?_
  | with_reducible refine w_nil ?_
  | with_reducible refine w_test ?_
  | with_reducible refine w_B ?_
  | with_reducible refine w_bl ?_
  | with_reducible refine w_and ?_
  | with_reducible refine w_or ?_
  | with_reducible refine w_not ?_
  | with_reducible refine w_andV ?_
  | with_reducible refine w_orV ?_
  | with_reducible refine w_notV ?_
  | with_reducible refine w_ifE ?_
  | with_reducible refine w_call ?_
  | with_reducible refine w_bm ?_
  | ((with_reducible refine w_tyl ?xs ?h ?q); (case h => assumption))
  | with_reducible refine w_bm0 ?_
  | with_reducible refine w_bits ?_
  | with_reducible refine w_tup ?_
  | with_reducible refine w_lst ?_
  | with_reducible refine w_I0 ?_
  | with_reducible refine w_U ?_
  | with_reducible refine w_add ?_
  | with_reducible refine w_eqI ?_
  | with_reducible refine w_neI ?_
  | with_reducible refine w_eqS ?_
  | with_reducible refine w_neS ?_
  | with_reducible refine w_int ?_
  | with_reducible refine w_abs ?_
  | with_reducible refine w_gcd ?_)
local macro_rules | `(tactic| walk_at "w") => `(tactic| repeat (walk_at "w1"))
local macro_rules | `(tactic| walk_at "w0") => `(tactic| simp only [cxOf_K, L2.start, List.map_cons, List.map_nil, List.length_cons, List.length_nil, Nat.reduceAdd, Nat.reduceSub, List.replicate_succ, List.replicate_zero, List.cons_append, List.nil_append])
local macro_rules | `(tactic| walk_at "side") => `(tactic| first | assumption | (exact small_div (by omega) (by omega)) | (exact small_mul (by omega) (by omega)) | (exact med_mul (by omega) (by omega)) | (exact big_mul (by omega) (by omega)) | (exact ⟨by decide, by decide, by decide⟩) | (show (0 : Int) < _; omega))
local macro_rules | `(tactic| walk_at "ch") => `(tactic| first
  | with_reducible assumption
  | with_reducible exact Same.refl _
  | ((with_reducible refine tr_at ?H ?e ?h); (case e => with_reducible assumption); (case h => walk_at "ch"))
  | ((with_reducible refine tr_st ?H ?e ?h); (case e => with_reducible assumption); (case h => walk_at "ch"))
  | ((with_reducible refine tr_sl ?H ?e ?h); (case e => with_reducible assumption); (case h => walk_at "ch"))
  | ((with_reducible refine tr_same ?H ?e ?h); (case e => with_reducible assumption); (case h => walk_at "ch"))
  | ((with_reducible refine tr_sq ?H ?e ?h); (case e => with_reducible assumption); (case h => walk_at "ch"))
  | ((with_reducible refine tr_dp ?H ?e ?h); (case e => with_reducible assumption); (case h => walk_at "ch"))
  | walk_at "tr2")
local macro_rules | `(tactic| walk_at "tr") => `(tactic| first
  | walk_at "ch"
  | ((with_reducible refine tr_eq ?u ?h ?e); (case h => walk_at "ch"); (case e => rfl))
  | ((with_reducible refine tr_eqt ?u ?h ?e); (case h => walk_at "ch"); (case e => rfl))
  | ((with_reducible refine tr_eql ?u ?h ?e); (case h => walk_at "ch"); (case e => rfl))
  | ((with_reducible refine SqT.of ?_); first | walk_at "ch" | ((with_reducible refine tr_eq ?u ?h ?e); (case h => walk_at "ch"); (case e => rfl)))
  | ((with_reducible refine SqL.of ?_); first | walk_at "ch" | ((with_reducible refine tr_eq ?u ?h ?e); (case h => walk_at "ch"); (case e => rfl)))
  | ((with_reducible refine sq_l ?_); walk_at "tr")
  | ((with_reducible refine sq_t ?_); walk_at "tr"))
local macro_rules | `(tactic| walk_at "tr2") => `(tactic| fail)
local macro_rules | `(tactic| walk_at "sz") => `(tactic| (simp only [List.length_cons, List.length_nil, List.length_append, List.length_map]; decide))
local macro_rules | `(tactic| walk_at "g") => `(tactic| repeat (first
  | (with_reducible refine g_cons ?_)
  | (with_reducible refine g_nil ?_)
  | (with_reducible refine w_name ?_)))
def sp_is (K : PySem.W.Frag) : Sp := fun vs H Q _ => ∃ (p q : Addr) (a b : Int), vs = [.ref p, .ref q] ∧ SqT K H p [.int a, .int b] ∧ SqT K H q [.int a, .int b] ∧ Q (.bl true) H
theorem sc__law_is : FnScope ["told", "due"] ["told", "due"] (defScope (top 46)) := ⟨rfl, rfl, rfl, by decide +kernel, rfl, by decide +kernel, by decide +kernel⟩
theorem d__law_is {P : Program} {w : World} {K : PySem.W.Frag} {mg : Str → Option Value} {base : Heap} (T : Tx K mg) : Def P w K mg base "_law_is" 2 ["told", "due"] (sp_is K) := by
  refine Def.of T.at__law_is sc__law_is (fun _ _ _ _ _ _ us hl => match us, hl with | [_, _], _ => rfl) (fun vs H Q E h => by (obtain ⟨_, _, _, _, rfl, _⟩ := h; rfl)) (fun f cdv A outer s H vs Q E hr h => ?_)
  refine ⟨_, PSs.nox (pss_cons (ps_if (PW.pt (pw_or (pt_not (pt_val (pe_callB call_isA (by rfl) T.n_isinstance (by decide +kernel) (pa_cons (pv 0) (pa_cons (pe_bltn (v := .ty "tuple") (u := .type "tuple") (by rfl) T.n_tuple (by decide +kernel) rfl) pa_nil))))) (pw_or1 (pt_cmpR (op_neA hr.units) (pe_callB call_lenA (by rfl) T.n_len (by decide +kernel) (pa_cons (pv 0) pa_nil)) pe_int (nomark _))))) (pss_one (ps_ret pe_bl)) pss_nil)
      (pss_one (ps_ret (pe_and (pe_def (d__law_whole T) (hr.mono (by decide)) (by rfl) (pa_cons (pe_ix ix_seq (pv 0) pe_int (fun _ _ => rfl)) pa_nil)) (pe_and (pe_def (d__law_whole T) (hr.mono (by decide)) (by rfl) (pa_cons (pe_ix ix_seq (pv 0) pe_int (fun _ _ => rfl)) pa_nil)) (pe_one (pe_cmpR (op_eqA hr.units) (pv 0) (pv 1) (nomark _)))))))), ?_⟩
  obtain ⟨p1, p2, a, b, rfl, h1, h2, q⟩ := h
  have g1 : Sq K H p1 [.int a, .int b] := .inr h1
  walk_at "w0"
  walk_at "w"
  refine w_isi (tyx_t h1) (b := true) (by decide +kernel) ?_
  walk_at "w"
  refine iteF ?_
  walk_at "w"
  refine iteF ?_
  walk_at "w"
  refine w_ix g1 (i := 0) rfl ?_
  walk_at "w"
  refine ⟨a, rfl, true, rfl, iteT ?_⟩
  walk_at "w"
  refine w_ix g1 (i := 1) rfl ?_
  walk_at "w"
  refine ⟨b, rfl, true, rfl, iteT ?_⟩
  walk_at "w"
  refine w_eqD (d := .tuple [.int a, .int b]) (e := .tuple [.int a, .int b]) (.tup h1 (.cons (.int _) (.cons (.int _) .nil))) (.tup h2 (.cons (.int _) (.cons (.int _) .nil))) rfl rfl ?_
  rw [SeqAt.eqv_refl]
  · exact q
  · rfl
/-- a number from -10 ** 30 to 10 ** 30 -/
abbrev N30 (x : Int) : Prop := x.natAbs ≤ 1000000000000000000000000000000
def sp_number (K : PySem.W.Frag) : Sp := fun vs H Q _ => ∃ (p : Addr) (a b c d e f : Int), vs = [.ref p] ∧ SqL K H p [.int a, .int b, .int c, .int d, .int e, .int f] ∧ 0 ≤ a ∧ a < 12 ∧ 0 ≤ b ∧ b < 1000000 ∧ 0 ≤ c ∧ c < 1000000 ∧ 0 ≤ d ∧ d < 1000000 ∧ 0 ≤ e ∧ e < 1000000 ∧ 0 ≤ f ∧ f < 1000000 ∧
  ∀ x H2, Same H H2 → N30 x → Q (.int x) H2
theorem sc__law_number : FnScope ["row", "wide", "menu", "worth"] ["row"] (defScope (top 47)) := ⟨rfl, rfl, rfl, by decide +kernel, rfl, by decide +kernel, by decide +kernel⟩
theorem d__law_number {P : Program} {w : World} {K : PySem.W.Frag} {mg : Str → Option Value} {base : Heap} (T : Tx K mg) : Def P w K mg base "_law_number" 1 ["row"] (sp_number K) := by
  refine Def.of T.at__law_number sc__law_number (fun _ _ _ _ _ _ us hl => match us, hl with | [_], _ => rfl) (fun vs H Q E h => by (obtain ⟨_, _, _, _, _, _, _, rfl, _⟩ := h; rfl)) (fun f cdv A outer s H vs Q E hr h => ?_)
  refine ⟨_, PSs.nox (pss_cons (ps_set (i := 1) sc__law_number.nd rfl (Or.inl rfl) (pe_op op_addA (pe_op op_addA (pe_op op_addA (pe_op op_addA (pe_ix ix_seq (pv 0) pe_int (fun _ _ => rfl)) (pe_op op_mulW (pe_op op_pow pe_int pe_int) (pe_ix ix_seq (pv 0) pe_int (fun _ _ => rfl)))) (pe_op op_mulW (pe_op op_pow pe_int pe_int) (pe_ix ix_seq (pv 0) pe_int (fun _ _ => rfl)))) (pe_op op_mulW (pe_op op_pow pe_int pe_int) (pe_ix ix_seq (pv 0) pe_int (fun _ _ => rfl)))) (pe_op op_mulW (pe_op op_pow pe_int pe_int) (pe_ix ix_seq (pv 0) pe_int (fun _ _ => rfl)))))
      (pss_cons (ps_if (pt_cmpR (op_eqA hr.units) (pe_ix ix_seq (pv 0) pe_int (fun _ _ => rfl)) pe_int (nomark _)) (pss_one (ps_ret pe_int)) pss_nil)
      (pss_cons (ps_if (pt_cmpR op_lt (pe_ix ix_seq (pv 0) pe_int (fun _ _ => rfl)) pe_int (nomark _)) (pss_one (ps_ret (pe_op op_sub (pe_op op_mod (pe_callTy call_intA (by rfl) T.n_int (by decide +kernel) (pa_cons (pe_ix ix_seq (pv 0) pe_int (fun _ _ => rfl)) pa_nil)) pe_int) pe_int))) pss_nil)
      (pss_cons (ps_if (pt_cmpR (op_eqA hr.units) (pe_ix ix_seq (pv 0) pe_int (fun _ _ => rfl)) pe_int (nomark _)) (pss_one (ps_ret (pe_op op_sub (pe_ix ix_seq (pv 0) pe_int (fun _ _ => rfl)) pe_int))) pss_nil)
      (pss_cons (ps_if (pt_cmpR (op_eqA hr.units) (pe_ix ix_seq (pv 0) pe_int (fun _ _ => rfl)) pe_int (nomark _)) (pss_one (ps_ret (pv 1))) pss_nil)
      (pss_cons (ps_if (pt_cmpR (op_eqA hr.units) (pe_ix ix_seq (pv 0) pe_int (fun _ _ => rfl)) pe_int (nomark _)) (pss_one (ps_ret (pe_un un_neg (pv 1)))) pss_nil)
      (pss_cons (ps_if (pt_cmpR (op_eqA hr.units) (pe_ix ix_seq (pv 0) pe_int (fun _ _ => rfl)) pe_int (nomark _)) (pss_one (ps_ret (pe_ix ix_seq (pe_lstA (pa_cons pe_int (pa_cons (pe_un un_neg pe_int) (pa_cons pe_int (pa_cons (pe_op op_pow pe_int pe_int) (pa_cons (pe_un un_neg (pe_op op_pow pe_int pe_int)) (pa_cons (pe_op op_sub (pe_op op_pow pe_int pe_int) pe_int) (pa_cons (pe_op op_sub pe_int (pe_op op_pow pe_int pe_int)) (pa_cons (pe_op op_pow pe_int pe_int) pa_nil))))))))) (pe_op op_mod (pe_callTy call_intA (by rfl) T.n_int (by decide +kernel) (pa_cons (pe_ix ix_seq (pv 0) pe_int (fun _ _ => rfl)) pa_nil)) pe_int) (fun _ _ => rfl)))) pss_nil)
      (pss_cons (ps_set (i := 2) sc__law_number.nd rfl (Or.inl rfl) (pe_lstA (pa_cons pe_int (pa_cons pe_int (pa_cons pe_int (pa_cons pe_int (pa_cons pe_int (pa_cons pe_int (pa_cons pe_int (pa_cons pe_int (pa_cons pe_int (pa_cons pe_int (pa_cons pe_int (pa_cons pe_int pa_nil))))))))))))))
      (pss_cons (ps_set (i := 3) sc__law_number.nd rfl (Or.inl rfl) (pe_op op_mulW (pe_op op_mulW (pe_ix ix_seq (pv 2) (pe_op op_mod (pe_callTy call_intA (by rfl) T.n_int (by decide +kernel) (pa_cons (pe_ix ix_seq (pv 0) pe_int (fun _ _ => rfl)) pa_nil)) pe_int) (fun _ _ => rfl)) (pe_ix ix_seq (pv 2) (pe_op op_mod (pe_callTy call_intA (by rfl) T.n_int (by decide +kernel) (pa_cons (pe_ix ix_seq (pv 0) pe_int (fun _ _ => rfl)) pa_nil)) pe_int) (fun _ _ => rfl))) (pe_ix ix_seq (pv 2) (pe_op op_mod (pe_callTy call_intA (by rfl) T.n_int (by decide +kernel) (pa_cons (pe_ix ix_seq (pv 0) pe_int (fun _ _ => rfl)) pa_nil)) pe_int) (fun _ _ => rfl))))
      (pss_one (ps_ret (pe_ix ix_seq (pe_lstA (pa_cons (pv 3) (pa_cons (pe_un un_neg (pv 3)) pa_nil))) (pe_op op_mod (pe_callTy call_intA (by rfl) T.n_int (by decide +kernel) (pa_cons (pe_ix ix_seq (pv 0) pe_int (fun _ _ => rfl)) pa_nil)) pe_int) (fun _ _ => rfl))))))))))))), ?_⟩
  obtain ⟨p, a, b, c, d, e, g, rfl, hs, a0, a1, b0, b1, c0, c1, d0, d1, e0, e1, g0, g1, q⟩ := h
  have hq : Sq K H p [.int a, .int b, .int c, .int d, .int e, .int g] := .inl hs
  walk_at "w0"
  walk_at "w"
  refine w_ix hq (i := 1) rfl ?_
  walk_at "w"
  refine w_ix hq (i := 2) rfl ?_
  walk_at "w"
  refine w_ix hq (i := 3) rfl ?_
  walk_at "w"
  refine w_ix hq (i := 4) rfl ?_
  walk_at "w"
  refine w_ix hq (i := 5) rfl ?_
  walk_at "w"
  refine w_ix hq (i := 0) rfl ?_
  walk_at "w"
  have nw : N30 (b + 1000000 * c + 1000000000000 * d + 1000000000000000000 * e + 1000000000000000000000000 * g) := by show _ ≤ _; omega
  refine iteD (fun _ => ?_) (fun _ => ?_)
  · walk_at "w"
    exact q _ _ (Same.refl _) (by decide)
  walk_at "w"
  refine w_ix hq (i := 0) rfl ?_
  walk_at "w"
  refine iteD (fun _ => ?_) (fun _ => ?_)
  · walk_at "w"
    refine w_ix hq (i := 1) rfl ?_
    walk_at "w"
    exact q _ _ (Same.refl _) (by show _ ≤ _; omega)
  walk_at "w"
  refine w_ix hq (i := 0) rfl ?_
  walk_at "w"
  refine iteD (fun _ => ?_) (fun _ => ?_)
  · walk_at "w"
    refine w_ix hq (i := 1) rfl ?_
    walk_at "w"
    exact q _ _ (Same.refl _) (by show _ ≤ _; omega)
  walk_at "w"
  refine w_ix hq (i := 0) rfl ?_
  walk_at "w"
  refine iteD (fun _ => ?_) (fun _ => ?_)
  · walk_at "w"
    exact q _ _ (Same.refl _) nw
  walk_at "w"
  refine w_ix hq (i := 0) rfl ?_
  walk_at "w"
  refine iteD (fun _ => ?_) (fun _ => ?_)
  · walk_at "w"
    exact q _ _ (Same.refl _) (by show _ ≤ _; rw [Int.natAbs_neg]; exact nw)
  walk_at "w"
  refine w_ix hq (i := 0) rfl ?_
  walk_at "w"
  refine iteD (fun _ => ?_) (fun _ => ?_)
  · walk_at "w"
    refine ⟨by walk_at "sz", fun l H1 n1 s1 l1 => ?_⟩
    walk_at "w"
    refine w_ix (Same.sq s1 hq) (i := 1) rfl ?_
    walk_at "w"
    obtain ⟨x, _, hx, ha⟩ := ix_ints [1, -1, 2, 1000000000000000000000000000000, -1000000000000000000000000000000, 1000000000000000000000000000000 - 1, 1 - 1000000000000000000000000000000, 1000000000000000] (i := b % 8) (by omega) (by show _ < (8 : Int); omega)
    refine w_ix (.inl (SqL.of l1)) ha ?_
    refine q _ _ s1 ?_
    simp only [List.mem_cons, List.not_mem_nil, or_false] at hx
    show _ ≤ _
    omega
  walk_at "w"
  refine ⟨by walk_at "sz", fun l H1 n1 s1 l1 => ?_⟩
  have menu : ∀ i : Int, 0 ≤ i → i < 12 → ∃ c : Int, 1 ≤ c ∧ c ≤ 999983 ∧ atI ([1, 2, 6, 12, 35, 60, 97, 360, 1001, 1024, 59049, 999983].map V.int) i = some (.int c) := by
    intro i h0 h1
    obtain ⟨x, _, hx, ha⟩ := ix_ints [1, 2, 6, 12, 35, 60, 97, 360, 1001, 1024, 59049, 999983] (i := i) h0 h1
    simp only [List.mem_cons, List.not_mem_nil, or_false] at hx
    exact ⟨x, by omega, by omega, ha⟩
  obtain ⟨m1, m1a, m1b, m1c⟩ := menu (b % 12) (by omega) (by omega)
  obtain ⟨m2, m2a, m2b, m2c⟩ := menu (c % 12) (by omega) (by omega)
  obtain ⟨m3, m3a, m3b, m3c⟩ := menu (d % 12) (by omega) (by omega)
  have hm : Sq K H1 l ([1, 2, 6, 12, 35, 60, 97, 360, 1001, 1024, 59049, 999983].map V.int) := .inl (SqL.of l1)
  have k1 : m1 * m2 ≤ 999983 * 999983 := Int.mul_le_mul m1b m2b (by omega) (by decide)
  have k2 : 0 ≤ m1 * m2 := Int.mul_nonneg (by omega) (by omega)
  have k3 : m1 * m2 * m3 ≤ 999983 * 999983 * 999983 := Int.mul_le_mul k1 m3b (by omega) (by decide)
  have k4 : 0 ≤ m1 * m2 * m3 := Int.mul_nonneg k2 (by omega)
  walk_at "w"
  refine w_ix (Same.sq s1 hq) (i := 1) rfl ?_
  walk_at "w"
  refine w_ix hm m1c ?_
  walk_at "w"
  refine w_ix (Same.sq s1 hq) (i := 2) rfl ?_
  walk_at "w"
  refine w_ix hm m2c ?_
  walk_at "w"
  refine w_ix (Same.sq s1 hq) (i := 3) rfl ?_
  walk_at "w"
  refine w_ix hm m3c ?_
  walk_at "w"
  refine ⟨by walk_at "sz", fun l2 H2 n2 s2 l3 => ?_⟩
  walk_at "w"
  refine w_ix (Same.sq s2 (Same.sq s1 hq)) (i := 4) rfl ?_
  walk_at "w"
  obtain ⟨x, _, hx, ha⟩ := ix_ints [m1 * m2 * m3, -(m1 * m2 * m3)] (i := e % 2) (by omega) (by show _ < (2 : Int); omega)
  refine w_ix (.inl (SqL.of l3)) ha ?_
  refine q _ _ (s1.trans s2) ?_
  simp only [List.mem_cons, List.not_mem_nil, or_false] at hx
  show _ ≤ _
  omega
end JP
set_option Elab.async false
set_option linter.all false
set_option maxRecDepth 100000
set_option maxHeartbeats 8000000
namespace JP
open PySem PySem.Spec PyProof.Rows L2
local macro_rules | `(tactic| walk_at "w1") => `(tactic| first
  | with_reducible refine w_seq ?_
  | with_reducible refine w_asg ?_
  | with_reducible refine w_name ?_
  | with_reducible refine w_op ?_
  | ((with_reducible refine w_var ?v ?h ?q); (case h => exact rfl))
  | with_reducible refine w_c ?_
  | with_reducible refine w_ret ?_
  | with_reducible refine w_if ?_
  | with_reducible refine w_drop ?_
  | with_reducible refine w_next ?_
  | with_reducible refine w_un ?_
  | with_reducible refine w_p18 ?_
  | with_reducible refine w_p30 ?_
  | with_reducible refine w_p6 ?_
  | with_reducible refine w_p9 ?_
  | with_reducible refine w_p12 ?_
  | with_reducible refine w_p15 ?_
  | with_reducible refine w_p24 ?_
  | with_reducible refine w_slice ?_
  | with_reducible refine w_part ?_
  | with_reducible refine w_nopart ?_
  | with_reducible refine w_ei ?_
  | with_reducible refine w_for ?_
  | with_reducible refine w_rng1 ?_
  | with_reducible refine w_rng2 ?_
  | with_reducible refine w_iseq ?_
  | ((with_reducible refine w_I ?c ?q); (case c => walk_at "side"))
  | ((with_reducible refine w_len ?xs ?h ?q); (case h => walk_at "tr"))
  | with_reducible refine w_cb ?_
  | with_reducible refine w_cons ?_
  | with_reducible refine w_nil ?_
  | with_reducible refine w_test ?_
  | with_reducible refine w_B ?_
  | with_reducible refine w_bl ?_
  | with_reducible refine w_and ?_
  | with_reducible refine w_or ?_
  | with_reducible refine w_not ?_
  | with_reducible refine w_andV ?_
  | with_reducible refine w_orV ?_
  | with_reducible refine w_notV ?_
  | with_reducible refine w_ifE ?_
  | with_reducible refine w_call ?_
  | with_reducible refine w_bm ?_
  | ((with_reducible refine w_tyl ?xs ?h ?q); (case h => assumption))
  | with_reducible refine w_bm0 ?_
  | with_reducible refine w_bits ?_
  | with_reducible refine w_tup ?_
  | with_reducible refine w_lst ?_
  | with_reducible refine w_I0 ?_
  | with_reducible refine w_U ?_
  | with_reducible refine w_add ?_
  | with_reducible refine w_eqI ?_
  | with_reducible refine w_neI ?_
  | with_reducible refine w_eqS ?_
  | with_reducible refine w_neS ?_
  | with_reducible refine w_int ?_
  | with_reducible refine w_abs ?_
  | with_reducible refine w_gcd ?_)
local macro_rules | `(tactic| walk_at "w") => `(tactic| repeat (walk_at "w1"))
local macro_rules | `(tactic| walk_at "w0") => `(tactic| simp only [cxOf_K, L2.start, List.map_cons, List.map_nil, List.length_cons, List.length_nil, Nat.reduceAdd, Nat.reduceSub, List.replicate_succ, List.replicate_zero, List.cons_append, List.nil_append])
local macro_rules | `(tactic| walk_at "side") => `(tactic| first | assumption | (exact small_div (by omega) (by omega)) | (exact small_mul (by omega) (by omega)) | (exact med_mul (by omega) (by omega)) | (exact big_mul (by omega) (by omega)) | (exact ⟨by decide, by decide, by decide⟩) | (show (0 : Int) < _; omega))
local macro_rules | `(tactic| walk_at "ch") => `(tactic| first
  | with_reducible assumption
  | with_reducible exact Same.refl _
  | ((with_reducible refine tr_at ?H ?e ?h); (case e => with_reducible assumption); (case h => walk_at "ch"))
  | ((with_reducible refine tr_st ?H ?e ?h); (case e => with_reducible assumption); (case h => walk_at "ch"))
  | ((with_reducible refine tr_sl ?H ?e ?h); (case e => with_reducible assumption); (case h => walk_at "ch"))
  | ((with_reducible refine tr_same ?H ?e ?h); (case e => with_reducible assumption); (case h => walk_at "ch"))
  | ((with_reducible refine tr_sq ?H ?e ?h); (case e => with_reducible assumption); (case h => walk_at "ch"))
  | ((with_reducible refine tr_dp ?H ?e ?h); (case e => with_reducible assumption); (case h => walk_at "ch"))
  | walk_at "tr2")
local macro_rules | `(tactic| walk_at "tr") => `(tactic| first
  | walk_at "ch"
  | ((with_reducible refine tr_eq ?u ?h ?e); (case h => walk_at "ch"); (case e => rfl))
  | ((with_reducible refine tr_eqt ?u ?h ?e); (case h => walk_at "ch"); (case e => rfl))
  | ((with_reducible refine tr_eql ?u ?h ?e); (case h => walk_at "ch"); (case e => rfl))
  | ((with_reducible refine SqT.of ?_); first | walk_at "ch" | ((with_reducible refine tr_eq ?u ?h ?e); (case h => walk_at "ch"); (case e => rfl)))
  | ((with_reducible refine SqL.of ?_); first | walk_at "ch" | ((with_reducible refine tr_eq ?u ?h ?e); (case h => walk_at "ch"); (case e => rfl)))
  | ((with_reducible refine sq_l ?_); walk_at "tr")
  | ((with_reducible refine sq_t ?_); walk_at "tr"))
local macro_rules | `(tactic| walk_at "tr2") => `(tactic| fail)
local macro_rules | `(tactic| walk_at "sz") => `(tactic| (simp only [List.length_cons, List.length_nil, List.length_append, List.length_map]; decide))
local macro_rules | `(tactic| walk_at "g") => `(tactic| repeat (first
  | (with_reducible refine g_cons ?_)
  | (with_reducible refine g_nil ?_)
  | (with_reducible refine w_name ?_)))
def szs : List Int := [12, 1000000, 1000000, 1000000, 1000000, 1000000, 12, 1000000, 1000000, 1000000, 1000000, 1000000, 8, 5, 6, 5, 6]
theorem list17 {ds : List Int} (h : ds.length = 17) : ∃ a0 a1 a2 a3 a4 a5 a6 a7 a8 a9 b0 b1 b2 b3 b4 b5 b6, ds = [a0, a1, a2, a3, a4, a5, a6, a7, a8, a9, b0, b1, b2, b3, b4, b5, b6] :=
  match ds, h with
  | [a0, a1, a2, a3, a4, a5, a6, a7, a8, a9, b0, b1, b2, b3, b4, b5, b6], _ => ⟨a0, a1, a2, a3, a4, a5, a6, a7, a8, a9, b0, b1, b2, b3, b4, b5, b6, rfl⟩
theorem mul_ne {a b : Int} (h : a ≠ 0) (h' : b ≠ 0) : a * b ≠ 0 := Int.mul_ne_zero h h'
def sp_pair (K : PySem.W.Frag) : Sp := fun vs H Q _ => ∃ (p : Addr) (ds : List Int), vs = [.ref p] ∧ SqL K H p (ds.map V.int) ∧ Dig szs ds ∧
  ∀ (l : Addr) (t b : Int) (H2 : Hp), Same H H2 → H2 l = some (.lst [.int t, .int b]) → N30 t → N30 b → b ≠ 0 → (ds.getD 13 0 = 4 → b = 1) → Q (.ref l) H2
theorem sc__law_pair : FnScope ["row", "top", "bottom", "factor"] ["row"] (defScope (top 48)) := ⟨rfl, rfl, rfl, by decide +kernel, rfl, by decide +kernel, by decide +kernel⟩
theorem d__law_pair {P : Program} {w : World} {K : PySem.W.Frag} {mg : Str → Option Value} {base : Heap} (T : Tx K mg) : Def P w K mg base "_law_pair" 2 ["row"] (sp_pair K) := by
  refine Def.of T.at__law_pair sc__law_pair (fun _ _ _ _ _ _ us hl => match us, hl with | [_], _ => rfl) (fun vs H Q E h => by (obtain ⟨_, _, rfl, _⟩ := h; rfl)) (fun f cdv A outer s H vs Q E hr h => ?_)
  refine ⟨_, PSs.nox (pss_cons (ps_set (i := 1) sc__law_pair.nd rfl (Or.inl rfl) (pe_def (d__law_number T) (hr.mono (by decide)) (by rfl) (pa_cons (pe_slice sl_listA (pv 0) (po_some pe_int) (po_some pe_int)) pa_nil)))
      (pss_cons (ps_set (i := 2) sc__law_pair.nd rfl (Or.inl rfl) (pe_def (d__law_number T) (hr.mono (by decide)) (by rfl) (pa_cons (pe_slice sl_listA (pv 0) (po_some pe_int) (po_some pe_int)) pa_nil)))
      (pss_cut (ps_if (PW.pt (pw_or (pt_cmpR (op_eqA hr.units) (pv 2) pe_int (nomark _)) (pw_or1 (pt_cmpR (op_eqA hr.units) (pe_ix ix_seq (pv 0) pe_int (fun _ _ => rfl)) pe_int (nomark _))))) (pss_one (ps_set (i := 2) sc__law_pair.nd rfl (Or.inl rfl) pe_int)) pss_nil)
      (pss_cons (ps_set (i := 3) sc__law_pair.nd rfl (Or.inl rfl) (pe_ix ix_seq (pe_lstA (pa_cons pe_int (pa_cons pe_int (pa_cons (pe_un un_neg pe_int) (pa_cons (pe_un un_neg pe_int) (pa_cons pe_int (pa_cons (pe_op op_pow pe_int pe_int) (pa_cons (pe_un un_neg pe_int) (pa_cons pe_int pa_nil))))))))) (pe_ix ix_seq (pv 0) pe_int (fun _ _ => rfl)) (fun _ _ => rfl)))
      (pss_cons (ps_if (PW.pt (pw_or (pt_cmpR (op_eqA hr.units) (pe_ix ix_seq (pv 0) pe_int (fun _ _ => rfl)) pe_int (nomark _)) (pw_or (pt_cmpR op_gt (pe_callB call_absA (by rfl) T.n_abs (by decide +kernel) (pa_cons (pe_op op_mulW (pv 1) (pv 3)) pa_nil)) (pe_op op_pow pe_int pe_int) (nomark _)) (pw_or1 (pt_cmpR op_gt (pe_callB call_absA (by rfl) T.n_abs (by decide +kernel) (pa_cons (pe_op op_mulW (pv 2) (pv 3)) pa_nil)) (pe_op op_pow pe_int pe_int) (nomark _)))))) (pss_one (ps_ret (pe_lstA (pa_cons (pv 1) (pa_cons (pv 2) pa_nil))))) pss_nil)
      (pss_one (ps_ret (pe_lstA (pa_cons (pe_op op_mulW (pv 1) (pv 3)) (pa_cons (pe_op op_mulW (pv 2) (pv 3)) pa_nil)))))))))), ?_⟩
  obtain ⟨p, ds, rfl, hs, hd, q⟩ := h
  obtain ⟨a0, a1, a2, a3, a4, a5, a6, a7, a8, a9, b0, b1, b2, b3, b4, b5, b6, rfl⟩ := list17 hd.1
  have c0 := hd.2 0 _ _ rfl rfl
  have c1 := hd.2 1 _ _ rfl rfl
  have c2 := hd.2 2 _ _ rfl rfl
  have c3 := hd.2 3 _ _ rfl rfl
  have c4 := hd.2 4 _ _ rfl rfl
  have c5 := hd.2 5 _ _ rfl rfl
  have c6 := hd.2 6 _ _ rfl rfl
  have c7 := hd.2 7 _ _ rfl rfl
  have c8 := hd.2 8 _ _ rfl rfl
  have c9 := hd.2 9 _ _ rfl rfl
  have c10 := hd.2 10 _ _ rfl rfl
  have c11 := hd.2 11 _ _ rfl rfl
  have c12 := hd.2 12 _ _ rfl rfl
  have c13 := hd.2 13 _ _ rfl rfl
  have hq : Sq K H p ([a0, a1, a2, a3, a4, a5, a6, a7, a8, a9, b0, b1, b2, b3, b4, b5, b6].map V.int) := .inl hs
  walk_at "w0"
  walk_at "w"
  refine w_slq _ ([a0, a1, a2, a3, a4, a5].map V.int) hs rfl fun l H1 n1 s1 l1 => ?_
  walk_at "w"
  refine ⟨l, a0, a1, a2, a3, a4, a5, rfl, SqL.of l1, c0.1, c0.2, c1.1, c1.2, c2.1, c2.2, c3.1, c3.2, c4.1, c4.2, c5.1, c5.2, fun t H2 s2 ht => ?_⟩
  walk_at "w"
  refine w_slq _ ([a6, a7, a8, a9, b0, b1].map V.int) (Same.sl (s1.trans s2) hs) rfl fun l H3 n3 s3 l3 => ?_
  walk_at "w"
  refine ⟨l, a6, a7, a8, a9, b0, b1, rfl, SqL.of l3, c6.1, c6.2, c7.1, c7.2, c8.1, c8.2, c9.1, c9.2, c10.1, c10.2, c11.1, c11.2, fun b H4 s4 hb => ?_⟩
  have s0 : Same H H4 := ((s1.trans s2).trans s3).trans s4
  walk_at "w"
  refine w_cut (fun σ' H' => H' = H4 ∧ ∃ b' : Int, σ' = [some (.ref p), some (.int t), some (.int b'), none] ∧ b' ≠ 0 ∧ N30 b' ∧ (b3 = 4 → b' = 1)) ?_ ?_
  · walk_at "w"
    refine iteD (fun h => iteT ?_) (fun h => ?_)
    · walk_at "w"
      exact ⟨rfl, 1, rfl, by decide, by decide, fun _ => rfl⟩
    · walk_at "w"
      refine w_ix (Same.sq s0 hq) (i := 13) rfl ?_
      walk_at "w"
      refine iteD (fun h2 => ?_) (fun h2 => ?_)
      · walk_at "w"
        exact ⟨rfl, 1, rfl, by decide, by decide, fun _ => rfl⟩
      · walk_at "w"
        exact ⟨rfl, b, rfl, h, hb, fun z => absurd z h2⟩
  · rintro σ' H' ⟨rfl, b', rfl, h0, hb', h4⟩
    walk_at "w"
    refine ⟨by walk_at "sz", fun l H5 n5 s5 l5 => ?_⟩
    walk_at "w"
    refine w_ix (Same.sq s5 (Same.sq s0 hq)) (i := 12) rfl ?_
    obtain ⟨c, _, hc, ha⟩ := ix_ints [1, 2, -1, -3, 6, 1000000000, -10, 1] (i := b2) c12.1 c12.2
    refine w_ix (.inl (SqL.of l5)) ha ?_
    have hc0 : c ≠ 0 ∧ c.natAbs ≤ 1000000000 := by
      simp only [List.mem_cons, List.not_mem_nil, or_false] at hc
      omega
    walk_at "w"
    refine w_ix (Same.sq s5 (Same.sq s0 hq)) (i := 13) rfl ?_
    walk_at "w"
    have out1 : ∀ (l : Addr) (H6 : Hp), H5 l = none → Same H5 H6 → H6 l = some (.lst [.int t, .int b']) → Q (.ref l) H6 := fun l H6 n6 s6 l6 => q l t b' H6 ((s0.trans s5).trans s6) l6 ht hb' h0 h4
    refine iteD (fun h5 => iteT ?_) (fun h5 => ?_)
    · walk_at "w"
      exact ⟨by walk_at "sz", out1⟩
    walk_at "w"
    refine iteD (fun h6 => iteT ?_) (fun h6 => ?_)
    · walk_at "w"
      exact ⟨by walk_at "sz", out1⟩
    walk_at "w"
    refine iteD (fun h7 => ?_) (fun h7 => ?_)
    · walk_at "w"
      exact ⟨by walk_at "sz", out1⟩
    walk_at "w"
    refine ⟨by walk_at "sz", fun l H6 n6 s6 l6 => q l _ _ H6 ((s0.trans s5).trans s6) l6 ?_ ?_ (mul_ne h0 hc0.1) fun z => absurd z h5⟩
    · show _ ≤ _
      omega
    · show _ ≤ _
      omega
def sp_passed (K : PySem.W.Frag) : Sp := fun vs H Q _ => ∃ (p : Addr) (t b f : Int), vs = [.ref p, .int f] ∧ SqL K H p [.int t, .int b] ∧ (f = 4 → b = 1) ∧
  ∀ v H2, Same H H2 → FV K H2 v t b → (f < 2 → ∃ l, v = .ref l ∧ H2 l = some (.lst [.int t, .int b])) → Q v H2
theorem sc__law_passed : FnScope ["pair", "form"] ["pair", "form"] (defScope (top 49)) := ⟨rfl, rfl, rfl, by decide +kernel, rfl, by decide +kernel, by decide +kernel⟩
theorem d__law_passed {P : Program} {w : World} {K : PySem.W.Frag} {mg : Str → Option Value} {base : Heap} (T : Tx K mg) : Def P w K mg base "_law_passed" 1 ["pair", "form"] (sp_passed K) := by
  refine Def.of T.at__law_passed sc__law_passed (fun _ _ _ _ _ _ us hl => match us, hl with | [_, _], _ => rfl) (fun vs H Q E h => by (obtain ⟨_, _, _, _, rfl, _⟩ := h; rfl)) (fun f cdv A outer s H vs Q E hr h => ?_)
  refine ⟨_, PSs.nox (pss_cons (ps_if (pt_cmpR (op_eqA hr.units) (pv 1) pe_int (nomark _)) (pss_one (ps_ret (pe_ix ix_seq (pv 0) pe_int (fun _ _ => rfl)))) pss_nil)
      (pss_cons (ps_if (pt_cmpR op_lt (pv 1) pe_int (nomark _)) (pss_one (ps_ret (pe_callTy call_listA (by rfl) T.n_list (by decide +kernel) (pa_cons (pv 0) pa_nil)))) pss_nil)
      (pss_one (ps_ret (pe_callTy call_tupleA (by rfl) T.n_tuple (by decide +kernel) (pa_cons (pv 0) pa_nil)))))), ?_⟩
  obtain ⟨p, t, b, g, rfl, hs, h4, q⟩ := h
  have hq : Sq K H p [.int t, .int b] := .inl hs
  walk_at "w0"
  walk_at "w"
  refine iteD (fun h => ?_) (fun h => ?_)
  · walk_at "w"
    exact w_ix hq (i := 0) rfl (q _ _ (Same.refl _) (.inl ⟨rfl, h4 h⟩) fun z => by omega)
  walk_at "w"
  refine iteD (fun h2 => ?_) (fun h2 => ?_)
  · walk_at "w"
    exact w_list hq fun l H2 n2 s2 l2 => q _ _ s2 (.inr ⟨l, rfl, .inl (SqL.of l2)⟩) fun _ => ⟨l, rfl, l2⟩
  · walk_at "w"
    exact w_tuple hq fun l H2 s2 l2 => q _ _ s2 (.inr ⟨l, rfl, .inr l2⟩) fun z => absurd z h2
/-! another pair of the same value: is it a list; its top and bottom -/
def fac (d : Int) : Int := [-1, 5, 1, -4, 1000000000000, 2].getD d.toNat 1
def oth (m : Int × Int) (d : Int) : Bool × Int × Int :=
  if (m.1 * fac d).natAbs > 1000000000000000000000000000000 ∨ (m.2 * fac d).natAbs > 1000000000000000000000000000000 then (false, m.1, m.2)
  else if d = 1 then (true, m.1 * fac d, m.2 * fac d) else (false, m.1 * fac d, m.2 * fac d)
theorem fac_ne (d : Int) : fac d ≠ 0 ∧ (fac d).natAbs ≤ 1000000000000 := by
  unfold fac
  rw [List.getD_eq_getElem?_getD]
  match d.toNat with
  | 0 => decide
  | 1 => decide
  | 2 => decide
  | 3 => decide
  | 4 => decide
  | 5 => decide
  | n + 6 => simp
theorem oth_val {m : Int × Int} {d : Int} (v : Val m.1 m.2 m) : Val (oth m d).2.1 (oth m d).2.2 m := by
  have h := (fac_ne d).1
  unfold oth
  split
  · exact v
  · split
    · exact v.scale h
    · exact v.scale h
theorem oth_le {m : Int × Int} {d : Int} (h1 : N30 m.1) (h2 : N30 m.2) : N30 (oth m d).2.1 ∧ N30 (oth m d).2.2 := by
  unfold oth
  split
  · exact ⟨h1, h2⟩
  · rename_i h
    have a1 : N30 (m.1 * fac d) := by show _ ≤ _; omega
    have a2 : N30 (m.2 * fac d) := by show _ ≤ _; omega
    split
    · exact ⟨a1, a2⟩
    · exact ⟨a1, a2⟩
/-- v is such a pair -/
def OV (K : PySem.W.Frag) (H : Hp) (v : V) (m : Int × Int) (d : Int) : Prop := ∃ p, v = .ref p ∧ if (oth m d).1 = true then SqL K H p [.int (oth m d).2.1, .int (oth m d).2.2] else SqT K H p [.int (oth m d).2.1, .int (oth m d).2.2]
theorem Same.ov {K : PySem.W.Frag} {H H' : Hp} {v : V} {m : Int × Int} {d : Int} (e : Same H H') (h : OV K H v m d) : OV K H' v m d := by
  obtain ⟨p, h1, h2⟩ := h
  refine ⟨p, h1, ?_⟩
  cases c : (oth m d).1 with
  | true => rw [c, if_pos rfl] at h2; rw [if_pos rfl]; exact Same.sl e h2
  | false => rw [c, if_neg Bool.false_ne_true] at h2; rw [if_neg Bool.false_ne_true]; exact Same.st e h2
theorem OV.fv {K : PySem.W.Frag} {H : Hp} {v : V} {m : Int × Int} {d : Int} (h : OV K H v m d) : FV K H v (oth m d).2.1 (oth m d).2.2 := by
  obtain ⟨p, h1, h2⟩ := h
  refine .inr ⟨p, h1, ?_⟩
  cases c : (oth m d).1 with
  | true => rw [c, if_pos rfl] at h2; exact .inl h2
  | false => rw [c, if_neg Bool.false_ne_true] at h2; exact .inr h2
def othD (m : Int × Int) (d : Int) : PyData := if (oth m d).1 = true then .list [.int (oth m d).2.1, .int (oth m d).2.2] else .tuple [.int (oth m d).2.1, .int (oth m d).2.2]
theorem OV.dp {K : PySem.W.Frag} {H : Hp} {v : V} {m : Int × Int} {d : Int} (h : OV K H v m d) : Dp K H v (othD m d) := by
  obtain ⟨p, h1, h2⟩ := h
  subst h1
  unfold othD
  cases c : (oth m d).1 with
  | true => rw [c, if_pos rfl] at h2; rw [if_pos rfl]; exact .lst h2 (.cons (.int _) (.cons (.int _) .nil))
  | false => rw [c, if_neg Bool.false_ne_true] at h2; rw [if_neg Bool.false_ne_true]; exact .tup h2 (.cons (.int _) (.cons (.int _) .nil))
theorem othD_shaped (m : Int × Int) (d : Int) : SeqAt.shaped (othD m d) = true ∧ (othD m d).canLay0 = true := by
  unfold othD
  split
  · exact ⟨rfl, rfl⟩
  · exact ⟨rfl, rfl⟩
def sp_other (K : PySem.W.Frag) : Sp := fun vs H Q _ => ∃ (p : Addr) (m : Int × Int) (d : Int), vs = [.ref p, .int d] ∧ SqT K H p [.int m.1, .int m.2] ∧ N30 m.1 ∧ N30 m.2 ∧ 0 ≤ d ∧ d < 6 ∧
  ∀ v H2, Same H H2 → OV K H2 v m d → Q v H2
theorem sc__law_other_pair : FnScope ["mine", "digit", "factor"] ["mine", "digit"] (defScope (top 50)) := ⟨rfl, rfl, rfl, by decide +kernel, rfl, by decide +kernel, by decide +kernel⟩
theorem d__law_other_pair {P : Program} {w : World} {K : PySem.W.Frag} {mg : Str → Option Value} {base : Heap} (T : Tx K mg) : Def P w K mg base "_law_other_pair" 1 ["mine", "digit"] (sp_other K) := by
  refine Def.of T.at__law_other_pair sc__law_other_pair (fun _ _ _ _ _ _ us hl => match us, hl with | [_, _], _ => rfl) (fun vs H Q E h => by (obtain ⟨_, _, _, rfl, _⟩ := h; rfl)) (fun f cdv A outer s H vs Q E hr h => ?_)
  refine ⟨_, PSs.nox (pss_cons (ps_set (i := 2) sc__law_other_pair.nd rfl (Or.inl rfl) (pe_ix ix_seq (pe_lstA (pa_cons (pe_un un_neg pe_int) (pa_cons pe_int (pa_cons pe_int (pa_cons (pe_un un_neg pe_int) (pa_cons (pe_op op_pow pe_int pe_int) (pa_cons pe_int pa_nil))))))) (pv 1) (fun _ _ => rfl)))
      (pss_cons (ps_if (PW.pt (pw_or (pt_cmpR op_gt (pe_callB call_absA (by rfl) T.n_abs (by decide +kernel) (pa_cons (pe_op op_mulW (pe_ix ix_seq (pv 0) pe_int (fun _ _ => rfl)) (pv 2)) pa_nil)) (pe_op op_pow pe_int pe_int) (nomark _)) (pw_or1 (pt_cmpR op_gt (pe_callB call_absA (by rfl) T.n_abs (by decide +kernel) (pa_cons (pe_op op_mulW (pe_ix ix_seq (pv 0) pe_int (fun _ _ => rfl)) (pv 2)) pa_nil)) (pe_op op_pow pe_int pe_int) (nomark _))))) (pss_one (ps_ret (pv 0))) pss_nil)
      (pss_cons (ps_if (pt_cmpR (op_eqA hr.units) (pv 1) pe_int (nomark _)) (pss_one (ps_ret (pe_lstA (pa_cons (pe_op op_mulW (pe_ix ix_seq (pv 0) pe_int (fun _ _ => rfl)) (pv 2)) (pa_cons (pe_op op_mulW (pe_ix ix_seq (pv 0) pe_int (fun _ _ => rfl)) (pv 2)) pa_nil))))) pss_nil)
      (pss_one (ps_ret (pe_tupA (pa_cons (pe_op op_mulW (pe_ix ix_seq (pv 0) pe_int (fun _ _ => rfl)) (pv 2)) (pa_cons (pe_op op_mulW (pe_ix ix_seq (pv 0) pe_int (fun _ _ => rfl)) (pv 2)) pa_nil)))))))), ?_⟩
  obtain ⟨p, m, d, rfl, hs, h1, h2, d0, d1, q⟩ := h
  have hq : Sq K H p [.int m.1, .int m.2] := .inr hs
  walk_at "w0"
  walk_at "w"
  refine ⟨by walk_at "sz", fun l H1 n1 s1 l1 => ?_⟩
  obtain ⟨c, hc1, _, ha⟩ := ix_ints [-1, 5, 1, -4, 1000000000000, 2] (i := d) d0 d1
  have hc : c = fac d := by
    unfold fac
    rw [List.getD_eq_getElem?_getD, hc1]
    rfl
  subst hc
  obtain ⟨f0, f1⟩ := fac_ne d
  walk_at "w"
  refine w_ix (.inl (SqL.of l1)) ha ?_
  walk_at "w"
  refine w_ix (Same.sq s1 hq) (i := 0) rfl ?_
  walk_at "w"
  have hq1 := Same.sq s1 hq
  refine iteD (fun h => iteT ?_) (fun h => ?_)
  · walk_at "w"
    refine q _ _ s1 ⟨p, rfl, ?_⟩
    have e : oth m d = (false, m.1, m.2) := if_pos (.inl (by omega))
    rw [e]
    exact Same.st s1 hs
  walk_at "w"
  refine w_ix hq1 (i := 1) rfl ?_
  walk_at "w"
  refine iteD (fun h3 => ?_) (fun h3 => ?_)
  · walk_at "w"
    refine q _ _ s1 ⟨p, rfl, ?_⟩
    have e : oth m d = (false, m.1, m.2) := if_pos (.inr (by omega))
    rw [e]
    exact Same.st s1 hs
  walk_at "w"
  have e0 : ¬ ((m.1 * fac d).natAbs > 1000000000000000000000000000000 ∨ (m.2 * fac d).natAbs > 1000000000000000000000000000000) := by omega
  refine iteD (fun h4 => ?_) (fun h4 => ?_)
  · walk_at "w"
    refine w_ix hq1 (i := 0) rfl ?_
    walk_at "w"
    refine w_ix hq1 (i := 1) rfl ?_
    walk_at "w"
    refine ⟨by walk_at "sz", fun l H2 n2 s2 l2 => q _ _ (s1.trans s2) ⟨l, rfl, ?_⟩⟩
    have e : oth m d = (true, m.1 * fac d, m.2 * fac d) := by unfold oth; rw [if_neg e0, if_pos h4]
    rw [e]
    exact SqL.of l2
  · walk_at "w"
    refine w_ix hq1 (i := 0) rfl ?_
    walk_at "w"
    refine w_ix hq1 (i := 1) rfl ?_
    walk_at "w"
    refine ⟨by walk_at "sz", fun l H2 n2 s2 l2 => q _ _ (s1.trans s2) ⟨l, rfl, ?_⟩⟩
    have e : oth m d = (false, m.1 * fac d, m.2 * fac d) := by unfold oth; rw [if_neg e0, if_neg h4]
    rw [e]
    exact SqT.of l2
end JP
set_option Elab.async false
set_option linter.all false
set_option maxRecDepth 100000
set_option maxHeartbeats 8000000
namespace JP
open PySem PySem.Spec PyProof.Rows L2 L2H
local macro_rules | `(tactic| walk_at "w1") => `(tactic| first
  | with_reducible refine w_seq ?_
  | with_reducible refine w_asg ?_
  | with_reducible refine w_name ?_
  | with_reducible refine w_op ?_
  | ((with_reducible refine w_var ?v ?h ?q); (case h => exact rfl))
  | with_reducible refine w_c ?_
  | with_reducible refine w_ret ?_
  | with_reducible refine w_if ?_
  | with_reducible refine w_drop ?_
  | with_reducible refine w_next ?_
  | with_reducible refine w_un ?_
  | with_reducible refine w_p18 ?_
  | with_reducible refine w_p30 ?_
  | with_reducible refine w_p6 ?_
  | with_reducible refine w_p9 ?_
  | with_reducible refine w_p12 ?_
  | with_reducible refine w_p15 ?_
  | with_reducible refine w_p24 ?_
  | with_reducible refine w_slice ?_
  | with_reducible refine w_part ?_
  | with_reducible refine w_nopart ?_
  | with_reducible refine w_ei ?_
  | with_reducible refine w_for ?_
  | with_reducible refine w_rng1 ?_
  | with_reducible refine w_rng2 ?_
  | with_reducible refine w_iseq ?_
  | ((with_reducible refine w_I ?c ?q); (case c => walk_at "side"))
  | ((with_reducible refine w_len ?xs ?h ?q); (case h => walk_at "tr"))
  | with_reducible refine w_cb ?_
  | with_reducible refine w_cons ?_
  | with_reducible refine w_nil ?_
  | with_reducible refine w_test ?_
  | with_reducible refine w_B ?_
  | with_reducible refine w_bl ?_
  | with_reducible refine w_and ?_
  | with_reducible refine w_or ?_
  | with_reducible refine w_not ?_
  | with_reducible refine w_andV ?_
  | with_reducible refine w_orV ?_
  | with_reducible refine w_notV ?_
  | with_reducible refine w_ifE ?_
  | with_reducible refine w_call ?_
  | with_reducible refine w_bm ?_
  | ((with_reducible refine w_tyl ?xs ?h ?q); (case h => assumption))
  | with_reducible refine w_bm0 ?_
  | with_reducible refine w_bits ?_
  | with_reducible refine w_tup ?_
  | with_reducible refine w_lst ?_
  | with_reducible refine w_I0 ?_
  | with_reducible refine w_U ?_
  | with_reducible refine w_add ?_
  | with_reducible refine w_eqI ?_
  | with_reducible refine w_neI ?_
  | with_reducible refine w_eqS ?_
  | with_reducible refine w_neS ?_
  | with_reducible refine w_int ?_
  | with_reducible refine w_abs ?_
  | with_reducible refine w_gcd ?_)
local macro_rules | `(tactic| walk_at "w") => `(tactic| repeat (walk_at "w1"))
local macro_rules | `(tactic| walk_at "w0") => `(tactic| simp only [cxOf_K, L2.start, List.map_cons, List.map_nil, List.length_cons, List.length_nil, Nat.reduceAdd, Nat.reduceSub, List.replicate_succ, List.replicate_zero, List.cons_append, List.nil_append])
local macro_rules | `(tactic| walk_at "side") => `(tactic| first | assumption | (exact small_div (by omega) (by omega)) | (exact small_mul (by omega) (by omega)) | (exact med_mul (by omega) (by omega)) | (exact big_mul (by omega) (by omega)) | (exact ⟨by decide, by decide, by decide⟩) | (show (0 : Int) < _; omega))
local macro_rules | `(tactic| walk_at "ch") => `(tactic| first
  | with_reducible assumption
  | with_reducible exact Same.refl _
  | ((with_reducible refine tr_at ?H ?e ?h); (case e => with_reducible assumption); (case h => walk_at "ch"))
  | ((with_reducible refine tr_st ?H ?e ?h); (case e => with_reducible assumption); (case h => walk_at "ch"))
  | ((with_reducible refine tr_sl ?H ?e ?h); (case e => with_reducible assumption); (case h => walk_at "ch"))
  | ((with_reducible refine tr_same ?H ?e ?h); (case e => with_reducible assumption); (case h => walk_at "ch"))
  | ((with_reducible refine tr_sq ?H ?e ?h); (case e => with_reducible assumption); (case h => walk_at "ch"))
  | ((with_reducible refine tr_dp ?H ?e ?h); (case e => with_reducible assumption); (case h => walk_at "ch"))
  | walk_at "tr2")
local macro_rules | `(tactic| walk_at "tr") => `(tactic| first
  | walk_at "ch"
  | ((with_reducible refine tr_eq ?u ?h ?e); (case h => walk_at "ch"); (case e => rfl))
  | ((with_reducible refine tr_eqt ?u ?h ?e); (case h => walk_at "ch"); (case e => rfl))
  | ((with_reducible refine tr_eql ?u ?h ?e); (case h => walk_at "ch"); (case e => rfl))
  | ((with_reducible refine SqT.of ?_); first | walk_at "ch" | ((with_reducible refine tr_eq ?u ?h ?e); (case h => walk_at "ch"); (case e => rfl)))
  | ((with_reducible refine SqL.of ?_); first | walk_at "ch" | ((with_reducible refine tr_eq ?u ?h ?e); (case h => walk_at "ch"); (case e => rfl)))
  | ((with_reducible refine sq_l ?_); walk_at "tr")
  | ((with_reducible refine sq_t ?_); walk_at "tr"))
local macro_rules | `(tactic| walk_at "tr2") => `(tactic| fail)
local macro_rules | `(tactic| walk_at "sz") => `(tactic| (simp only [List.length_cons, List.length_nil, List.length_append, List.length_map]; decide))
local macro_rules | `(tactic| walk_at "g") => `(tactic| repeat (first
  | (with_reducible refine g_cons ?_)
  | (with_reducible refine g_nil ?_)
  | (with_reducible refine w_name ?_)))
def sp_over (K : PySem.W.Frag) : Sp := fun vs H Q E => ∃ v u t b t' b', vs = [v, u] ∧ FV K H v t b ∧ FV K H u t' b' ∧ b ≠ 0 ∧ b' ≠ 0 ∧ Sm 4000 t ∧ Sm 4000 b ∧ Sm 4000 t' ∧ Sm 4000 b' ∧
  (t' = 0 → ∀ H2, Same H H2 → E (.ref (He.ga K "NoQuotient")) none H2) ∧ (t' ≠ 0 → ∀ p H2, Same H H2 → H2 p = some (tup2 (nrm (t * b') (b * t'))) → Q (.ref p) H2)
theorem sc_over : FnScope ["one", "two", "top", "bottom", "other_top", "other_bottom"] ["one", "two"] (defScope (top 39)) := ⟨rfl, rfl, rfl, by decide +kernel, rfl, by decide +kernel, by decide +kernel⟩
theorem d_over {P : Program} {w : World} {K : PySem.W.Frag} {mg : Str → Option Value} {base : Heap} (T : Tx K mg) : Def P w K mg base "over" 2 ["one", "two"] (sp_over K) := by
  refine Def.of T.at_over sc_over (fun _ _ _ _ _ _ us hl => match us, hl with | [_, _], _ => rfl) (fun vs H Q E h => by (obtain ⟨_, _, _, _, _, _, rfl, _⟩ := h; rfl)) (fun f cdv A outer s H vs Q E hr h => ?_)
  refine ⟨_, (pss_cons (ps_asg (pe_def (d_parts_of T) (hr.mono (by decide)) (by rfl) (pa_cons (pv 0) pa_nil)) (pg_seq rfl (pgs_cons (pg_name (i := 2) sc_over.nd rfl (Or.inl rfl)) (pgs_cons (pg_name (i := 3) sc_over.nd rfl (Or.inl rfl)) pgs_nil))))
      (pss_cons (ps_asg (pe_def (d_parts_of T) (hr.mono (by decide)) (by rfl) (pa_cons (pv 1) pa_nil)) (pg_seq rfl (pgs_cons (pg_name (i := 4) sc_over.nd rfl (Or.inl rfl)) (pgs_cons (pg_name (i := 5) sc_over.nd rfl (Or.inl rfl)) pgs_nil))))
      (pss_cons (ps_if (pt_cmpR (op_eqA hr.units) (pv 4) pe_int (nomark _)) (pss_one (L2N.ps_raise rfl (L2N.takes_of rfl rfl rfl rfl) (pmk_own0 PySem.F.excBase_ValueError T.x_NoQuotient.1 T.g_NoQuotient T.x_NoQuotient.2.1 (raises_own T.x_NoQuotient.2.2.1 T.x_NoQuotient.2.2.2) (by rfl)))) pss_nil)
      (pss_one (ps_ret (pe_def (d_ratio T) (hr.mono (by decide)) (by rfl) (pa_cons (pe_op op_mulW (pv 2) (pv 5)) (pa_cons (pe_op op_mulW (pv 3) (pv 4)) pa_nil)))))))), ?_⟩
  obtain ⟨v, u, t, b, t', b', rfl, hv, hu, hb, hb', z1, z2, z3, z4, qe, q⟩ := h
  walk_at "w0"
  walk_at "w"
  refine ⟨v, t, b, rfl, hv, fun p H2 n1 s1 e1 => ?_⟩
  refine ⟨_, _, rfl, .inr (SqT.of e1), rfl, ?_⟩
  walk_at "g"
  walk_at "w"
  refine ⟨u, t', b', rfl, Same.fv s1 hu, fun p2 H3 n2 s2 e2 => ?_⟩
  refine ⟨_, _, rfl, .inr (SqT.of e2), rfl, ?_⟩
  walk_at "g"
  have m1 : CMulW t b' := Sm.mulOk z1 z4 (by decide)
  have m3 : CMulW b t' := Sm.mulOk z2 z3 (by decide)
  walk_at "w"
  refine iteD (fun h => ?_) (fun h => ?_)
  · exact qe h H3 (s1.trans s2)
  · walk_at "w"
    exact ⟨_, _, rfl, Int.mul_ne_zero hb h, Sm.mono (Sm.mul z2 z3) (by decide), fun p H4 n3 s3 e3 => q h p H4 ((s1.trans s2).trans s3) e3⟩
/-! the error is caught and asked -/
def sp_another (a : Addr) : Sp := fun vs H Q _ => vs = [.ref a] ∧ ∀ H2, Same H H2 → Q (.bl false) H2
theorem sc__law_another : FnScope ["e"] ["e"] (defScope (top 51)) := ⟨rfl, rfl, rfl, by decide +kernel, rfl, by decide +kernel, by decide +kernel⟩
theorem d__law_another {P : Program} {w : World} {K : PySem.W.Frag} {mg : Str → Option Value} {base : Heap} (T : Tx K mg) : DefZ P w K mg base "_law_another" 1 ["e"] (He.ga K "NoQuotient") sp_another := by
  refine DefZ.of T.at__law_another sc__law_another (fun _ _ _ _ _ _ us hl => match us, hl with | [_], _ => rfl) (fun a vs H Q E h => by (obtain ⟨rfl, _⟩ := h; rfl)) (fun f cdv A outer s H vs Q E p hot hz hr h => ?_)
  obtain ⟨hh, vs0, hv0, _⟩ := id hot
  refine ⟨_, (pss_one (ps_ret (pe_callB (call_isET T.xc_NoQuotient (oe := p.2) (List.mem_singleton.mpr rfl) hz ⟨vs0, hv0⟩) (by rfl) T.n_isinstance (by decide +kernel) (pa_cons (pv 0) (pa_cons (pe_tupA (pa_cons (pe_glob (v := .ref (He.ga K "BadName")) (by rfl) T.g_BadName rfl) (pa_cons (pe_glob (v := .ref (He.ga K "BadNotation")) (by rfl) T.g_BadNotation rfl) (pa_cons (pe_glob (v := .ref (He.ga K "BadParts")) (by rfl) T.g_BadParts rfl) (pa_cons (pe_glob (v := .ref (He.ga K "BadStretch")) (by rfl) T.g_BadStretch rfl) (pa_cons (pe_glob (v := .ref (He.ga K "Barred")) (by rfl) T.g_Barred rfl) (pa_cons (pe_glob (v := .ref (He.ga K "BreaksOwnRule")) (by rfl) T.g_BreaksOwnRule rfl) (pa_cons (pe_glob (v := .ref (He.ga K "Broken")) (by rfl) T.g_Broken rfl) (pa_cons (pe_glob (v := .ref (He.ga K "CannotStand")) (by rfl) T.g_CannotStand rfl) (pa_cons (pe_glob (v := .ref (He.ga K "Contradiction")) (by rfl) T.g_Contradiction rfl) (pa_cons (pe_glob (v := .ref (He.ga K "NoFamilies")) (by rfl) T.g_NoFamilies rfl) (pa_cons (pe_glob (v := .ref (He.ga K "NoRows")) (by rfl) T.g_NoRows rfl) (pa_cons (pe_glob (v := .ref (He.ga K "NotBlocked")) (by rfl) T.g_NotBlocked rfl) (pa_cons (pe_glob (v := .ref (He.ga K "NotCourse")) (by rfl) T.g_NotCourse rfl) (pa_cons (pe_glob (v := .ref (He.ga K "NotEntered")) (by rfl) T.g_NotEntered rfl) (pa_cons (pe_glob (v := .ref (He.ga K "NotFinite")) (by rfl) T.g_NotFinite rfl) (pa_cons (pe_glob (v := .ref (He.ga K "NotFree")) (by rfl) T.g_NotFree rfl) (pa_cons (pe_glob (v := .ref (He.ga K "NotLet")) (by rfl) T.g_NotLet rfl) (pa_cons (pe_glob (v := .ref (He.ga K "NotStricter")) (by rfl) T.g_NotStricter rfl) (pa_cons (pe_glob (v := .ref (He.ga K "NotTimely")) (by rfl) T.g_NotTimely rfl) (pa_cons (pe_glob (v := .ref (He.ga K "NothingToUndo")) (by rfl) T.g_NothingToUndo rfl) (pa_cons (pe_glob (v := .ref (He.ga K "RowTwice")) (by rfl) T.g_RowTwice rfl) (pa_cons (pe_glob (v := .ref (He.ga K "RowsDiffer")) (by rfl) T.g_RowsDiffer rfl) (pa_cons (pe_glob (v := .ref (He.ga K "ShortStretch")) (by rfl) T.g_ShortStretch rfl) (pa_cons (pe_glob (v := .ref (He.ga K "SpotTwice")) (by rfl) T.g_SpotTwice rfl) (pa_cons (pe_glob (v := .ref (He.ga K "TooLong")) (by rfl) T.g_TooLong rfl) (pa_cons (pe_glob (v := .ref (He.ga K "UnknownRow")) (by rfl) T.g_UnknownRow rfl) (pa_cons (pe_glob (v := .ref (He.ga K "Unsure")) (by rfl) T.g_Unsure rfl) (pa_cons (pe_glob (v := .ref (He.ga K "ZeroPolynomial")) (by rfl) T.g_ZeroPolynomial rfl) (pa_cons (pe_glob (v := .ref (He.ga K "ZeroSum")) (by rfl) T.g_ZeroSum rfl) pa_nil)))))))))))))))))))))))))))))) pa_nil))))), ?_⟩
  obtain ⟨rfl, q⟩ := h
  walk_at "w0"
  walk_at "w"
  refine ⟨by walk_at "sz", fun tp H2 n2 s2 e2 => ?_⟩
  refine ⟨tp, _, _, false, rfl, e2, ?_, T.ka_other, q H2 s2⟩
  repeat' first | exact .nil | refine .cons (.own _) ?_
/-- the reading of the first suite: two classes that it has, those that it has not; seen is slot n, e slot m -/
def t_suite1 (K : PySem.W.Frag) (D B : Addr) (spZ : Addr → Sp) (n m : Nat) (a : Addr) (cls : Value) (d : Option Addr) : TS :=
  tIfS (tAnd (tB (tCB (rIsX K cls d a) (tCons (tVar m) (tCons (tC (.ref B)) tNil)))) (tAnd (tB (tCB (rIsX K cls d a) (tCons (tVar m) (tCons (tC (.ty "ValueError")) tNil)))) (tNot (tB (tCallZ D cls d (spZ a) (tCons (tVar m) tNil))))))
    (tAsg (tOp (rAddA K) (tVar n) (tC (.int 1))) (gName n)) tNext
def t_suite2 (K : PySem.W.Frag) (D : Addr) (n m : Nat) (a : Addr) (cls : Value) (d : Option Addr) : TS :=
  tIfS (tB (tCB (rIsX K cls d a) (tCons (tVar m) (tCons (tC (.ref D)) tNil)))) (tAsg (tOp (rAddA K) (tVar n) (tC (.int 1))) (gName n)) tNext
def sp_refused (K : PySem.W.Frag) : Sp := fun vs H Q _ => ∃ v u t b b', vs = [v, u] ∧ FV K H v t b ∧ FV K H u 0 b' ∧ b ≠ 0 ∧ b' ≠ 0 ∧ Sm 4000 t ∧ Sm 4000 b ∧ Sm 4000 b' ∧ ∀ H2, Same H H2 → Q (.bl true) H2
theorem sc__law_refused : FnScope ["one", "two", "seen", "e"] ["one", "two"] (defScope (top 52)) := ⟨rfl, rfl, rfl, by decide +kernel, rfl, by decide +kernel, by decide +kernel⟩
theorem d__law_refused {P : Program} {w : World} {K : PySem.W.Frag} {mg : Str → Option Value} {base : Heap} (T : Tx K mg) : Def P w K mg base "_law_refused" 3 ["one", "two"] (sp_refused K) := by
  refine Def.of T.at__law_refused sc__law_refused (fun _ _ _ _ _ _ us hl => match us, hl with | [_, _], _ => rfl) (fun vs H Q E h => by (obtain ⟨_, _, _, _, _, rfl, _⟩ := h; rfl)) (fun f cdv A outer s H vs Q E hr h => ?_)
  refine ⟨_, PSs.nox (pss_cons (ps_set (i := 2) sc__law_refused.nd rfl (Or.inl rfl) pe_int)
      (pss_cons (L2N.ps_try_as (i := 3) (Wout := fun _ _ _ _ => False) (tb := fun W => tDrop (tCallS (sp_over K) (WE W) (tCons (tVar 0) (tCons (tVar 1) tNil)))) (ts := t_suite1 K (He.ga K "NoQuotient") (He.ga K "RowError") sp_another 2 3) rfl rfl sc__law_refused.nd rfl rfl ⟨by rfl, by decide, .inl T.g_NoQuotient⟩ takesN0 (fun W pn xe tk _ => (by exact (pss_one (ps_expr (pe_defS (d_over T) (hr.mono (by decide)) (by rfl) tk (pa_cons (pv 0) (pa_cons (pv 1) pa_nil))))))) (fun a oe cls d pn hz hf => (by exact (pss_one (ps_if (PW.pt (pw_and (pt_val (pe_callB (call_isX List.mem_cons_self hz.zc hf) (by rfl) T.n_isinstance (by decide +kernel) (pa_cons (pv 3) (pa_cons (pe_glob (v := .ref (He.ga K "RowError")) (by rfl) T.g_RowError rfl) pa_nil)))) (pw_and (pt_val (pe_callB (call_isX List.mem_cons_self hz.zc hf) (by rfl) T.n_isinstance (by decide +kernel) (pa_cons (pv 3) (pa_cons (pe_bltn (v := .ty "ValueError") (u := .type "ValueError") (by rfl) T.n_ValueError (by decide +kernel) rfl) pa_nil)))) (pw_and1 (pt_not (pt_val (pe_defZ (d__law_another T) (room_suite (hr.mono (by decide))) List.mem_cons_self (hot_suite hz hf) hz.zc (by rfl) (pa_cons (pv 3) pa_nil)))))))) (pss_one (ps_set (i := 2) sc__law_refused.nd rfl (Or.inl rfl) (pe_op op_addA (pv 2) pe_int))) pss_nil)))))
      (pss_cons (L2N.ps_try_as (i := 3) (Wout := fun _ _ _ _ => False) (tb := fun W => tDrop (tCallS (sp_over K) (WE W) (tCons (tVar 0) (tCons (tVar 1) tNil)))) (ts := t_suite2 K (He.ga K "NoQuotient") 2 3) rfl rfl sc__law_refused.nd rfl rfl ⟨by rfl, by decide, .inl T.g_RowError⟩ takesN0 (fun W pn xe tk _ => (by exact (pss_one (ps_expr (pe_defS (d_over T) (hr.mono (by decide)) (by rfl) tk (pa_cons (pv 0) (pa_cons (pv 1) pa_nil))))))) (fun a oe cls d pn hz hf => (by exact (pss_one (ps_if (pt_val (pe_callB (call_isX List.mem_cons_self hz.zc hf) (by rfl) T.n_isinstance (by decide +kernel) (pa_cons (pv 3) (pa_cons (pe_glob (v := .ref (He.ga K "NoQuotient")) (by rfl) T.g_NoQuotient rfl) pa_nil)))) (pss_one (ps_set (i := 2) sc__law_refused.nd rfl (Or.inl rfl) (pe_op op_addA (pv 2) pe_int))) pss_nil)))))
      (pss_one (ps_ret (pe_cmpR (op_eqA hr.units) (pv 2) pe_int (nomark _))))))), ?_⟩
  obtain ⟨v, u, t, b, b', rfl, hv, hu, hb, hb', z1, z2, z4, q⟩ := h
  have z3 : Sm 4000 (0 : Int) := (Nat.pow_pos (by decide) : 0 < 2 ^ 4000)
  walk_at "w0"
  walk_at "w"
  refine w_callS ?_
  walk_at "w"
  refine ⟨v, u, t, b, 0, b', rfl, hv, hu, hb, hb', z1, z2, z3, z4, fun _ H2 s2 => ?_, fun z => absurd rfl z⟩
  refine ⟨true, T.em_self, fun _ a na => ?_, fun z => Bool.noConfusion z⟩
  unfold t_suite1
  walk_at "w"
  refine ⟨_, rfl, rfl, T.xc_NoQuotient, .inl ⟨_, _, true, rfl, fun u h => h, T.ko_RowError, ?_⟩⟩
  walk_at "w"
  refine iteT ?_
  walk_at "w"
  refine ⟨_, rfl, rfl, T.xc_NoQuotient, .inl ⟨_, _, true, rfl, fun u h => h, T.ko_ValueError, ?_⟩⟩
  walk_at "w"
  refine iteT ?_
  walk_at "w"
  refine w_callZ ?_
  walk_at "w"
  refine ⟨rfl, rfl, rfl, fun H3 s3 => ?_⟩
  walk_at "w"
  refine iteT ?_
  walk_at "w"
  refine w_callS ?_
  walk_at "w"
  have s0 : Same H H3 := s2.trans s3
  refine ⟨v, u, t, b, 0, b', rfl, Same.fv s0 hv, Same.fv s0 hu, hb, hb', z1, z2, z3, z4, fun _ H4 s4 => ?_, fun z => absurd rfl z⟩
  refine ⟨true, T.em_RowError, fun _ a na => ?_, fun z => Bool.noConfusion z⟩
  unfold t_suite2
  walk_at "w"
  refine ⟨_, rfl, rfl, T.xc_NoQuotient, .inl ⟨_, _, true, rfl, fun u h => h, T.ko_self, ?_⟩⟩
  walk_at "w"
  refine iteT ?_
  walk_at "w"
  exact q H4 (s0.trans s4)
theorem Val.le {t b : Int} {m : Int × Int} (v : Val t b m) : m.1.natAbs ≤ t.natAbs ∧ m.2.natAbs ≤ b.natAbs := by
  have h := nrm_le (t := t) v.nb
  rw [v.is] at h
  exact h
def sp_right (K : PySem.W.Frag) : Sp := fun vs H Q _ => ∃ v u t b t' b' pm po m o, vs = [v, u, .ref pm, .ref po] ∧ FV K H v t b ∧ FV K H u t' b' ∧ Val t b m ∧ Val t' b' o ∧ SqT K H pm [.int m.1, .int m.2] ∧ SqT K H po [.int o.1, .int o.2] ∧
  Sm 4000 t ∧ Sm 4000 b ∧ Sm 4000 t' ∧ Sm 4000 b' ∧ ∀ H2, Same H H2 → Q (.bl true) H2
theorem sc__law_right : FnScope ["one", "two", "mine", "other"] ["one", "two", "mine", "other"] (defScope (top 53)) := ⟨rfl, rfl, rfl, by decide +kernel, rfl, by decide +kernel, by decide +kernel⟩
theorem d__law_right {P : Program} {w : World} {K : PySem.W.Frag} {mg : Str → Option Value} {base : Heap} (T : Tx K mg) : Def P w K mg base "_law_right" 4 ["one", "two", "mine", "other"] (sp_right K) := by
  refine Def.of T.at__law_right sc__law_right (fun _ _ _ _ _ _ us hl => match us, hl with | [_, _, _, _], _ => rfl) (fun vs H Q E h => by (obtain ⟨_, _, _, _, _, _, _, _, _, _, rfl, _⟩ := h; rfl)) (fun f cdv A outer s H vs Q E hr h => ?_)
  refine ⟨_, PSs.nox (pss_cons (ps_if (pt_not (pt_val (pe_def (d__law_is T) (hr.mono (by decide)) (by rfl) (pa_cons (pe_def (d_plus T) (hr.mono (by decide)) (by rfl) (pa_cons (pv 0) (pa_cons (pv 1) pa_nil))) (pa_cons (pe_def (d__law_frac T) (hr.mono (by decide)) (by rfl) (pa_cons (pe_op op_addA (pe_op op_mulW (pe_ix ix_seq (pv 2) pe_int (fun _ _ => rfl)) (pe_ix ix_seq (pv 3) pe_int (fun _ _ => rfl))) (pe_op op_mulW (pe_ix ix_seq (pv 3) pe_int (fun _ _ => rfl)) (pe_ix ix_seq (pv 2) pe_int (fun _ _ => rfl)))) (pa_cons (pe_op op_mulW (pe_ix ix_seq (pv 2) pe_int (fun _ _ => rfl)) (pe_ix ix_seq (pv 3) pe_int (fun _ _ => rfl))) pa_nil))) pa_nil))))) (pss_one (ps_ret pe_bl)) pss_nil)
      (pss_cons (ps_if (pt_not (pt_val (pe_def (d__law_is T) (hr.mono (by decide)) (by rfl) (pa_cons (pe_def (d_times T) (hr.mono (by decide)) (by rfl) (pa_cons (pv 0) (pa_cons (pv 1) pa_nil))) (pa_cons (pe_def (d__law_frac T) (hr.mono (by decide)) (by rfl) (pa_cons (pe_op op_mulW (pe_ix ix_seq (pv 2) pe_int (fun _ _ => rfl)) (pe_ix ix_seq (pv 3) pe_int (fun _ _ => rfl))) (pa_cons (pe_op op_mulW (pe_ix ix_seq (pv 2) pe_int (fun _ _ => rfl)) (pe_ix ix_seq (pv 3) pe_int (fun _ _ => rfl))) pa_nil))) pa_nil))))) (pss_one (ps_ret pe_bl)) pss_nil)
      (pss_cons (ps_if (pt_cmpR (op_eqA hr.units) (pe_ix ix_seq (pv 3) pe_int (fun _ _ => rfl)) pe_int (nomark _)) (pss_one (ps_ret (pe_def (d__law_refused T) (hr.mono (by decide)) (by rfl) (pa_cons (pv 0) (pa_cons (pv 1) pa_nil))))) pss_nil)
      (pss_one (ps_ret (pe_def (d__law_is T) (hr.mono (by decide)) (by rfl) (pa_cons (pe_def (d_over T) (hr.mono (by decide)) (by rfl) (pa_cons (pv 0) (pa_cons (pv 1) pa_nil))) (pa_cons (pe_def (d__law_frac T) (hr.mono (by decide)) (by rfl) (pa_cons (pe_op op_mulW (pe_ix ix_seq (pv 2) pe_int (fun _ _ => rfl)) (pe_ix ix_seq (pv 3) pe_int (fun _ _ => rfl))) (pa_cons (pe_op op_mulW (pe_ix ix_seq (pv 2) pe_int (fun _ _ => rfl)) (pe_ix ix_seq (pv 3) pe_int (fun _ _ => rfl))) pa_nil))) pa_nil)))))))), ?_⟩
  obtain ⟨v, u, t, b, t', b', pm, po, m, o, rfl, hv, hu, vm, vo, hm, ho, z1, z2, z3, z4, q⟩ := h
  have y1 : Sm 4000 m.1 := Sm.le z1 vm.le.1
  have y2 : Sm 4000 m.2 := Sm.le z2 vm.le.2
  have y3 : Sm 4000 o.1 := Sm.le z3 vo.le.1
  have y4 : Sm 4000 o.2 := Sm.le z4 vo.le.2
  have p2 := vm.pos
  have p4 := vo.pos
  have gm : Sq K H pm [.int m.1, .int m.2] := .inr hm
  have go : Sq K H po [.int o.1, .int o.2] := .inr ho
  have c1 : CMulW m.1 o.2 := Sm.mulOk y1 y4 (by decide)
  have c2 : CMulW o.1 m.2 := Sm.mulOk y3 y2 (by decide)
  have c3 : CMulW m.2 o.2 := Sm.mulOk y2 y4 (by decide)
  have c4 : CMulW m.1 o.1 := Sm.mulOk y1 y3 (by decide)
  have c5 : CMulW m.2 o.1 := Sm.mulOk y2 y3 (by decide)
  have n1 : m.2 * o.2 ≠ 0 := Int.mul_ne_zero (by omega) (by omega)
  walk_at "w0"
  walk_at "w"
  refine ⟨v, u, t, b, t', b', rfl, hv, hu, vm.nb, vo.nb, z1, z2, z3, z4, fun p H1 s1 l1 => ?_⟩
  walk_at "w"
  refine w_ix (Same.sq s1 gm) (i := 0) rfl ?_
  walk_at "w"
  refine w_ix (Same.sq s1 go) (i := 1) rfl ?_
  walk_at "w"
  refine w_ix (Same.sq s1 go) (i := 0) rfl ?_
  walk_at "w"
  refine w_ix (Same.sq s1 gm) (i := 1) rfl ?_
  walk_at "w"
  refine w_ix (Same.sq s1 gm) (i := 1) rfl ?_
  walk_at "w"
  refine w_ix (Same.sq s1 go) (i := 1) rfl ?_
  walk_at "w"
  refine ⟨_, _, rfl, n1, Sm.mono (Sm.mul y2 y4) (by decide), fun p2 H2 _ s2 l2 => ?_⟩
  rw [nrm_plus vm vo] at l1
  refine ⟨p, p2, _, _, rfl, Same.st s2 (SqT.of l1), SqT.of l2, ?_⟩
  walk_at "w"
  refine iteF ?_
  walk_at "w"
  have s12 := s1.trans s2
  refine ⟨v, u, t, b, t', b', rfl, Same.fv s12 hv, Same.fv s12 hu, vm.nb, vo.nb, z1, z2, z3, z4, fun p H3 s3 l3 => ?_⟩
  have s13 := s12.trans s3
  walk_at "w"
  refine w_ix (Same.sq s13 gm) (i := 0) rfl ?_
  walk_at "w"
  refine w_ix (Same.sq s13 go) (i := 0) rfl ?_
  walk_at "w"
  refine w_ix (Same.sq s13 gm) (i := 1) rfl ?_
  walk_at "w"
  refine w_ix (Same.sq s13 go) (i := 1) rfl ?_
  walk_at "w"
  refine ⟨_, _, rfl, n1, Sm.mono (Sm.mul y2 y4) (by decide), fun p2 H4 _ s4 l4 => ?_⟩
  rw [nrm_times vm vo] at l3
  refine ⟨p, p2, _, _, rfl, Same.st s4 (SqT.of l3), SqT.of l4, ?_⟩
  walk_at "w"
  refine iteF ?_
  have s14 := s13.trans s4
  walk_at "w"
  refine w_ix (Same.sq s14 go) (i := 0) rfl ?_
  walk_at "w"
  refine iteD (fun h => ?_) (fun h => ?_)
  · walk_at "w"
    have ht : t' = 0 := vo.zero.mpr h
    subst ht
    exact ⟨v, u, t, b, b', rfl, Same.fv s14 hv, Same.fv s14 hu, vm.nb, vo.nb, z1, z2, z4, fun H5 s5 => q H5 (s14.trans s5)⟩
  · walk_at "w"
    have ht : t' ≠ 0 := fun z => h (vo.zero.mp z)
    refine ⟨v, u, t, b, t', b', rfl, Same.fv s14 hv, Same.fv s14 hu, vm.nb, vo.nb, z1, z2, z3, z4, fun z => absurd z ht, fun _ p H5 s5 l5 => ?_⟩
    have s15 := s14.trans s5
    walk_at "w"
    refine w_ix (Same.sq s15 gm) (i := 0) rfl ?_
    walk_at "w"
    refine w_ix (Same.sq s15 go) (i := 1) rfl ?_
    walk_at "w"
    refine w_ix (Same.sq s15 gm) (i := 1) rfl ?_
    walk_at "w"
    refine w_ix (Same.sq s15 go) (i := 0) rfl ?_
    walk_at "w"
    refine ⟨_, _, rfl, Int.mul_ne_zero (by omega) h, Sm.mono (Sm.mul y2 y3) (by decide), fun p2 H6 _ s6 l6 => ?_⟩
    rw [nrm_over vm vo h] at l5
    exact ⟨p, p2, _, _, rfl, Same.st s6 (SqT.of l5), SqT.of l6, q H6 (s15.trans s6)⟩
end JP
set_option Elab.async false
set_option linter.all false
set_option maxRecDepth 100000
set_option maxHeartbeats 8000000
namespace JP
open PySem PySem.Spec PyProof.Rows L2 L2H
local macro_rules | `(tactic| walk_at "w1") => `(tactic| first
  | with_reducible refine w_seq ?_
  | with_reducible refine w_asg ?_
  | with_reducible refine w_name ?_
  | with_reducible refine w_op ?_
  | ((with_reducible refine w_var ?v ?h ?q); (case h => exact rfl))
  | with_reducible refine w_c ?_
  | with_reducible refine w_ret ?_
  | with_reducible refine w_if ?_
  | with_reducible refine w_drop ?_
  | with_reducible refine w_next ?_
  | with_reducible refine w_un ?_
  | with_reducible refine w_p18 ?_
  | with_reducible refine w_p30 ?_
  | with_reducible refine w_p6 ?_
  | with_reducible refine w_p9 ?_
  | with_reducible refine w_p12 ?_
  | with_reducible refine w_p15 ?_
  | with_reducible refine w_p24 ?_
  | with_reducible refine w_slice ?_
  | with_reducible refine w_part ?_
  | with_reducible refine w_nopart ?_
  | with_reducible refine w_ei ?_
  | with_reducible refine w_for ?_
  | with_reducible refine w_rng1 ?_
  | with_reducible refine w_rng2 ?_
  | with_reducible refine w_iseq ?_
  | ((with_reducible refine w_I ?c ?q); (case c => walk_at "side"))
  | ((with_reducible refine w_len ?xs ?h ?q); (case h => walk_at "tr"))
  | with_reducible refine w_cb ?_
  | with_reducible refine w_cons ?_
  | with_reducible refine w_nil ?_
  | with_reducible refine w_test ?_
  | with_reducible refine w_B ?_
  | with_reducible refine w_bl ?_
  | with_reducible refine w_and ?_
  | with_reducible refine w_or ?_
  | with_reducible refine w_not ?_
  | with_reducible refine w_andV ?_
  | with_reducible refine w_orV ?_
  | with_reducible refine w_notV ?_
  | with_reducible refine w_ifE ?_
  | with_reducible refine w_call ?_
  | with_reducible refine w_bm ?_
  | ((with_reducible refine w_tyl ?xs ?h ?q); (case h => assumption))
  | with_reducible refine w_bm0 ?_
  | with_reducible refine w_bits ?_
  | with_reducible refine w_tup ?_
  | with_reducible refine w_lst ?_
  | with_reducible refine w_I0 ?_
  | with_reducible refine w_U ?_
  | with_reducible refine w_add ?_
  | with_reducible refine w_eqI ?_
  | with_reducible refine w_neI ?_
  | with_reducible refine w_eqS ?_
  | with_reducible refine w_neS ?_
  | with_reducible refine w_int ?_
  | with_reducible refine w_abs ?_
  | with_reducible refine w_gcd ?_)
local macro_rules | `(tactic| walk_at "w") => `(tactic| repeat (walk_at "w1"))
local macro_rules | `(tactic| walk_at "w0") => `(tactic| simp only [cxOf_K, L2.start, List.map_cons, List.map_nil, List.length_cons, List.length_nil, Nat.reduceAdd, Nat.reduceSub, List.replicate_succ, List.replicate_zero, List.cons_append, List.nil_append])
local macro_rules | `(tactic| walk_at "side") => `(tactic| first | assumption | (exact small_div (by omega) (by omega)) | (exact small_mul (by omega) (by omega)) | (exact med_mul (by omega) (by omega)) | (exact big_mul (by omega) (by omega)) | (exact ⟨by decide, by decide, by decide⟩) | (show (0 : Int) < _; omega))
local macro_rules | `(tactic| walk_at "ch") => `(tactic| first
  | with_reducible assumption
  | with_reducible exact Same.refl _
  | ((with_reducible refine tr_at ?H ?e ?h); (case e => with_reducible assumption); (case h => walk_at "ch"))
  | ((with_reducible refine tr_st ?H ?e ?h); (case e => with_reducible assumption); (case h => walk_at "ch"))
  | ((with_reducible refine tr_sl ?H ?e ?h); (case e => with_reducible assumption); (case h => walk_at "ch"))
  | ((with_reducible refine tr_same ?H ?e ?h); (case e => with_reducible assumption); (case h => walk_at "ch"))
  | ((with_reducible refine tr_sq ?H ?e ?h); (case e => with_reducible assumption); (case h => walk_at "ch"))
  | ((with_reducible refine tr_dp ?H ?e ?h); (case e => with_reducible assumption); (case h => walk_at "ch"))
  | walk_at "tr2")
local macro_rules | `(tactic| walk_at "tr") => `(tactic| first
  | walk_at "ch"
  | ((with_reducible refine tr_eq ?u ?h ?e); (case h => walk_at "ch"); (case e => rfl))
  | ((with_reducible refine tr_eqt ?u ?h ?e); (case h => walk_at "ch"); (case e => rfl))
  | ((with_reducible refine tr_eql ?u ?h ?e); (case h => walk_at "ch"); (case e => rfl))
  | ((with_reducible refine SqT.of ?_); first | walk_at "ch" | ((with_reducible refine tr_eq ?u ?h ?e); (case h => walk_at "ch"); (case e => rfl)))
  | ((with_reducible refine SqL.of ?_); first | walk_at "ch" | ((with_reducible refine tr_eq ?u ?h ?e); (case h => walk_at "ch"); (case e => rfl)))
  | ((with_reducible refine sq_l ?_); walk_at "tr")
  | ((with_reducible refine sq_t ?_); walk_at "tr"))
local macro_rules | `(tactic| walk_at "tr2") => `(tactic| fail)
local macro_rules | `(tactic| walk_at "sz") => `(tactic| (simp only [List.length_cons, List.length_nil, List.length_append, List.length_map]; decide))
local macro_rules | `(tactic| walk_at "g") => `(tactic| repeat (first
  | (with_reducible refine g_cons ?_)
  | (with_reducible refine g_nil ?_)
  | (with_reducible refine w_name ?_)))
theorem Sm.plus {n : Nat} {a b c d : Int} (h1 : Sm n a) (h2 : Sm 100 b) (h3 : Sm 100 c) (h4 : Sm n d) : Sm (n + 101) (a * b + c * d) := Sm.add (Sm.mul h1 h2) (Sm.mono (Sm.mul h3 h4) (by omega))
def sp_next (K : PySem.W.Frag) : Sp := fun vs H Q _ => ∃ op pt v pd pm t b d m n, vs = [.int op, .ref pt, v, .ref pd, .ref pm] ∧ SqT K H pt [.int d.1, .int d.2] ∧ FV K H v t b ∧ Val t b m ∧ SqT K H pd [.int d.1, .int d.2] ∧ SqT K H pm [.int m.1, .int m.2] ∧ Val d.1 d.2 d ∧
  Sm 100 t ∧ Sm 100 b ∧ Sm n d.1 ∧ Sm n d.2 ∧ 100 ≤ n ∧ n ≤ 3000 ∧
  ∀ (l p q : Addr) (x : Int × Int) (H2 : Hp), Same H H2 → H2 l = some (.lst [.ref p, .ref q]) → SqT K H2 p [.int x.1, .int x.2] → SqT K H2 q [.int x.1, .int x.2] → Val x.1 x.2 x → Sm (n + 101) x.1 → Sm (n + 101) x.2 → Q (.ref l) H2
theorem sc__law_next : FnScope ["op", "told", "value", "due", "mine"] ["op", "told", "value", "due", "mine"] (defScope (top 54)) := ⟨rfl, rfl, rfl, by decide +kernel, rfl, by decide +kernel, by decide +kernel⟩
theorem d__law_next {P : Program} {w : World} {K : PySem.W.Frag} {mg : Str → Option Value} {base : Heap} (T : Tx K mg) : Def P w K mg base "_law_next" 3 ["op", "told", "value", "due", "mine"] (sp_next K) := by
  refine Def.of T.at__law_next sc__law_next (fun _ _ _ _ _ _ us hl => match us, hl with | [_, _, _, _, _], _ => rfl) (fun vs H Q E h => by (obtain ⟨_, _, _, _, _, _, _, _, _, _, rfl, _⟩ := h; rfl)) (fun f cdv A outer s H vs Q E hr h => ?_)
  refine ⟨_, PSs.nox (pss_cons (ps_if (pt_cmpR (op_eqA hr.units) (pv 0) pe_int (nomark _)) (pss_one (ps_ret (pe_lstA (pa_cons (pe_def (d_times T) (hr.mono (by decide)) (by rfl) (pa_cons (pv 2) (pa_cons (pv 1) pa_nil))) (pa_cons (pe_def (d__law_frac T) (hr.mono (by decide)) (by rfl) (pa_cons (pe_op op_mulW (pe_ix ix_seq (pv 3) pe_int (fun _ _ => rfl)) (pe_ix ix_seq (pv 4) pe_int (fun _ _ => rfl))) (pa_cons (pe_op op_mulW (pe_ix ix_seq (pv 3) pe_int (fun _ _ => rfl)) (pe_ix ix_seq (pv 4) pe_int (fun _ _ => rfl))) pa_nil))) pa_nil))))) pss_nil)
      (pss_cut (ps_if (PW.pt (pw_and (pt_cmpR (op_eqA hr.units) (pv 0) pe_int (nomark _)) (pw_and1 (pt_cmpR (op_neA hr.units) (pe_ix ix_seq (pv 4) pe_int (fun _ _ => rfl)) pe_int (nomark _))))) (pss_one (ps_ret (pe_lstA (pa_cons (pe_def (d_over T) (hr.mono (by decide)) (by rfl) (pa_cons (pv 1) (pa_cons (pv 2) pa_nil))) (pa_cons (pe_def (d__law_frac T) (hr.mono (by decide)) (by rfl) (pa_cons (pe_op op_mulW (pe_ix ix_seq (pv 3) pe_int (fun _ _ => rfl)) (pe_ix ix_seq (pv 4) pe_int (fun _ _ => rfl))) (pa_cons (pe_op op_mulW (pe_ix ix_seq (pv 3) pe_int (fun _ _ => rfl)) (pe_ix ix_seq (pv 4) pe_int (fun _ _ => rfl))) pa_nil))) pa_nil))))) pss_nil)
      (pss_cut (ps_if (PW.pt (pw_and (pt_cmpR (op_eqA hr.units) (pv 0) pe_int (nomark _)) (pw_and1 (pt_cmpR (op_neA hr.units) (pe_ix ix_seq (pv 3) pe_int (fun _ _ => rfl)) pe_int (nomark _))))) (pss_one (ps_ret (pe_lstA (pa_cons (pe_def (d_over T) (hr.mono (by decide)) (by rfl) (pa_cons (pv 2) (pa_cons (pv 1) pa_nil))) (pa_cons (pe_def (d__law_frac T) (hr.mono (by decide)) (by rfl) (pa_cons (pe_op op_mulW (pe_ix ix_seq (pv 3) pe_int (fun _ _ => rfl)) (pe_ix ix_seq (pv 4) pe_int (fun _ _ => rfl))) (pa_cons (pe_op op_mulW (pe_ix ix_seq (pv 3) pe_int (fun _ _ => rfl)) (pe_ix ix_seq (pv 4) pe_int (fun _ _ => rfl))) pa_nil))) pa_nil))))) pss_nil)
      (pss_one (ps_ret (pe_lstA (pa_cons (pe_def (d_plus T) (hr.mono (by decide)) (by rfl) (pa_cons (pv 1) (pa_cons (pv 2) pa_nil))) (pa_cons (pe_def (d__law_frac T) (hr.mono (by decide)) (by rfl) (pa_cons (pe_op op_addA (pe_op op_mulW (pe_ix ix_seq (pv 3) pe_int (fun _ _ => rfl)) (pe_ix ix_seq (pv 4) pe_int (fun _ _ => rfl))) (pe_op op_mulW (pe_ix ix_seq (pv 4) pe_int (fun _ _ => rfl)) (pe_ix ix_seq (pv 3) pe_int (fun _ _ => rfl)))) (pa_cons (pe_op op_mulW (pe_ix ix_seq (pv 3) pe_int (fun _ _ => rfl)) (pe_ix ix_seq (pv 4) pe_int (fun _ _ => rfl))) pa_nil))) pa_nil)))))))), ?_⟩
  obtain ⟨op, pt, v, pd, pm, t, b, d, m, n, rfl, ht, hv, vm, hd, hm, vd, z1, z2, z3, z4, na, nb, q⟩ := h
  have y1 : Sm 100 m.1 := Sm.le z1 vm.le.1
  have y2 : Sm 100 m.2 := Sm.le z2 vm.le.2
  have p2 := vm.pos
  have p4 := vd.pos
  have gm : Sq K H pm [.int m.1, .int m.2] := .inr hm
  have gd : Sq K H pd [.int d.1, .int d.2] := .inr hd
  have ft : FV K H (.ref pt) d.1 d.2 := .inr ⟨pt, rfl, .inr ht⟩
  have c1 : CMulW d.1 m.1 := Sm.mulOk z3 y1 (by omega)
  have c2 : CMulW d.2 m.2 := Sm.mulOk z4 y2 (by omega)
  have c3 : CMulW d.1 m.2 := Sm.mulOk z3 y2 (by omega)
  have c4 : CMulW d.2 m.1 := Sm.mulOk z4 y1 (by omega)
  have c5 : CMulW m.1 d.2 := Sm.mulOk y1 z4 (by omega)
  have w1 : Sm 4000 t := Sm.mono z1 (by decide)
  have w2 : Sm 4000 b := Sm.mono z2 (by decide)
  have w3 : Sm 4000 d.1 := Sm.mono z3 (by omega)
  have w4 : Sm 4000 d.2 := Sm.mono z4 (by omega)
  have b2 : Sm (n + 101) (d.2 * m.2) := Sm.mono (Sm.mul z4 y2) (by omega)
  -- the end: the two values stand, the list is made
  have fin : ∀ (a c : Int), c ≠ 0 → Sm (n + 101) a → Sm (n + 101) c → ∀ (p1 p2 : Addr) (H3 : Hp), Same H H3 → SqT K H3 p1 [.int (nrm a c).1, .int (nrm a c).2] → SqT K H3 p2 [.int (nrm a c).1, .int (nrm a c).2] →
      ∀ (l : Addr) (H4 : Hp), H3 l = none → Same H3 H4 → H4 l = some (.lst [.ref p1, .ref p2]) → Q (.ref l) H4 := by
    intro a c hc ha hc2 p1 p2 H3 s3 e1 e2 l H4 _ s4 l4
    have g := nrm_le (t := a) hc
    exact q l p1 p2 (nrm a c) H4 (s3.trans s4) l4 (Same.st s4 e1) (Same.st s4 e2) (Val.nm hc).self (Sm.le ha g.1) (Sm.le hc2 g.2)
  walk_at "w0"
  walk_at "w"
  refine iteD (fun h => ?_) (fun h => ?_)
  · walk_at "w"
    refine ⟨v, .ref pt, t, b, d.1, d.2, rfl, hv, ft, vm.nb, vd.nb, w1, w2, w3, w4, fun p H1 s1 l1 => ?_⟩
    walk_at "w"
    refine w_ix (Same.sq s1 gd) (i := 0) rfl ?_
    walk_at "w"
    refine w_ix (Same.sq s1 gm) (i := 0) rfl ?_
    walk_at "w"
    refine w_ix (Same.sq s1 gd) (i := 1) rfl ?_
    walk_at "w"
    refine w_ix (Same.sq s1 gm) (i := 1) rfl ?_
    walk_at "w"
    have nz : d.2 * m.2 ≠ 0 := Int.mul_ne_zero vd.nb (by omega)
    refine ⟨_, _, rfl, nz, Sm.mono b2 (by omega), fun p2 H2 _ s2 l2 => ?_⟩
    rw [nrm_times vm vd, Int.mul_comm m.1, Int.mul_comm m.2] at l1
    walk_at "w"
    exact ⟨by walk_at "sz", fin _ _ nz (Sm.mono (Sm.mul z3 y1) (by omega)) b2 p p2 H2 (s1.trans s2) (Same.st s2 (SqT.of l1)) (SqT.of l2)⟩
  -- the sum, in three ways
  have plus : ∀ P : Prop, (∀ (H0 : Hp), Same H H0 → True) → True := fun _ _ => trivial
  walk_at "w"
  refine w_cut (fun σ' H' => H = H' ∧ σ' = [some (.int op), some (.ref pt), some v, some (.ref pd), some (.ref pm)]) ?_ ?_
  · walk_at "w"
    refine iteD (fun h2 => ?_) (fun h2 => iteF ?_)
    · walk_at "w"
      refine w_ix gm (i := 0) rfl ?_
      walk_at "w"
      refine iteN (fun h3 => ?_) (fun h3 => ?_)
      · have h3 := of_decide_eq_false h3
        walk_at "w"
        have hb : t ≠ 0 := fun z => h3 (vm.zero.mp z)
        refine ⟨.ref pt, v, d.1, d.2, t, b, rfl, ft, hv, vd.nb, vm.nb, w3, w4, w1, w2, fun z => absurd z hb, fun _ p H1 s1 l1 => ?_⟩
        walk_at "w"
        refine w_ix (Same.sq s1 gd) (i := 0) rfl ?_
        walk_at "w"
        refine w_ix (Same.sq s1 gm) (i := 1) rfl ?_
        walk_at "w"
        refine w_ix (Same.sq s1 gd) (i := 1) rfl ?_
        walk_at "w"
        refine w_ix (Same.sq s1 gm) (i := 0) rfl ?_
        walk_at "w"
        have nz : d.2 * m.1 ≠ 0 := Int.mul_ne_zero vd.nb h3
        have b1 : Sm (n + 101) (d.2 * m.1) := Sm.mono (Sm.mul z4 y1) (by omega)
        refine ⟨_, _, rfl, nz, Sm.mono b1 (by omega), fun p2 H2 _ s2 l2 => ?_⟩
        rw [nrm_over vd vm h3] at l1
        walk_at "w"
        exact ⟨by walk_at "sz", fin _ _ nz (Sm.mono (Sm.mul z3 y2) (by omega)) b1 p p2 H2 (s1.trans s2) (Same.st s2 (SqT.of l1)) (SqT.of l2)⟩
      · walk_at "w"
        exact ⟨rfl, rfl⟩
    · walk_at "w"
      exact ⟨rfl, rfl⟩
  rintro σ' H' ⟨rfl, rfl⟩
  refine w_cut (fun σ' H' => H = H' ∧ σ' = [some (.int op), some (.ref pt), some v, some (.ref pd), some (.ref pm)]) ?_ ?_
  · walk_at "w"
    refine iteD (fun h2 => ?_) (fun h2 => iteF ?_)
    · walk_at "w"
      refine w_ix gd (i := 0) rfl ?_
      walk_at "w"
      refine iteN (fun h3 => ?_) (fun h3 => ?_)
      · have h3 := of_decide_eq_false h3
        walk_at "w"
        refine ⟨v, .ref pt, t, b, d.1, d.2, rfl, hv, ft, vm.nb, vd.nb, w1, w2, w3, w4, fun z => absurd z h3, fun _ p H1 s1 l1 => ?_⟩
        walk_at "w"
        refine w_ix (Same.sq s1 gd) (i := 1) rfl ?_
        walk_at "w"
        refine w_ix (Same.sq s1 gm) (i := 0) rfl ?_
        walk_at "w"
        refine w_ix (Same.sq s1 gd) (i := 0) rfl ?_
        walk_at "w"
        refine w_ix (Same.sq s1 gm) (i := 1) rfl ?_
        walk_at "w"
        have nz : d.1 * m.2 ≠ 0 := Int.mul_ne_zero h3 (by omega)
        have b1 : Sm (n + 101) (d.1 * m.2) := Sm.mono (Sm.mul z3 y2) (by omega)
        refine ⟨_, _, rfl, nz, Sm.mono b1 (by omega), fun p2 H2 _ s2 l2 => ?_⟩
        rw [nrm_over vm vd h3, Int.mul_comm m.1, Int.mul_comm m.2] at l1
        walk_at "w"
        exact ⟨by walk_at "sz", fin _ _ nz (Sm.mono (Sm.mul z4 y1) (by omega)) b1 p p2 H2 (s1.trans s2) (Same.st s2 (SqT.of l1)) (SqT.of l2)⟩
      · walk_at "w"
        exact ⟨rfl, rfl⟩
    · walk_at "w"
      exact ⟨rfl, rfl⟩
  rintro σ' H' ⟨rfl, rfl⟩
  walk_at "w"
  refine ⟨.ref pt, v, d.1, d.2, t, b, rfl, ft, hv, vd.nb, vm.nb, w3, w4, w1, w2, fun p H1 s1 l1 => ?_⟩
  walk_at "w"
  refine w_ix (Same.sq s1 gd) (i := 0) rfl ?_
  walk_at "w"
  refine w_ix (Same.sq s1 gm) (i := 1) rfl ?_
  walk_at "w"
  refine w_ix (Same.sq s1 gm) (i := 0) rfl ?_
  walk_at "w"
  refine w_ix (Same.sq s1 gd) (i := 1) rfl ?_
  walk_at "w"
  refine w_ix (Same.sq s1 gd) (i := 1) rfl ?_
  walk_at "w"
  refine w_ix (Same.sq s1 gm) (i := 1) rfl ?_
  walk_at "w"
  have nz : d.2 * m.2 ≠ 0 := Int.mul_ne_zero vd.nb (by omega)
  refine ⟨_, _, rfl, nz, Sm.mono b2 (by omega), fun p2 H2 _ s2 l2 => ?_⟩
  rw [nrm_plus vd vm] at l1
  walk_at "w"
  exact ⟨by walk_at "sz", fin _ _ nz (Sm.plus z3 y2 y1 z4) b2 p p2 H2 (s1.trans s2) (Same.st s2 (SqT.of l1)) (SqT.of l2)⟩
end JP
set_option Elab.async false
set_option linter.all false
set_option maxRecDepth 100000
set_option maxHeartbeats 16000000
namespace JP
open PySem PySem.Spec PyProof.Rows L2 L2H
local macro_rules | `(tactic| walk_at "w1") => `(tactic| first
  | with_reducible refine w_seq ?_
  | with_reducible refine w_asg ?_
  | with_reducible refine w_name ?_
  | with_reducible refine w_op ?_
  | ((with_reducible refine w_var ?v ?h ?q); (case h => exact rfl))
  | with_reducible refine w_c ?_
  | with_reducible refine w_ret ?_
  | with_reducible refine w_if ?_
  | with_reducible refine w_drop ?_
  | with_reducible refine w_next ?_
  | with_reducible refine w_un ?_
  | with_reducible refine w_p18 ?_
  | with_reducible refine w_p30 ?_
  | with_reducible refine w_p6 ?_
  | with_reducible refine w_p9 ?_
  | with_reducible refine w_p12 ?_
  | with_reducible refine w_p15 ?_
  | with_reducible refine w_p24 ?_
  | with_reducible refine w_slice ?_
  | with_reducible refine w_part ?_
  | with_reducible refine w_nopart ?_
  | with_reducible refine w_ei ?_
  | with_reducible refine w_for ?_
  | with_reducible refine w_rng1 ?_
  | with_reducible refine w_rng2 ?_
  | with_reducible refine w_iseq ?_
  | ((with_reducible refine w_I ?c ?q); (case c => walk_at "side"))
  | ((with_reducible refine w_len ?xs ?h ?q); (case h => walk_at "tr"))
  | with_reducible refine w_cb ?_
  | with_reducible refine w_cons ?_
  | with_reducible refine w_nil ?_
  | with_reducible refine w_test ?_
  | with_reducible refine w_B ?_
  | with_reducible refine w_bl ?_
  | with_reducible refine w_and ?_
  | with_reducible refine w_or ?_
  | with_reducible refine w_not ?_
  | with_reducible refine w_andV ?_
  | with_reducible refine w_orV ?_
  | with_reducible refine w_notV ?_
  | with_reducible refine w_ifE ?_
  | with_reducible refine w_call ?_
  | with_reducible refine w_bm ?_
  | ((with_reducible refine w_tyl ?xs ?h ?q); (case h => assumption))
  | with_reducible refine w_bm0 ?_
  | with_reducible refine w_bits ?_
  | with_reducible refine w_tup ?_
  | with_reducible refine w_lst ?_
  | with_reducible refine w_I0 ?_
  | with_reducible refine w_U ?_
  | with_reducible refine w_add ?_
  | with_reducible refine w_eqI ?_
  | with_reducible refine w_neI ?_
  | with_reducible refine w_eqS ?_
  | with_reducible refine w_neS ?_
  | with_reducible refine w_int ?_
  | with_reducible refine w_abs ?_
  | with_reducible refine w_gcd ?_)
local macro_rules | `(tactic| walk_at "w") => `(tactic| repeat (walk_at "w1"))
local macro_rules | `(tactic| walk_at "w0") => `(tactic| simp only [cxOf_K, L2.start, List.map_cons, List.map_nil, List.length_cons, List.length_nil, Nat.reduceAdd, Nat.reduceSub, List.replicate_succ, List.replicate_zero, List.cons_append, List.nil_append])
local macro_rules | `(tactic| walk_at "side") => `(tactic| first | assumption | (exact small_div (by omega) (by omega)) | (exact small_mul (by omega) (by omega)) | (exact med_mul (by omega) (by omega)) | (exact big_mul (by omega) (by omega)) | (exact ⟨by decide, by decide, by decide⟩) | (show (0 : Int) < _; omega))
local macro_rules | `(tactic| walk_at "ch") => `(tactic| first
  | with_reducible assumption
  | with_reducible exact Same.refl _
  | ((with_reducible refine tr_at ?H ?e ?h); (case e => with_reducible assumption); (case h => walk_at "ch"))
  | ((with_reducible refine tr_st ?H ?e ?h); (case e => with_reducible assumption); (case h => walk_at "ch"))
  | ((with_reducible refine tr_sl ?H ?e ?h); (case e => with_reducible assumption); (case h => walk_at "ch"))
  | ((with_reducible refine tr_same ?H ?e ?h); (case e => with_reducible assumption); (case h => walk_at "ch"))
  | ((with_reducible refine tr_sq ?H ?e ?h); (case e => with_reducible assumption); (case h => walk_at "ch"))
  | ((with_reducible refine tr_dp ?H ?e ?h); (case e => with_reducible assumption); (case h => walk_at "ch"))
  | walk_at "tr2")
local macro_rules | `(tactic| walk_at "tr") => `(tactic| first
  | walk_at "ch"
  | ((with_reducible refine tr_eq ?u ?h ?e); (case h => walk_at "ch"); (case e => rfl))
  | ((with_reducible refine tr_eqt ?u ?h ?e); (case h => walk_at "ch"); (case e => rfl))
  | ((with_reducible refine tr_eql ?u ?h ?e); (case h => walk_at "ch"); (case e => rfl))
  | ((with_reducible refine SqT.of ?_); first | walk_at "ch" | ((with_reducible refine tr_eq ?u ?h ?e); (case h => walk_at "ch"); (case e => rfl)))
  | ((with_reducible refine SqL.of ?_); first | walk_at "ch" | ((with_reducible refine tr_eq ?u ?h ?e); (case h => walk_at "ch"); (case e => rfl)))
  | ((with_reducible refine sq_l ?_); walk_at "tr")
  | ((with_reducible refine sq_t ?_); walk_at "tr"))
local macro_rules | `(tactic| walk_at "tr2") => `(tactic| fail)
local macro_rules | `(tactic| walk_at "sz") => `(tactic| (simp only [List.length_cons, List.length_nil, List.length_append, List.length_map]; decide))
local macro_rules | `(tactic| walk_at "g") => `(tactic| repeat (first
  | (with_reducible refine g_cons ?_)
  | (with_reducible refine g_nil ?_)
  | (with_reducible refine w_name ?_)))
theorem tr_fv {K : PySem.W.Frag} {H' : Hp} {v : V} {t b : Int} (H : Hp) (e : Same H H') (h : FV K H v t b) : FV K H' v t b := Same.fv e h
theorem tr_ov {K : PySem.W.Frag} {H' : Hp} {v : V} {m : Int × Int} {d : Int} (H : Hp) (e : Same H H') (h : OV K H v m d) : OV K H' v m d := Same.ov e h
local macro_rules | `(tactic| walk_at "tr2") => `(tactic| first
  | ((with_reducible refine tr_fv ?H ?e ?h); (case e => with_reducible assumption); (case h => walk_at "ch"))
  | ((with_reducible refine tr_ov ?H ?e ?h); (case e => with_reducible assumption); (case h => walk_at "ch")))
theorem N30.sm {x : Int} (h : N30 x) : Sm 100 x := Nat.lt_of_le_of_lt h (by decide)
theorem N30.sm4 {x : Int} (h : N30 x) : Sm 4000 x := Sm.mono h.sm (by decide)
def sp_law (K : PySem.W.Frag) : Sp := fun vs H Q _ => ∃ (a : Addr) (ns : List Int), vs = [.ref a] ∧ SqL K H a (ns.map V.int) ∧ ns.length ≤ 63 ∧ ∀ H', Q (.bl true) H'
/-- what holds between two turns -/
structure Turn (K : PySem.W.Frag) (H : Hp) (k : Nat) (pt pd : Addr) (d : Int × Int) (v : V) (t b : Int) (sm : Int × Int) (ps : Addr) (bot : Int) : Prop where
  told : SqT K H pt [.int d.1, .int d.2]
  due : SqT K H pd [.int d.1, .int d.2]
  vd : Val d.1 d.2 d
  d1 : Sm (101 * (k + 1)) d.1
  d2 : Sm (101 * (k + 1)) d.2
  last : FV K H v t b
  vl : Val t b sm
  t0 : N30 t
  b0 : N30 b
  same : SqT K H ps [.int sm.1, .int sm.2]
  bn : bot ≠ 0
  bs : N30 bot
theorem sc_law : FnScope ["script", "many", "told", "due", "last", "same", "bottom", "k", "row", "pair", "mine", "value", "again", "step"] ["script"] (defScope (top 55)) := ⟨rfl, rfl, rfl, by decide +kernel, rfl, by decide +kernel, by decide +kernel⟩
theorem d_law {P : Program} {w : World} {K : PySem.W.Frag} {mg : Str → Option Value} {base : Heap} (T : Tx K mg) : Def P w K mg base "law" 5 ["script"] (sp_law K) := by
  refine Def.of T.at_law sc_law (fun _ _ _ _ _ _ us hl => match us, hl with | [_], _ => rfl) (fun vs H Q E h => by (obtain ⟨_, _, rfl, _⟩ := h; rfl)) (fun f cdv A outer s H vs Q E hr h => ?_)
  refine ⟨_, PSs.nox (pss_cons (ps_set (i := 1) sc_law.nd rfl (Or.inl rfl) (pe_ix ix_seq (pe_lstA (pa_cons pe_int (pa_cons pe_int (pa_cons pe_int (pa_cons pe_int (pa_cons pe_int (pa_cons pe_int (pa_cons pe_int (pa_cons pe_int (pa_cons pe_int (pa_cons pe_int pa_nil))))))))))) (pe_ix ix_seq (pe_def (d__law_digits T) (hr.mono (by decide)) (by rfl) (pa_cons (pe_def (d__law_cell T) (hr.mono (by decide)) (by rfl) (pa_cons (pv 0) (pa_cons pe_int pa_nil))) (pa_cons (pe_lstA (pa_cons pe_int pa_nil)) pa_nil))) pe_int (fun _ _ => rfl)) (fun _ _ => rfl)))
      (pss_cons (ps_set (i := 2) sc_law.nd rfl (Or.inl rfl) (pe_tupA (pa_cons pe_int (pa_cons pe_int pa_nil))))
      (pss_cons (ps_set (i := 3) sc_law.nd rfl (Or.inl rfl) (pe_tupA (pa_cons pe_int (pa_cons pe_int pa_nil))))
      (pss_cons (ps_set (i := 4) sc_law.nd rfl (Or.inl rfl) pe_int)
      (pss_cons (ps_set (i := 5) sc_law.nd rfl (Or.inl rfl) (pe_tupA (pa_cons pe_int (pa_cons pe_int pa_nil))))
      (pss_cons (ps_set (i := 6) sc_law.nd rfl (Or.inl rfl) pe_int)
      (pss_cons (ps_for PassesOwn.never rfl (pi_range1 (by rfl) T.n_range (pa_cons (pv 1) pa_nil)) (pg_name (i := 7) sc_law.nd rfl (Or.inl rfl)) (pss_cons (ps_set (i := 8) sc_law.nd rfl (Or.inl rfl) (pe_def (d__law_digits T) (hr.mono (by decide)) (by rfl) (pa_cons (pe_def (d__law_cell T) (hr.mono (by decide)) (by rfl) (pa_cons (pv 0) (pa_cons (pe_op op_addA pe_int (pv 7)) pa_nil))) (pa_cons (pe_op op_addA (pe_op op_addA (pe_op op_addA (pe_op op_addA (pe_lstA (pa_cons pe_int pa_nil)) (pe_op op_repA (pe_lstA (pa_cons pe_int pa_nil)) pe_int)) (pe_lstA (pa_cons pe_int pa_nil))) (pe_op op_repA (pe_lstA (pa_cons pe_int pa_nil)) pe_int)) (pe_lstA (pa_cons pe_int (pa_cons pe_int (pa_cons pe_int (pa_cons pe_int (pa_cons pe_int pa_nil))))))) pa_nil))))
      (pss_cons (ps_set (i := 9) sc_law.nd rfl (Or.inl rfl) (pe_def (d__law_pair T) (hr.mono (by decide)) (by rfl) (pa_cons (pv 8) pa_nil)))
      (pss_cut (ps_if (PW.pt (pw_and (pt_cmpR (op_eqA hr.units) (pe_ix ix_seq (pv 8) pe_int (fun _ _ => rfl)) pe_int (nomark _)) (pw_and1 (pt_cmpR op_lt (pe_ix ix_seq (pv 8) pe_int (fun _ _ => rfl)) pe_int (nomark _))))) (pss_one (ps_set (i := 9) sc_law.nd rfl (Or.inl rfl) (pe_lstA (pa_cons (pe_ix ix_seq (pv 9) pe_int (fun _ _ => rfl)) (pa_cons (pv 6) pa_nil))))) pss_nil)
      (pss_cons (ps_set (i := 6) sc_law.nd rfl (Or.inl rfl) (pe_ix ix_seq (pv 9) pe_int (fun _ _ => rfl)))
      (pss_cons (ps_set (i := 10) sc_law.nd rfl (Or.inl rfl) (pe_def (d__law_frac T) (hr.mono (by decide)) (by rfl) (pa_cons (pe_ix ix_seq (pv 9) pe_int (fun _ _ => rfl)) (pa_cons (pe_ix ix_seq (pv 9) pe_int (fun _ _ => rfl)) pa_nil))))
      (pss_cons (ps_set (i := 11) sc_law.nd rfl (Or.inl rfl) (pe_def (d__law_passed T) (hr.mono (by decide)) (by rfl) (pa_cons (pv 9) (pa_cons (pe_ix ix_seq (pv 8) pe_int (fun _ _ => rfl)) pa_nil))))
      (pss_cons (ps_set (i := 12) sc_law.nd rfl (Or.inl rfl) (pe_def (d__law_other_pair T) (hr.mono (by decide)) (by rfl) (pa_cons (pv 10) (pa_cons (pe_ix ix_seq (pv 8) pe_int (fun _ _ => rfl)) pa_nil))))
      (pss_cons (ps_if (PW.pt (pw_or (pt_not (pt_val (pe_def (d__law_is T) (hr.mono (by decide)) (by rfl) (pa_cons (pe_def (d_fraction T) (hr.mono (by decide)) (by rfl) (pa_cons (pv 11) pa_nil)) (pa_cons (pv 10) pa_nil))))) (pw_or1 (pt_not (pt_val (pe_def (d__law_is T) (hr.mono (by decide)) (by rfl) (pa_cons (pe_def (d_fraction T) (hr.mono (by decide)) (by rfl) (pa_cons (pv 12) pa_nil)) (pa_cons (pv 10) pa_nil)))))))) (pss_one (ps_ret pe_bl)) pss_nil)
      (pss_cons (ps_if (PW.pt (pw_or (pt_not (pt_val (pe_def (d__law_right T) (hr.mono (by decide)) (by rfl) (pa_cons (pv 11) (pa_cons (pv 4) (pa_cons (pv 10) (pa_cons (pv 5) pa_nil))))))) (pw_or1 (pt_not (pt_val (pe_def (d__law_right T) (hr.mono (by decide)) (by rfl) (pa_cons (pv 4) (pa_cons (pv 12) (pa_cons (pv 5) (pa_cons (pv 10) pa_nil)))))))))) (pss_one (ps_ret pe_bl)) pss_nil)
      (pss_cons (ps_if (PW.pt (pw_or (pt_not (pt_val (pe_def (d__law_right T) (hr.mono (by decide)) (by rfl) (pa_cons (pv 2) (pa_cons (pv 11) (pa_cons (pv 3) (pa_cons (pv 10) pa_nil))))))) (pw_or1 (pt_not (pt_val (pe_def (d__law_right T) (hr.mono (by decide)) (by rfl) (pa_cons (pv 12) (pa_cons (pv 2) (pa_cons (pv 10) (pa_cons (pv 3) pa_nil)))))))))) (pss_one (ps_ret pe_bl)) pss_nil)
      (pss_cons (ps_set (i := 13) sc_law.nd rfl (Or.inl rfl) (pe_def (d__law_next T) (hr.mono (by decide)) (by rfl) (pa_cons (pe_ix ix_seq (pv 8) pe_int (fun _ _ => rfl)) (pa_cons (pv 2) (pa_cons (pv 11) (pa_cons (pv 3) (pa_cons (pv 10) pa_nil)))))))
      (pss_cons (ps_if (PW.pt (pw_or (pt_not (pt_val (pe_def (d__law_is T) (hr.mono (by decide)) (by rfl) (pa_cons (pe_ix ix_seq (pv 13) pe_int (fun _ _ => rfl)) (pa_cons (pe_ix ix_seq (pv 13) pe_int (fun _ _ => rfl)) pa_nil))))) (pw_or1 (pt_not (pt_val (pe_def (d__law_is T) (hr.mono (by decide)) (by rfl) (pa_cons (pe_def (d_fraction T) (hr.mono (by decide)) (by rfl) (pa_cons (pe_ix ix_seq (pv 13) pe_int (fun _ _ => rfl)) pa_nil)) (pa_cons (pe_ix ix_seq (pv 13) pe_int (fun _ _ => rfl)) pa_nil)))))))) (pss_one (ps_ret pe_bl)) pss_nil)
      (pss_cons (ps_if (PW.pt (pw_or (PW.pt (pw_and (pt_cmpR op_lt (pe_ix ix_seq (pv 8) pe_int (fun _ _ => rfl)) pe_int (nomark _)) (pw_and1 (pt_cmpR (op_neA hr.units) (pv 11) (pv 9) (nomark _))))) (pw_or1 (pt_cmpR (op_neA hr.units) (pv 12) (pe_def (d__law_other_pair T) (hr.mono (by decide)) (by rfl) (pa_cons (pv 10) (pa_cons (pe_ix ix_seq (pv 8) pe_int (fun _ _ => rfl)) pa_nil))) (nomark _))))) (pss_one (ps_ret pe_bl)) pss_nil)
      (pss_cons (ps_set (i := 2) sc_law.nd rfl (Or.inl rfl) (pe_ix ix_seq (pv 13) pe_int (fun _ _ => rfl)))
      (pss_cons (ps_set (i := 3) sc_law.nd rfl (Or.inl rfl) (pe_ix ix_seq (pv 13) pe_int (fun _ _ => rfl)))
      (pss_cons (ps_set (i := 4) sc_law.nd rfl (Or.inl rfl) (pv 11))
      (pss_one (ps_set (i := 5) sc_law.nd rfl (Or.inl rfl) (pv 10))))))))))))))))))))
      (pss_one (ps_ret pe_bl))))))))), ?_⟩
  obtain ⟨a, ns, rfl, hS, hlen, q⟩ := h
  walk_at "w0"
  walk_at "w"
  refine ⟨by walk_at "sz", fun l0 H1 n1 s1 e1 => ?_⟩
  walk_at "w"
  refine ⟨a, 0, ns, rfl, by walk_at "tr", by decide, by decide, ?_⟩
  walk_at "w"
  refine ⟨by walk_at "sz", fun lz H2 n2 s2 e2 => ?_⟩
  refine ⟨_, lz, [10], rfl, .inl (SqL.of e2), by decide, by decide, fun ld H3 n3 s3 e3 => ?_⟩
  have dg := digits_ok (lawCell ns 0) [10] (by decide)
  obtain ⟨d0, hd0⟩ : ∃ d0, (digits (lawCell ns 0) [10])[0]? = some d0 := ⟨_, List.getElem?_eq_getElem (by rw [dg.1]; decide)⟩
  have bd := dg.2 0 _ _ rfl hd0
  walk_at "w"
  refine map_at0 (i := 0) (.inl (SqL.of e3)) hd0 ?_
  obtain ⟨many, _, hm, ha⟩ := ix_ints [2, 3, 2, 4, 3, 6, 2, 5, 9, 16] (i := d0) bd.1 bd.2
  have em : Sq K H3 l0 ([2, 3, 2, 4, 3, 6, 2, 5, 9, 16].map V.int) := by walk_at "tr"
  refine w_ix em ha ?_
  have hmany : 0 ≤ many ∧ many ≤ 16 := by
    simp only [List.mem_cons, List.not_mem_nil, or_false] at hm
    omega
  walk_at "w"
  refine ⟨by walk_at "sz", fun pt H4 n4 s4 e4 => ?_⟩
  walk_at "w"
  refine ⟨by walk_at "sz", fun pd H5 n5 s5 e5 => ?_⟩
  walk_at "w"
  refine ⟨by walk_at "sz", fun ps H6 n6 s6 e6 => ?_⟩
  walk_at "w"
  refine for_rng1 (n := many.toNat) rfl (by omega) (by omega)
    (fun k σ' H' => Same H H' ∧ ∃ pt pd d v t b sm ps bot o7 o8 o9 o10 o11 o12 o13, σ' = [some (.ref a), some (.int many), some (.ref pt), some (.ref pd), some v, some (.ref ps), some (.int bot), o7, o8, o9, o10, o11, o12, o13] ∧ Turn K H' k pt pd d v t b sm ps bot)
    ⟨by walk_at "tr", pt, pd, (1, 1), _, 1, 1, (1, 1), ps, 6, _, _, _, _, _, _, _, rfl, by walk_at "tr", by walk_at "tr", ⟨by decide, by decide⟩, by decide, by decide, .inl ⟨rfl, rfl⟩, ⟨by decide, by decide⟩, by decide, by decide, by walk_at "tr", by decide, by decide⟩ ?_ ?_
  · rintro k σ' H7 hk ⟨sH, pt, pd, d, v, t, b, sm, ps, bot, o7, o8, o9, o10, o11, o12, o13, rfl, I⟩
    have k0 : (0 : Int) ≤ 1 + (k : Int) := by omega
    have k1 : 1 + (k : Int) ≤ 1000 := by omega
    have k2 : 101 * (k + 1) ≤ 3000 := by omega
    have k3 : 100 ≤ 101 * (k + 1) := by omega
    have k4 : 101 * (k + 1) ≤ 4000 := by omega
    have k6 : 101 * (k + 1) + 101 ≤ 101 * (k + 1 + 1) := by omega
    have k5 : 101 * (k + 1) + 101 ≤ 8900 := by omega
    obtain ⟨it, idu, vd, zd1, zd2, il, vl, t0, b0, isame, bn, bs⟩ := I
    walk_at "w"
    refine ⟨a, _, ns, rfl, Same.sl sH hS, k0, k1, ?_⟩
    generalize lawCell ns (1 + (k : Int)) = c
    walk_at "w"
    refine ⟨by walk_at "sz", fun x1 G1 _ r1 f1 => ?_⟩
    walk_at "w"
    refine ⟨by walk_at "sz", fun x2 G2 _ r2 f2 => ?_⟩
    walk_at "w"
    refine w_rep ([1000000, 1000000, 1000000, 1000000, 1000000].map V.int) f2 (by decide) (by decide) (by walk_at "sz") rfl fun x3 G3 _ r3 f3 => ?_
    refine w_addL (xs := [12].map V.int) (by walk_at "tr") f3 (by walk_at "sz") fun x4 G4 _ r4 f4 => ?_
    walk_at "w"
    refine ⟨by walk_at "sz", fun x5 G5 _ r5 f5 => ?_⟩
    refine w_addL (by walk_at "tr") f5 (by walk_at "sz") fun x6 G6 _ r6 f6 => ?_
    walk_at "w"
    refine ⟨by walk_at "sz", fun x7 G7 _ r7 f7 => ?_⟩
    walk_at "w"
    refine w_rep ([1000000, 1000000, 1000000, 1000000, 1000000].map V.int) f7 (by decide) (by decide) (by walk_at "sz") rfl fun x8 G8 _ r8 f8 => ?_
    refine w_addL (by walk_at "tr") f8 (by walk_at "sz") fun x9 G9 _ r9 f9 => ?_
    walk_at "w"
    refine ⟨by walk_at "sz", fun y1 G10 _ r10 f10 => ?_⟩
    refine w_addL (by walk_at "tr") f10 (by walk_at "sz") fun y2 G11 _ r11 f11 => ?_
    walk_at "w"
    refine ⟨c, y2, szs, rfl, .inl (SqL.of f11), by decide, by decide, fun lr G12 _ r12 f12 => ?_⟩
    have hdig := digits_ok c szs (by decide)
    generalize digits c szs = ds at f12 hdig
    have sG : Same H7 G12 := r1.trans (r2.trans (r3.trans (r4.trans (r5.trans (r6.trans (r7.trans (r8.trans (r9.trans (r10.trans (r11.trans r12))))))))))
    clear r1 r2 r3 r4 r5 r6 r7 r8 r9 r10 r11 r12 f1 f2 f3 f4 f5 f6 f7 f8 f9 f10 f11
    walk_at "w"
    obtain ⟨a0, a1, a2, a3, a4, a5, a6, a7, a8, a9, b0', b1, b2, c3, c4, c5, c6, rfl⟩ := list17 hdig.1
    have k13 := hdig.2 13 _ _ rfl rfl
    have k14 := hdig.2 14 _ _ rfl rfl
    have sl12 := SqL.of (K := K) f12
    have gr : Sq K G12 lr ([a0, a1, a2, a3, a4, a5, a6, a7, a8, a9, b0', b1, b2, c3, c4, c5, c6].map V.int) := .inl sl12
    refine ⟨lr, _, rfl, sl12, hdig, fun lp t' b' G13 r13 f13 ht' hb' hnb' h4' => ?_⟩
    walk_at "w"
    refine w_cut (fun σ' H' => Same G13 H' ∧ ∃ (lp : Addr) (t b : Int), σ' = [some (.ref a), some (.int many), some (.ref pt), some (.ref pd), some v, some (.ref ps), some (.int bot), some (.int (k : Int)), some (.ref lr), some (.ref lp), o10, o11, o12, o13] ∧ H' lp = some (.lst [.int t, .int b]) ∧ N30 t ∧ N30 b ∧ b ≠ 0 ∧ (c3 = 4 → b = 1)) ?_ ?_
    · walk_at "w"
      refine w_ix (i := 16) (Same.sq r13 gr) rfl ?_
      walk_at "w"
      refine iteD (fun _ => ?_) (fun _ => iteF ?_)
      · walk_at "w"
        refine w_ix (i := 13) (Same.sq r13 gr) rfl ?_
        walk_at "w"
        refine iteD (fun h5 => ?_) (fun _ => ?_)
        · walk_at "w"
          refine w_ix (i := 0) (.inl (SqL.of f13)) rfl ?_
          walk_at "w"
          refine ⟨by walk_at "sz", fun lq G14 _ r14 f14 => ?_⟩
          exact ⟨r14, lq, t', bot, rfl, f14, ht', bs, bn, fun z => absurd h5 (by rw [z]; decide)⟩
        · walk_at "w"
          exact ⟨Same.refl _, lp, t', b', rfl, f13, ht', hb', hnb', h4'⟩
      · walk_at "w"
        exact ⟨Same.refl _, lp, t', b', rfl, f13, ht', hb', hnb', h4'⟩
    clear f13 ht' hb' hnb' h4'
    rintro σ' G14 ⟨r14, lp, t2, b2', rfl, f14, ht, hb, hnb, h4⟩
    have gp : Sq K G14 lp [.int t2, .int b2'] := .inl (SqL.of f14)
    walk_at "w"
    refine w_ix (i := 1) gp rfl ?_
    walk_at "w"
    refine w_ix (i := 0) gp rfl ?_
    walk_at "w"
    refine w_ix (i := 1) gp rfl ?_
    walk_at "w"
    refine ⟨t2, b2', rfl, hnb, Sm.mono hb.sm (by decide), fun pm G15 _ r15 f15 => ?_⟩
    have vm : Val t2 b2' (nrm t2 b2') := Val.nm hnb
    have ml := nrm_le (t := t2) hnb
    generalize nrm t2 b2' = m at f15 vm ml
    have hm1 : N30 m.1 := Nat.le_trans ml.1 ht
    have hm2 : N30 m.2 := Nat.le_trans ml.2 hb
    walk_at "w"
    refine w_ix (i := 13) (xs := ([a0, a1, a2, a3, a4, a5, a6, a7, a8, a9, b0', b1, b2, c3, c4, c5, c6].map V.int)) (by walk_at "tr") rfl ?_
    refine ⟨lp, t2, b2', c3, rfl, by walk_at "tr", h4, fun u G16 r16 hu hul => ?_⟩
    walk_at "w"
    refine w_ix (i := 14) (xs := ([a0, a1, a2, a3, a4, a5, a6, a7, a8, a9, b0', b1, b2, c3, c4, c5, c6].map V.int)) (by walk_at "tr") rfl ?_
    refine ⟨pm, m, c4, rfl, by walk_at "tr", hm1, hm2, k14.1, k14.2, fun x G17 r17 hx => ?_⟩
    have vx := oth_val (d := c4) vm.self
    have xl := oth_le (d := c4) hm1 hm2
    walk_at "w"
    -- fraction(value), fraction(again)
    refine ⟨u, t2, b2', rfl, by walk_at "tr", hnb, Sm.mono hb.sm (by decide), fun p G18 _ r18 f18 => ?_⟩
    rw [vm.is] at f18
    walk_at "w"
    refine ⟨p, pm, m.1, m.2, rfl, by walk_at "tr", by walk_at "tr", ?_⟩
    walk_at "w"
    refine iteF ?_
    walk_at "w"
    have hxf := hx.fv
    refine ⟨x, (oth m c4).2.1, (oth m c4).2.2, rfl, by walk_at "tr", vx.nb, Sm.mono xl.2.sm (by decide), fun p G19 _ r19 f19 => ?_⟩
    rw [vx.is] at f19
    walk_at "w"
    refine ⟨p, pm, m.1, m.2, rfl, by walk_at "tr", by walk_at "tr", ?_⟩
    walk_at "w"
    refine iteF ?_
    walk_at "w"
    have zt := N30.sm4 ht
    have zb := N30.sm4 hb
    have zt0 := N30.sm4 t0
    have zb0 := N30.sm4 b0
    have zx1 := N30.sm4 xl.1
    have zx2 := N30.sm4 xl.2
    have ft : FV K H7 (.ref pt) d.1 d.2 := .inr ⟨pt, rfl, .inr it⟩
    have zd3 : Sm 4000 d.1 := Sm.mono zd1 k4
    have zd4 : Sm 4000 d.2 := Sm.mono zd2 k4
    -- value and last, last and again
    refine ⟨u, v, t2, b2', t, b, pm, ps, m, sm, rfl, by walk_at "tr", by walk_at "tr", vm, vl, by walk_at "tr", by walk_at "tr", zt, zb, zt0, zb0, fun G20 r20 => ?_⟩
    walk_at "w"
    refine iteF ?_
    walk_at "w"
    refine ⟨v, x, t, b, (oth m c4).2.1, (oth m c4).2.2, ps, pm, sm, m, rfl, by walk_at "tr", by walk_at "tr", vl, vx, by walk_at "tr", by walk_at "tr", zt0, zb0, zx1, zx2, fun G21 r21 => ?_⟩
    walk_at "w"
    refine iteF ?_
    walk_at "w"
    -- told and value, again and told
    refine ⟨.ref pt, u, d.1, d.2, t2, b2', pd, pm, d, m, rfl, by walk_at "tr", by walk_at "tr", vd, vm, by walk_at "tr", by walk_at "tr", zd3, zd4, zt, zb, fun G22 r22 => ?_⟩
    walk_at "w"
    refine iteF ?_
    walk_at "w"
    refine ⟨x, .ref pt, (oth m c4).2.1, (oth m c4).2.2, d.1, d.2, pm, pd, m, d, rfl, by walk_at "tr", by walk_at "tr", vx, vd, by walk_at "tr", by walk_at "tr", zx1, zx2, zd3, zd4, fun G23 r23 => ?_⟩
    walk_at "w"
    refine iteF ?_
    walk_at "w"
    refine w_ix (i := 15) (xs := [a0, a1, a2, a3, a4, a5, a6, a7, a8, a9, b0', b1, b2, c3, c4, c5, c6].map V.int) (by walk_at "tr") rfl ?_
    walk_at "w"
    refine ⟨c5, pt, u, pd, pm, t2, b2', d, m, 101 * (k + 1), rfl, by walk_at "tr", by walk_at "tr", vm, by walk_at "tr", by walk_at "tr", vd, ht.sm, hb.sm, zd1, zd2, k3, k2, fun l p1 p2 y G24 r24 fl e1 e2 vy zy1 zy2 => ?_⟩
    have gl : Sq K G24 l [.ref p1, .ref p2] := .inl (SqL.of fl)
    walk_at "w"
    refine w_ix (i := 0) gl rfl ?_
    walk_at "w"
    refine w_ix (i := 1) gl rfl ?_
    refine ⟨p1, p2, y.1, y.2, rfl, e1, e2, ?_⟩
    walk_at "w"
    refine iteF ?_
    walk_at "w"
    refine w_ix (i := 0) gl rfl ?_
    walk_at "w"
    refine ⟨.ref p1, y.1, y.2, rfl, .inr ⟨p1, rfl, .inr e1⟩, vy.nb, Sm.mono zy2 k5, fun p G25 _ r25 f25 => ?_⟩
    rw [vy.is] at f25
    walk_at "w"
    refine w_ix (i := 1) (Same.sq r25 gl) rfl ?_
    refine ⟨p, p2, y.1, y.2, rfl, by walk_at "tr", by walk_at "tr", ?_⟩
    walk_at "w"
    refine iteF ?_
    walk_at "w"
    refine w_ix (i := 13) (xs := [a0, a1, a2, a3, a4, a5, a6, a7, a8, a9, b0', b1, b2, c3, c4, c5, c6].map V.int) (by walk_at "tr") rfl ?_
    walk_at "w"
    refine iteD (fun h => ?_) (fun h => iteF ?_)
    · obtain ⟨lu, rfl, hl⟩ := hul h
      walk_at "w"
      have g1 : SqL K G25 lu [.int t2, .int b2'] := by walk_at "tr"
      have g2 : SqL K G25 lp [.int t2, .int b2'] := by walk_at "tr"
      refine w_neD (d := .list [.int t2, .int b2']) (e := .list [.int t2, .int b2']) (.lst g1 (.cons (.int _) (.cons (.int _) .nil))) (.lst g2 (.cons (.int _) (.cons (.int _) .nil))) rfl rfl ?_
      rw [SeqAt.eqv_refl _ rfl]
      walk_at "w"
      refine iteF ?_
      walk_at "w"
      refine w_ix (i := 14) (xs := [a0, a1, a2, a3, a4, a5, a6, a7, a8, a9, b0', b1, b2, c3, c4, c5, c6].map V.int) (by walk_at "tr") rfl ?_
      refine ⟨pm, m, c4, rfl, by walk_at "tr", hm1, hm2, k14.1, k14.2, fun x' G26 r26 hx' => ?_⟩
      have hx0 : OV K G26 x m c4 := by walk_at "tr"
      refine w_neD (d := othD m c4) (e := othD m c4) hx0.dp hx'.dp (othD_shaped m c4).1 (othD_shaped m c4).1 ?_
      rw [SeqAt.eqv_refl _ (othD_shaped m c4).2]
      walk_at "w"
      refine iteF ?_
      walk_at "w"
      refine w_ix (i := 0) (Same.sq r26 (Same.sq r25 gl)) rfl ?_
      walk_at "w"
      refine w_ix (i := 1) (Same.sq r26 (Same.sq r25 gl)) rfl ?_
      walk_at "w"
      exact ⟨by walk_at "tr", p1, p2, y, .ref lu, t2, b2', m, pm, b2', _, _, _, _, _, _, _, rfl, by walk_at "tr", by walk_at "tr", vy, Sm.mono zy1 k6, Sm.mono zy2 k6, by walk_at "tr", vm, ht, hb, by walk_at "tr", hnb, hb⟩
    · walk_at "w"
      refine w_ix (i := 14) (xs := [a0, a1, a2, a3, a4, a5, a6, a7, a8, a9, b0', b1, b2, c3, c4, c5, c6].map V.int) (by walk_at "tr") rfl ?_
      refine ⟨pm, m, c4, rfl, by walk_at "tr", hm1, hm2, k14.1, k14.2, fun x' G26 r26 hx' => ?_⟩
      have hx0 : OV K G26 x m c4 := by walk_at "tr"
      refine w_neD (d := othD m c4) (e := othD m c4) hx0.dp hx'.dp (othD_shaped m c4).1 (othD_shaped m c4).1 ?_
      rw [SeqAt.eqv_refl _ (othD_shaped m c4).2]
      walk_at "w"
      refine iteF ?_
      walk_at "w"
      refine w_ix (i := 0) (Same.sq r26 (Same.sq r25 gl)) rfl ?_
      walk_at "w"
      refine w_ix (i := 1) (Same.sq r26 (Same.sq r25 gl)) rfl ?_
      walk_at "w"
      exact ⟨by walk_at "tr", p1, p2, y, u, t2, b2', m, pm, b2', _, _, _, _, _, _, _, rfl, by walk_at "tr", by walk_at "tr", vy, Sm.mono zy1 k6, Sm.mono zy2 k6, by walk_at "tr", vm, ht, hb, by walk_at "tr", hnb, hb⟩
  · rintro σ' H' ⟨sH, pt, pd, d, v, t, b, sm, ps, bot, o7, o8, o9, o10, o11, o12, o13, rfl, I⟩
    walk_at "w"
    exact q _
end JP
set_option Elab.async false
set_option linter.all false
set_option maxRecDepth 100000
set_option maxHeartbeats 16000000
namespace JP
open PySem PySem.Spec PyProof.Rows L2 L2H
def fn : List He.DefD := [
  ⟨("ratio", none), "ratio", "ratio", defArgs (top 34), defBody (top 34), defScope (top 34), [], []⟩,
  ⟨("parts_of", none), "parts_of", "parts_of", defArgs (top 35), defBody (top 35), defScope (top 35), [], []⟩,
  ⟨("fraction", none), "fraction", "fraction", defArgs (top 36), defBody (top 36), defScope (top 36), [], []⟩,
  ⟨("plus", none), "plus", "plus", defArgs (top 37), defBody (top 37), defScope (top 37), [], []⟩,
  ⟨("times", none), "times", "times", defArgs (top 38), defBody (top 38), defScope (top 38), [], []⟩,
  ⟨("over", none), "over", "over", defArgs (top 39), defBody (top 39), defScope (top 39), [], []⟩,
  ⟨("_law_whole", none), "_law_whole", "_law_whole", defArgs (top 41), defBody (top 41), defScope (top 41), [], []⟩,
  ⟨("_law_cell", none), "_law_cell", "_law_cell", defArgs (top 42), defBody (top 42), defScope (top 42), [], []⟩,
  ⟨("_law_digits", none), "_law_digits", "_law_digits", defArgs (top 43), defBody (top 43), defScope (top 43), [], []⟩,
  ⟨("_law_gcd", none), "_law_gcd", "_law_gcd", defArgs (top 44), defBody (top 44), defScope (top 44), [], []⟩,
  ⟨("_law_frac", none), "_law_frac", "_law_frac", defArgs (top 45), defBody (top 45), defScope (top 45), [], []⟩,
  ⟨("_law_is", none), "_law_is", "_law_is", defArgs (top 46), defBody (top 46), defScope (top 46), [], []⟩,
  ⟨("_law_number", none), "_law_number", "_law_number", defArgs (top 47), defBody (top 47), defScope (top 47), [], []⟩,
  ⟨("_law_pair", none), "_law_pair", "_law_pair", defArgs (top 48), defBody (top 48), defScope (top 48), [], []⟩,
  ⟨("_law_passed", none), "_law_passed", "_law_passed", defArgs (top 49), defBody (top 49), defScope (top 49), [], []⟩,
  ⟨("_law_other_pair", none), "_law_other_pair", "_law_other_pair", defArgs (top 50), defBody (top 50), defScope (top 50), [], []⟩,
  ⟨("_law_another", none), "_law_another", "_law_another", defArgs (top 51), defBody (top 51), defScope (top 51), [], []⟩,
  ⟨("_law_refused", none), "_law_refused", "_law_refused", defArgs (top 52), defBody (top 52), defScope (top 52), [], []⟩,
  ⟨("_law_right", none), "_law_right", "_law_right", defArgs (top 53), defBody (top 53), defScope (top 53), [], []⟩,
  ⟨("_law_next", none), "_law_next", "_law_next", defArgs (top 54), defBody (top 54), defScope (top 54), [], []⟩,
  ⟨("law", none), "law", "law", defArgs (top 55), defBody (top 55), defScope (top 55), [], []⟩]
def fa : List JPH.Fk := [
  fun K => (He.Fa.glo "ratio").ok K,
  fun K => (He.Fa.glo "parts_of").ok K,
  fun K => (He.Fa.glo "fraction").ok K,
  fun K => (He.Fa.glo "plus").ok K,
  fun K => (He.Fa.glo "times").ok K,
  fun K => (He.Fa.glo "over").ok K,
  fun K => (He.Fa.glo "_law_whole").ok K,
  fun K => (He.Fa.glo "_law_cell").ok K,
  fun K => (He.Fa.glo "_law_digits").ok K,
  fun K => (He.Fa.glo "_law_gcd").ok K,
  fun K => (He.Fa.glo "_law_frac").ok K,
  fun K => (He.Fa.glo "_law_is").ok K,
  fun K => (He.Fa.glo "_law_number").ok K,
  fun K => (He.Fa.glo "_law_pair").ok K,
  fun K => (He.Fa.glo "_law_passed").ok K,
  fun K => (He.Fa.glo "_law_other_pair").ok K,
  fun K => (He.Fa.glo "_law_another").ok K,
  fun K => (He.Fa.glo "_law_refused").ok K,
  fun K => (He.Fa.glo "_law_right").ok K,
  fun K => (He.Fa.glo "_law_next").ok K,
  fun K => (He.Fa.glo "law").ok K,
  fun K => (He.Fa.glo "RowError").ok K,
  fun K => (He.Fa.glo "NoQuotient").ok K,
  fun K => (He.Fa.glo "ZeroPolynomial").ok K,
  fun K => (He.Fa.glo "ZeroSum").ok K,
  fun K => (He.Fa.glo "NoRows").ok K,
  fun K => (He.Fa.glo "BadName").ok K,
  fun K => (He.Fa.glo "RowTwice").ok K,
  fun K => (He.Fa.glo "UnknownRow").ok K,
  fun K => (He.Fa.glo "RowsDiffer").ok K,
  fun K => (He.Fa.glo "SpotTwice").ok K,
  fun K => (He.Fa.glo "BadStretch").ok K,
  fun K => (He.Fa.glo "ShortStretch").ok K,
  fun K => (He.Fa.glo "TooLong").ok K,
  fun K => (He.Fa.glo "CannotStand").ok K,
  fun K => (He.Fa.glo "Broken").ok K,
  fun K => (He.Fa.glo "NotFinite").ok K,
  fun K => (He.Fa.glo "BadParts").ok K,
  fun K => (He.Fa.glo "Barred").ok K,
  fun K => (He.Fa.glo "NotCourse").ok K,
  fun K => (He.Fa.glo "BreaksOwnRule").ok K,
  fun K => (He.Fa.glo "NotBlocked").ok K,
  fun K => (He.Fa.glo "Unsure").ok K,
  fun K => (He.Fa.glo "Contradiction").ok K,
  fun K => (He.Fa.glo "NotStricter").ok K,
  fun K => (He.Fa.glo "NoFamilies").ok K,
  fun K => (He.Fa.glo "NotLet").ok K,
  fun K => (He.Fa.glo "NotFree").ok K,
  fun K => (He.Fa.glo "NotTimely").ok K,
  fun K => (He.Fa.glo "NotEntered").ok K,
  fun K => (He.Fa.glo "NothingToUndo").ok K,
  fun K => (He.Fa.glo "BadNotation").ok K,
  fun K => decide (PySem.W.nsIn K mainGlobals "gcd" = some (some (.builtin "math.gcd"))),
  fun K => (He.Fa.free "ValueError").ok K,
  fun K => (He.Fa.free "abs").ok K,
  fun K => (He.Fa.free "bool").ok K,
  fun K => (He.Fa.free "int").ok K,
  fun K => (He.Fa.free "isinstance").ok K,
  fun K => (He.Fa.free "len").ok K,
  fun K => (He.Fa.free "list").ok K,
  fun K => (He.Fa.free "range").ok K,
  fun K => (He.Fa.free "tuple").ok K,
  fun K => (He.Fa.exc "NoQuotient").ok K,
  fun K => xcB K (He.ga K "NoQuotient"),
  fun K => decide (PySem.W.kitOne K (.ref (He.ga K "NoQuotient")) (.ref (He.ga K "RowError")) = some true),
  fun K => decide (PySem.W.kitOne K (.ref (He.ga K "NoQuotient")) (.type "ValueError") = some true),
  fun K => decide (PySem.W.kitOne K (.ref (He.ga K "NoQuotient")) (.ref (He.ga K "NoQuotient")) = some true),
  fun K => decide (PySem.W.kitAny K (.ref (He.ga K "NoQuotient")) [.ref (He.ga K "BadName"), .ref (He.ga K "BadNotation"), .ref (He.ga K "BadParts"), .ref (He.ga K "BadStretch"), .ref (He.ga K "Barred"), .ref (He.ga K "BreaksOwnRule"), .ref (He.ga K "Broken"), .ref (He.ga K "CannotStand"), .ref (He.ga K "Contradiction"), .ref (He.ga K "NoFamilies"), .ref (He.ga K "NoRows"), .ref (He.ga K "NotBlocked"), .ref (He.ga K "NotCourse"), .ref (He.ga K "NotEntered"), .ref (He.ga K "NotFinite"), .ref (He.ga K "NotFree"), .ref (He.ga K "NotLet"), .ref (He.ga K "NotStricter"), .ref (He.ga K "NotTimely"), .ref (He.ga K "NothingToUndo"), .ref (He.ga K "RowTwice"), .ref (He.ga K "RowsDiffer"), .ref (He.ga K "ShortStretch"), .ref (He.ga K "SpotTwice"), .ref (He.ga K "TooLong"), .ref (He.ga K "UnknownRow"), .ref (He.ga K "Unsure"), .ref (He.ga K "ZeroPolynomial"), .ref (He.ga K "ZeroSum")] = some false),
  fun K => decide (PySem.W.exmOne K (.ref (He.ga K "NoQuotient")) (.ref (He.ga K "NoQuotient")) = some true),
  fun K => decide (PySem.W.exmOne K (.ref (He.ga K "NoQuotient")) (.ref (He.ga K "RowError")) = some true)]
abbrev R : PySem.W.OpenRow := PySem.W.OpenLaw.row PySem.Challenge.rw_joinpast_k00_fractions
abbrev hk : PySem.W.Hook := JPH.hookF 4 fa fn
def loose : List PySem.Str := (["RowError", "NoQuotient", "ZeroPolynomial", "ZeroSum", "NoRows", "BadName", "RowTwice", "UnknownRow", "RowsDiffer", "SpotTwice", "BadStretch", "ShortStretch", "TooLong", "CannotStand", "Broken", "NotFinite", "BadParts", "Barred", "NotCourse", "BreaksOwnRule", "NotBlocked", "Unsure", "Contradiction", "NotStricter", "NoFamilies", "NotLet", "NotFree", "NotTimely", "NotEntered", "NothingToUndo"] : List PySem.Str) ++ (["BadNotation", "ratio", "parts_of", "fraction", "plus", "times", "over", "_law_whole", "_law_cell", "_law_digits", "_law_gcd", "_law_frac", "_law_is", "_law_number", "_law_pair", "_law_passed", "_law_other_pair", "_law_another", "_law_refused", "_law_right", "_law_next"] : List PySem.Str)
def ob (s : PySem.W.SharedT) : He.AlD := JPH.obsFG 4 fa fn (HandSHeadRun.getT s)
theorem ob_eq (s : PySem.W.SharedT) : ob s = hk.obs s.abs := JPH.obsFG_eq (HandSHeadRun.getT_eq s)
theorem run (w : World) : HandSHeadRun.RunEqI R (PySem.W.view R.prog [0, 55]) hk ob 20000 loose w := by
  unfold HandSHeadRun.RunEqI
  kernel_rfl
theorem tx_of {K : PySem.W.Frag} {h : Heap} {mg : Str → Option Value} (X : K.In h) (G : h.Ns mainGlobals mg) (c : JPH.SaysF fa fn K) : Tx K mg :=
  { at_ratio := ⟨c.def_ 0 (d := ⟨("ratio", none), "ratio", "ratio", defArgs (top 34), defBody (top 34), defScope (top 34), [], []⟩) rfl, He.glo_ok X G (c.fact 0 (f := fun K => (He.Fa.glo "ratio").ok K) rfl)⟩,
    at_parts_of := ⟨c.def_ 1 (d := ⟨("parts_of", none), "parts_of", "parts_of", defArgs (top 35), defBody (top 35), defScope (top 35), [], []⟩) rfl, He.glo_ok X G (c.fact 1 (f := fun K => (He.Fa.glo "parts_of").ok K) rfl)⟩,
    at_fraction := ⟨c.def_ 2 (d := ⟨("fraction", none), "fraction", "fraction", defArgs (top 36), defBody (top 36), defScope (top 36), [], []⟩) rfl, He.glo_ok X G (c.fact 2 (f := fun K => (He.Fa.glo "fraction").ok K) rfl)⟩,
    at_plus := ⟨c.def_ 3 (d := ⟨("plus", none), "plus", "plus", defArgs (top 37), defBody (top 37), defScope (top 37), [], []⟩) rfl, He.glo_ok X G (c.fact 3 (f := fun K => (He.Fa.glo "plus").ok K) rfl)⟩,
    at_times := ⟨c.def_ 4 (d := ⟨("times", none), "times", "times", defArgs (top 38), defBody (top 38), defScope (top 38), [], []⟩) rfl, He.glo_ok X G (c.fact 4 (f := fun K => (He.Fa.glo "times").ok K) rfl)⟩,
    at_over := ⟨c.def_ 5 (d := ⟨("over", none), "over", "over", defArgs (top 39), defBody (top 39), defScope (top 39), [], []⟩) rfl, He.glo_ok X G (c.fact 5 (f := fun K => (He.Fa.glo "over").ok K) rfl)⟩,
    at__law_whole := ⟨c.def_ 6 (d := ⟨("_law_whole", none), "_law_whole", "_law_whole", defArgs (top 41), defBody (top 41), defScope (top 41), [], []⟩) rfl, He.glo_ok X G (c.fact 6 (f := fun K => (He.Fa.glo "_law_whole").ok K) rfl)⟩,
    at__law_cell := ⟨c.def_ 7 (d := ⟨("_law_cell", none), "_law_cell", "_law_cell", defArgs (top 42), defBody (top 42), defScope (top 42), [], []⟩) rfl, He.glo_ok X G (c.fact 7 (f := fun K => (He.Fa.glo "_law_cell").ok K) rfl)⟩,
    at__law_digits := ⟨c.def_ 8 (d := ⟨("_law_digits", none), "_law_digits", "_law_digits", defArgs (top 43), defBody (top 43), defScope (top 43), [], []⟩) rfl, He.glo_ok X G (c.fact 8 (f := fun K => (He.Fa.glo "_law_digits").ok K) rfl)⟩,
    at__law_gcd := ⟨c.def_ 9 (d := ⟨("_law_gcd", none), "_law_gcd", "_law_gcd", defArgs (top 44), defBody (top 44), defScope (top 44), [], []⟩) rfl, He.glo_ok X G (c.fact 9 (f := fun K => (He.Fa.glo "_law_gcd").ok K) rfl)⟩,
    at__law_frac := ⟨c.def_ 10 (d := ⟨("_law_frac", none), "_law_frac", "_law_frac", defArgs (top 45), defBody (top 45), defScope (top 45), [], []⟩) rfl, He.glo_ok X G (c.fact 10 (f := fun K => (He.Fa.glo "_law_frac").ok K) rfl)⟩,
    at__law_is := ⟨c.def_ 11 (d := ⟨("_law_is", none), "_law_is", "_law_is", defArgs (top 46), defBody (top 46), defScope (top 46), [], []⟩) rfl, He.glo_ok X G (c.fact 11 (f := fun K => (He.Fa.glo "_law_is").ok K) rfl)⟩,
    at__law_number := ⟨c.def_ 12 (d := ⟨("_law_number", none), "_law_number", "_law_number", defArgs (top 47), defBody (top 47), defScope (top 47), [], []⟩) rfl, He.glo_ok X G (c.fact 12 (f := fun K => (He.Fa.glo "_law_number").ok K) rfl)⟩,
    at__law_pair := ⟨c.def_ 13 (d := ⟨("_law_pair", none), "_law_pair", "_law_pair", defArgs (top 48), defBody (top 48), defScope (top 48), [], []⟩) rfl, He.glo_ok X G (c.fact 13 (f := fun K => (He.Fa.glo "_law_pair").ok K) rfl)⟩,
    at__law_passed := ⟨c.def_ 14 (d := ⟨("_law_passed", none), "_law_passed", "_law_passed", defArgs (top 49), defBody (top 49), defScope (top 49), [], []⟩) rfl, He.glo_ok X G (c.fact 14 (f := fun K => (He.Fa.glo "_law_passed").ok K) rfl)⟩,
    at__law_other_pair := ⟨c.def_ 15 (d := ⟨("_law_other_pair", none), "_law_other_pair", "_law_other_pair", defArgs (top 50), defBody (top 50), defScope (top 50), [], []⟩) rfl, He.glo_ok X G (c.fact 15 (f := fun K => (He.Fa.glo "_law_other_pair").ok K) rfl)⟩,
    at__law_another := ⟨c.def_ 16 (d := ⟨("_law_another", none), "_law_another", "_law_another", defArgs (top 51), defBody (top 51), defScope (top 51), [], []⟩) rfl, He.glo_ok X G (c.fact 16 (f := fun K => (He.Fa.glo "_law_another").ok K) rfl)⟩,
    at__law_refused := ⟨c.def_ 17 (d := ⟨("_law_refused", none), "_law_refused", "_law_refused", defArgs (top 52), defBody (top 52), defScope (top 52), [], []⟩) rfl, He.glo_ok X G (c.fact 17 (f := fun K => (He.Fa.glo "_law_refused").ok K) rfl)⟩,
    at__law_right := ⟨c.def_ 18 (d := ⟨("_law_right", none), "_law_right", "_law_right", defArgs (top 53), defBody (top 53), defScope (top 53), [], []⟩) rfl, He.glo_ok X G (c.fact 18 (f := fun K => (He.Fa.glo "_law_right").ok K) rfl)⟩,
    at__law_next := ⟨c.def_ 19 (d := ⟨("_law_next", none), "_law_next", "_law_next", defArgs (top 54), defBody (top 54), defScope (top 54), [], []⟩) rfl, He.glo_ok X G (c.fact 19 (f := fun K => (He.Fa.glo "_law_next").ok K) rfl)⟩,
    at_law := ⟨c.def_ 20 (d := ⟨("law", none), "law", "law", defArgs (top 55), defBody (top 55), defScope (top 55), [], []⟩) rfl, He.glo_ok X G (c.fact 20 (f := fun K => (He.Fa.glo "law").ok K) rfl)⟩,
    g_RowError := He.glo_ok X G (c.fact 21 (f := fun K => (He.Fa.glo "RowError").ok K) rfl),
    g_NoQuotient := He.glo_ok X G (c.fact 22 (f := fun K => (He.Fa.glo "NoQuotient").ok K) rfl),
    g_ZeroPolynomial := He.glo_ok X G (c.fact 23 (f := fun K => (He.Fa.glo "ZeroPolynomial").ok K) rfl),
    g_ZeroSum := He.glo_ok X G (c.fact 24 (f := fun K => (He.Fa.glo "ZeroSum").ok K) rfl),
    g_NoRows := He.glo_ok X G (c.fact 25 (f := fun K => (He.Fa.glo "NoRows").ok K) rfl),
    g_BadName := He.glo_ok X G (c.fact 26 (f := fun K => (He.Fa.glo "BadName").ok K) rfl),
    g_RowTwice := He.glo_ok X G (c.fact 27 (f := fun K => (He.Fa.glo "RowTwice").ok K) rfl),
    g_UnknownRow := He.glo_ok X G (c.fact 28 (f := fun K => (He.Fa.glo "UnknownRow").ok K) rfl),
    g_RowsDiffer := He.glo_ok X G (c.fact 29 (f := fun K => (He.Fa.glo "RowsDiffer").ok K) rfl),
    g_SpotTwice := He.glo_ok X G (c.fact 30 (f := fun K => (He.Fa.glo "SpotTwice").ok K) rfl),
    g_BadStretch := He.glo_ok X G (c.fact 31 (f := fun K => (He.Fa.glo "BadStretch").ok K) rfl),
    g_ShortStretch := He.glo_ok X G (c.fact 32 (f := fun K => (He.Fa.glo "ShortStretch").ok K) rfl),
    g_TooLong := He.glo_ok X G (c.fact 33 (f := fun K => (He.Fa.glo "TooLong").ok K) rfl),
    g_CannotStand := He.glo_ok X G (c.fact 34 (f := fun K => (He.Fa.glo "CannotStand").ok K) rfl),
    g_Broken := He.glo_ok X G (c.fact 35 (f := fun K => (He.Fa.glo "Broken").ok K) rfl),
    g_NotFinite := He.glo_ok X G (c.fact 36 (f := fun K => (He.Fa.glo "NotFinite").ok K) rfl),
    g_BadParts := He.glo_ok X G (c.fact 37 (f := fun K => (He.Fa.glo "BadParts").ok K) rfl),
    g_Barred := He.glo_ok X G (c.fact 38 (f := fun K => (He.Fa.glo "Barred").ok K) rfl),
    g_NotCourse := He.glo_ok X G (c.fact 39 (f := fun K => (He.Fa.glo "NotCourse").ok K) rfl),
    g_BreaksOwnRule := He.glo_ok X G (c.fact 40 (f := fun K => (He.Fa.glo "BreaksOwnRule").ok K) rfl),
    g_NotBlocked := He.glo_ok X G (c.fact 41 (f := fun K => (He.Fa.glo "NotBlocked").ok K) rfl),
    g_Unsure := He.glo_ok X G (c.fact 42 (f := fun K => (He.Fa.glo "Unsure").ok K) rfl),
    g_Contradiction := He.glo_ok X G (c.fact 43 (f := fun K => (He.Fa.glo "Contradiction").ok K) rfl),
    g_NotStricter := He.glo_ok X G (c.fact 44 (f := fun K => (He.Fa.glo "NotStricter").ok K) rfl),
    g_NoFamilies := He.glo_ok X G (c.fact 45 (f := fun K => (He.Fa.glo "NoFamilies").ok K) rfl),
    g_NotLet := He.glo_ok X G (c.fact 46 (f := fun K => (He.Fa.glo "NotLet").ok K) rfl),
    g_NotFree := He.glo_ok X G (c.fact 47 (f := fun K => (He.Fa.glo "NotFree").ok K) rfl),
    g_NotTimely := He.glo_ok X G (c.fact 48 (f := fun K => (He.Fa.glo "NotTimely").ok K) rfl),
    g_NotEntered := He.glo_ok X G (c.fact 49 (f := fun K => (He.Fa.glo "NotEntered").ok K) rfl),
    g_NothingToUndo := He.glo_ok X G (c.fact 50 (f := fun K => (He.Fa.glo "NothingToUndo").ok K) rfl),
    g_BadNotation := He.glo_ok X G (c.fact 51 (f := fun K => (He.Fa.glo "BadNotation").ok K) rfl),
    i_gcd := PySem.W.mg_of X G (of_decide_eq_true (c.fact 52 (f := fun K => decide (PySem.W.nsIn K mainGlobals "gcd" = some (some (.builtin "math.gcd")))) rfl)),
    n_ValueError := He.free_ok X G (c.fact 53 (f := fun K => (He.Fa.free "ValueError").ok K) rfl),
    n_abs := He.free_ok X G (c.fact 54 (f := fun K => (He.Fa.free "abs").ok K) rfl),
    n_bool := He.free_ok X G (c.fact 55 (f := fun K => (He.Fa.free "bool").ok K) rfl),
    n_int := He.free_ok X G (c.fact 56 (f := fun K => (He.Fa.free "int").ok K) rfl),
    n_isinstance := He.free_ok X G (c.fact 57 (f := fun K => (He.Fa.free "isinstance").ok K) rfl),
    n_len := He.free_ok X G (c.fact 58 (f := fun K => (He.Fa.free "len").ok K) rfl),
    n_list := He.free_ok X G (c.fact 59 (f := fun K => (He.Fa.free "list").ok K) rfl),
    n_range := He.free_ok X G (c.fact 60 (f := fun K => (He.Fa.free "range").ok K) rfl),
    n_tuple := He.free_ok X G (c.fact 61 (f := fun K => (He.Fa.free "tuple").ok K) rfl),
    x_NoQuotient := He.exc_ok (c.fact 62 (f := fun K => (He.Fa.exc "NoQuotient").ok K) rfl),
    xc_NoQuotient := xcB_ok (c.fact 63 (f := fun K => xcB K (He.ga K "NoQuotient")) rfl),
    ko_RowError := of_decide_eq_true (c.fact 64 (f := fun K => decide (PySem.W.kitOne K (.ref (He.ga K "NoQuotient")) (.ref (He.ga K "RowError")) = some true)) rfl),
    ko_ValueError := of_decide_eq_true (c.fact 65 (f := fun K => decide (PySem.W.kitOne K (.ref (He.ga K "NoQuotient")) (.type "ValueError") = some true)) rfl),
    ko_self := of_decide_eq_true (c.fact 66 (f := fun K => decide (PySem.W.kitOne K (.ref (He.ga K "NoQuotient")) (.ref (He.ga K "NoQuotient")) = some true)) rfl),
    ka_other := of_decide_eq_true (c.fact 67 (f := fun K => decide (PySem.W.kitAny K (.ref (He.ga K "NoQuotient")) [.ref (He.ga K "BadName"), .ref (He.ga K "BadNotation"), .ref (He.ga K "BadParts"), .ref (He.ga K "BadStretch"), .ref (He.ga K "Barred"), .ref (He.ga K "BreaksOwnRule"), .ref (He.ga K "Broken"), .ref (He.ga K "CannotStand"), .ref (He.ga K "Contradiction"), .ref (He.ga K "NoFamilies"), .ref (He.ga K "NoRows"), .ref (He.ga K "NotBlocked"), .ref (He.ga K "NotCourse"), .ref (He.ga K "NotEntered"), .ref (He.ga K "NotFinite"), .ref (He.ga K "NotFree"), .ref (He.ga K "NotLet"), .ref (He.ga K "NotStricter"), .ref (He.ga K "NotTimely"), .ref (He.ga K "NothingToUndo"), .ref (He.ga K "RowTwice"), .ref (He.ga K "RowsDiffer"), .ref (He.ga K "ShortStretch"), .ref (He.ga K "SpotTwice"), .ref (He.ga K "TooLong"), .ref (He.ga K "UnknownRow"), .ref (He.ga K "Unsure"), .ref (He.ga K "ZeroPolynomial"), .ref (He.ga K "ZeroSum")] = some false)) rfl),
    em_self := of_decide_eq_true (c.fact 68 (f := fun K => decide (PySem.W.exmOne K (.ref (He.ga K "NoQuotient")) (.ref (He.ga K "NoQuotient")) = some true)) rfl),
    em_RowError := of_decide_eq_true (c.fact 69 (f := fun K => decide (PySem.W.exmOne K (.ref (He.ga K "NoQuotient")) (.ref (He.ga K "RowError")) = some true)) rfl) }
theorem facts {P : Program} {w : World} {K : PySem.W.Frag} {h : Heap} {mg : Str → Option Value} {f : Addr} (X : K.In h) (G : h.Ns mainGlobals mg) (hfa : mg ("law" : Str) = some (.ref f)) (c : JPH.SaysF fa fn K) :
    ∃ fd : FuncData, (∀ (s : Shared) (v : Value), BindsTo s fd ⟨[v], []⟩ [("script", v)]) ∧ ∀ base : Heap, K.In base → base.Ns mainGlobals mg → FnOk P w K mg base CX0 5 f fd ["script"] (sp_law K) := by
  have T : Tx K mg := tx_of X G c
  obtain ⟨fd, F⟩ := T.at_law.ex
  have e := hfa.symm.trans T.at_law.gl
  cases e
  have b := FunD.bindsA (ps := ["script"]) F fun _ _ _ _ _ _ us hl => match us, hl with | [_], _ => rfl
  exact ⟨fd, fun s v => b s [v] rfl, fun base _ _ => (d_law T).quiet T.at_law.gl F fun _ _ _ _ h => h⟩
end JP
open PySem PySem.W PySem.Calls PyProof.Rows
set_option maxRecDepth 100000 in
set_option maxHeartbeats 0 in
theorem PySem.Challenge.cw_joinpast_k00_fractions_holds : PySem.Challenge.rw_joinpast_k00_fractions.Holds := by
  w_on; o_law
  refine HandSHeadRun.head_imp (r := OpenLaw.row PySem.Challenge.rw_joinpast_k00_fractions) (q := view (OpenLaw.row PySem.Challenge.rw_joinpast_k00_fractions).prog [0, 55]) (H := JP.hk) (ob := JP.ob) (M := 20000) (loose := JP.loose) (d := HandSHeadRun.topDef (OpenLaw.row PySem.Challenge.rw_joinpast_k00_fractions).prog 55) (kwd := []) JP.ob_eq
    JP.run (by kernel_rfl) (by kernel_rfl) (by kernel_rfl) (by rfl) (by first | assumption | decide +kernel) (by decide +kernel) ⟨rfl, rfl, rfl, rfl, rfl, by decide +kernel⟩ ?hw ?hc
  case hw => w_witness2
  case hc =>
    refine L2.walk_ofE (l := PySem.Challenge.rw_joinpast_k00_fractions) (n := 63) (k := 5) (x := "script") (CX := L2.CX0) rfl (by decide) (by kernel_rfl) ⟨rfl, by decide, by decide⟩ ?F (fun _ _ _ _ z => z)
    intro w mg fa h Y G hmg0
    obtain ⟨K, KX, c⟩ := Y
    have hmg : mg ("law" : PySem.Str) = some (.ref fa) := by
      have e : (HandSHeadRun.topDef (OpenLaw.row PySem.Challenge.rw_joinpast_k00_fractions).prog 55).name = ("law" : PySem.Str) := by kernel_rfl
      rw [← e]
      exact hmg0
    obtain ⟨fd, hb, hF⟩ := JP.facts (P := (PySem.Challenge.rw_joinpast_k00_fractions).prog) (w := w) KX G hmg c
    exact ⟨K, fd, JP.sp_law K, KX, hb, fun H a ns hl _ hS => ⟨a, ns, rfl, hS, hl, fun _ => rfl⟩, hF⟩
