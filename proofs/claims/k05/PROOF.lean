import PyProof.Rows.All
import Wide.All
import OpenK.AllK
import Wide.FinOn
import HandS.ForMost
import HandS.Deep
import HandS.IsInst
import HandS.Style
import HandS.Walk
import HandS.More
import HandS.Evl
import HandS.Wide
import HandS.EndBits
import KE.DataMinMax
import KE.RegKIsAll
import HandS.New0
import HandS.Exc
import HandS.ExcOwn
import HandS.ExcCtx
import HandS.HotCalls
import HandS.ExcIs
import HandS.WordsExc
import HandS.CallLocal
import HandS.TupSets
import HandS.Conv
import PySem.Challenge.RW_pairbase_k05_refused
set_option maxHeartbeats 4000000
set_option linter.all false
/-! ## The mathematics: pairs, bases, steps -/
namespace M
abbrev P2 := Int × Int
def sz (b : P2) : Int := b.1 * b.1 + b.2 * b.2
def mul (p q : P2) : P2 := (p.1 * q.1 - p.2 * q.2, p.1 * q.2 + p.2 * q.1)
/-- a base -/
structure IsB (b : P2) : Prop where
  lo1 : -30 ≤ b.1
  hi1 : b.1 ≤ 30
  lo2 : -30 ≤ b.2
  hi2 : b.2 ≤ 30
  co : Int.gcd b.1 b.2 = 1
  two : 2 ≤ sz b
theorem sq_nn (x : Int) : 0 ≤ x * x := by
  rcases Int.le_total 0 x with h | h
  · exact Int.mul_nonneg h h
  · have := Int.mul_nonneg (show 0 ≤ -x by omega) (show 0 ≤ -x by omega)
    rw [Int.neg_mul_neg] at this
    exact this
theorem sq_le {x : Int} {n : Int} (h1 : -n ≤ x) (h2 : x ≤ n) : x * x ≤ n * n := by
  have h := Int.mul_nonneg (show 0 ≤ n - x by omega) (show 0 ≤ n + x by omega)
  have e : (n - x) * (n + x) = n * n - x * x := by grind
  omega
theorem IsB.sz_le {b : P2} (h : IsB b) : sz b ≤ 1800 := by
  have h1 := sq_le h.lo1 h.hi1
  have h2 := sq_le h.lo2 h.hi2
  unfold sz
  omega
theorem IsB.pos {b : P2} (h : IsB b) : 0 < sz b := by have := h.two; omega
/-- no divisor but 1 of the second number and the size -/
theorem IsB.coN {b : P2} (h : IsB b) {d : Int} (h1 : d ∣ b.2) (h2 : d ∣ sz b) : d ∣ 1 := by
  have h3 : d ∣ b.1 * b.1 := by
    have := Int.dvd_sub h2 (show d ∣ b.2 * b.2 from Int.dvd_mul_of_dvd_left h1)
    have e : sz b - b.2 * b.2 = b.1 * b.1 := by unfold sz; omega
    rw [e] at this
    exact this
  have c : Nat.Coprime d.natAbs b.1.natAbs := by
    have g1 : Nat.gcd d.natAbs b.1.natAbs ∣ Nat.gcd b.1.natAbs b.2.natAbs := Nat.dvd_gcd (Nat.gcd_dvd_right _ _) (Nat.dvd_trans (Nat.gcd_dvd_left _ _) (Int.natAbs_dvd_natAbs.mpr h1))
    have g2 : Nat.gcd b.1.natAbs b.2.natAbs = 1 := h.co
    rw [g2] at g1
    exact Nat.dvd_one.mp g1
  have h4 : d.natAbs ∣ b.1.natAbs * b.1.natAbs := by
    rw [← Int.natAbs_mul]
    exact Int.natAbs_dvd_natAbs.mpr h3
  have h5 : d.natAbs ∣ b.1.natAbs := c.dvd_of_dvd_mul_left h4
  have h6 : d.natAbs ∣ 1 := by
    have g2 : Nat.gcd b.1.natAbs b.2.natAbs = 1 := h.co
    rw [← g2]
    exact Nat.dvd_gcd h5 (Int.natAbs_dvd_natAbs.mpr h1)
  exact Int.natAbs_dvd.mp (Int.ofNat_dvd.mpr h6)
/-- w is the weight of b -/
structure Wt (b : P2) (w : Int) : Prop where
  lo : 0 ≤ w
  hi : w < sz b
  dv : sz b ∣ w * b.2 + b.1
/-- a multiple of the size, the second number out -/
theorem IsB.cancel {b : P2} (h : IsB b) {x : Int} (d : sz b ∣ b.2 * x) : sz b ∣ x := by
  have c : Nat.Coprime (sz b).natAbs b.2.natAbs := by
    have g := h.coN (d := ((Nat.gcd (sz b).natAbs b.2.natAbs : Nat) : Int)) (Int.dvd_natAbs.mp (Int.ofNat_dvd.mpr (Nat.gcd_dvd_right _ _))) (Int.dvd_natAbs.mp (Int.ofNat_dvd.mpr (Nat.gcd_dvd_left _ _)))
    exact Nat.dvd_one.mp (Int.ofNat_dvd.mp g)
  have h4 : (sz b).natAbs ∣ b.2.natAbs * x.natAbs := by
    rw [← Int.natAbs_mul]
    exact Int.natAbs_dvd_natAbs.mpr d
  exact Int.natAbs_dvd_natAbs.mp (c.dvd_of_dvd_mul_left h4)
theorem Wt.one {b : P2} (h : IsB b) {w v : Int} (a : Wt b w) (c : Wt b v) : w = v := by
  have d : sz b ∣ b.2 * (w - v) := by
    have e : b.2 * (w - v) = (w * b.2 + b.1) - (v * b.2 + b.1) := by grind
    rw [e]
    exact Int.dvd_sub a.dv c.dv
  have d2 := h.cancel d
  have e1 := Int.emod_emod_of_dvd (w - v) d2
  have q := Int.emod_eq_zero_of_dvd d2
  have l1 := a.lo
  have l2 := a.hi
  have l3 := c.lo
  have l4 := c.hi
  rcases Int.lt_trichotomy w v with z | z | z
  · have r : (w - v + sz b) % sz b = 0 := by rw [Int.add_emod_right]; exact q
    rw [Int.emod_eq_of_lt (by omega) (by omega)] at r
    omega
  · exact z
  · rw [Int.emod_eq_of_lt (by omega) (by omega)] at q
    omega
/-- what the loops reckon: so often the second number leaves one -/
theorem Wt.of_inv {b : P2} (h : IsB b) {m : Int} (d : sz b ∣ m * b.2 - 1) : Wt b (-b.1 * m % sz b) := by
  have p := h.pos
  refine ⟨Int.emod_nonneg _ (by omega), Int.emod_lt_of_pos _ p, ?_⟩
  obtain ⟨k, hk⟩ := d
  have e := Int.emod_def (-b.1 * m) (sz b)
  refine ⟨-b.1 * k - (-b.1 * m / sz b) * b.2, ?_⟩
  rw [e]
  grind
/-- the weight, by search (for the definition alone) -/
@[irreducible] def wt (b : P2) : Int := (((List.range (sz b).toNat).find? fun (n : Nat) => decide (((n : Int) * b.2 + b.1) % sz b = 0)).getD 0 : Nat)
theorem wt_of {b : P2} (h : IsB b) {w : Int} (a : Wt b w) : wt b = w := by
  have l1 := a.lo
  have l2 := a.hi
  have hw : (w.toNat : Int) = w := Int.toNat_of_nonneg l1
  have hp : decide (((w.toNat : Int) * b.2 + b.1) % sz b = 0) = true := decide_eq_true (by rw [hw]; exact Int.emod_eq_zero_of_dvd a.dv)
  have hm : w.toNat ∈ List.range (sz b).toNat := List.mem_range.mpr (by omega)
  unfold wt
  cases e : (List.range (sz b).toNat).find? fun (n : Nat) => decide (((n : Int) * b.2 + b.1) % sz b = 0) with
  | none => exact absurd hp (by simpa using List.find?_eq_none.mp e _ hm)
  | some n =>
    have q := List.find?_some e
    have m := List.mem_of_find?_eq_some e
    have m2 := List.mem_range.mp m
    have d := Int.dvd_of_emod_eq_zero (of_decide_eq_true q)
    exact Wt.one h ⟨Int.natCast_nonneg n, by show (n : Int) < sz b; omega, d⟩ a
/-! ### the two loops' word: Python's own gcd -/
/-- what holds between the turns of the loop: one, other, mine, theirs -/
structure EgI (b : P2) (one other mine theirs : Int) : Prop where
  lo1 : 0 ≤ one
  lo2 : 0 ≤ other
  hi1 : one ≤ 1800
  hi2 : other ≤ 1800
  m1 : sz b ∣ mine * b.2 - one
  m2 : sz b ∣ theirs * b.2 - other
  co : ∀ d : Int, d ∣ one → d ∣ other → d ∣ 1
theorem EgI.start {b : P2} (h : IsB b) : EgI b (b.2 % sz b) (sz b) 1 0 := by
  have p := h.pos
  have l := h.sz_le
  have h1 := Int.emod_nonneg b.2 (show sz b ≠ 0 by omega)
  have h2 := Int.emod_lt_of_pos b.2 p
  refine ⟨h1, by omega, by omega, l, ?_, ?_, fun d d1 d2 => ?_⟩
  · refine ⟨b.2 / sz b, ?_⟩
    rw [Int.emod_def]
    grind
  · exact ⟨-1, by grind⟩
  · refine h.coN ?_ d2
    have e : b.2 = b.2 % sz b + sz b * (b.2 / sz b) := by rw [Int.emod_def]; omega
    rw [e]
    exact Int.dvd_add d1 (Int.dvd_mul_of_dvd_left d2)
theorem EgI.turn {b : P2} {one other mine theirs : Int} (g : EgI b one other mine theirs) (h : 0 < other) :
    EgI b other (one - one / other * other) theirs (mine - one / other * theirs) ∧ (one - one / other * other).toNat < other.toNat := by
  have e : one - one / other * other = one % other := by rw [Int.emod_def, Int.mul_comm]
  have h1 := Int.emod_nonneg one (show other ≠ 0 by omega)
  have h2 := Int.emod_lt_of_pos one h
  have l := g.hi2
  refine ⟨⟨g.lo2, by omega, g.hi2, by omega, g.m2, ?_, fun d d1 d2 => g.co d ?_ d1⟩, by omega⟩
  · obtain ⟨k1, e1⟩ := g.m1
    obtain ⟨k2, e2⟩ := g.m2
    exact ⟨k1 - one / other * k2, by grind⟩
  · have q : one = (one - one / other * other) + other * (one / other) := by grind
    rw [q]
    exact Int.dvd_add d2 (Int.dvd_mul_of_dvd_left d1)
theorem EgI.done {b : P2} {one mine theirs : Int} {other : Int} (hb : IsB b) (g : EgI b one other mine theirs) (h : ¬ 0 < other) : -b.1 * mine % sz b = wt b ∧ one = 1 := by
  have z : other = 0 := by have := g.lo2; omega
  subst z
  have o := g.co one (Int.dvd_refl _) (Int.dvd_zero _)
  have o1 : one = 1 := by
    have := Int.le_of_dvd (by decide) o
    have l := g.lo1
    rcases Int.lt_or_eq_of_le l with z | z
    · omega
    · rw [← z] at o
      have := Int.zero_dvd.mp o
      omega
  subst o1
  exact ⟨(wt_of hb (Wt.of_inv hb g.m1)).symm, rfl⟩
theorem EgI.done1 {b : P2} {mine theirs : Int} {other : Int} (hb : IsB b) (g : EgI b 1 other mine theirs) : -b.1 * mine % sz b = wt b := (wt_of hb (Wt.of_inv hb g.m1)).symm
/-- there is a weight -/
theorem wt_ex {b : P2} (h : IsB b) : ∃ m : Int, sz b ∣ m * b.2 - 1 := by
  have go : ∀ (n : Nat) (one other mine theirs : Int), other.toNat ≤ n → EgI b one other mine theirs → ∃ m : Int, sz b ∣ m * b.2 - 1 := by
    intro n
    induction n with
    | zero =>
      intro one other mine theirs hn g
      have z : ¬ 0 < other := by omega
      have := (g.done h z).2
      subst this
      exact ⟨mine, g.m1⟩
    | succ n ih =>
      intro one other mine theirs hn g
      by_cases z : 0 < other
      · obtain ⟨g', l⟩ := g.turn z
        exact ih _ _ _ _ (by omega) g'
      · have := (g.done h z).2
        subst this
        exact ⟨mine, g.m1⟩
  exact go _ _ _ _ _ (Nat.le_refl _) (EgI.start h)
theorem wt_wt {b : P2} (h : IsB b) : Wt b (wt b) := by
  obtain ⟨m, hm⟩ := wt_ex h
  have a := Wt.of_inv h hm
  rw [wt_of h a]
  exact a
/-! ### a step -/
def fig (b p : P2) : Int := (p.1 + wt b * p.2) % sz b
def nxt (b p : P2) : P2 := ((mul (p.1 - fig b p, p.2) (b.1, -b.2)).1 / sz b, (mul (p.1 - fig b p, p.2) (b.1, -b.2)).2 / sz b)
theorem fig_lo {b : P2} (h : IsB b) (p : P2) : 0 ≤ fig b p := Int.emod_nonneg _ (by have := h.pos; omega)
theorem fig_hi {b : P2} (h : IsB b) (p : P2) : fig b p < sz b := Int.emod_lt_of_pos _ h.pos
/-- both numbers divide -/
theorem step_dvd {b : P2} (h : IsB b) {f : Int} {p : P2} (hf : sz b ∣ p.1 + wt b * p.2 - f) : sz b ∣ (p.1 - f) * b.1 + p.2 * b.2 ∧ sz b ∣ p.2 * b.1 - (p.1 - f) * b.2 := by
  obtain ⟨k, hk⟩ := hf
  obtain ⟨m, hm⟩ := (wt_wt h).dv
  constructor
  · refine h.cancel ?_
    exact ⟨b.2 * b.1 * k - b.1 * p.2 * m + p.2, by unfold sz at *; grind⟩
  · exact ⟨p.2 * m - k * b.2, by grind⟩
theorem step_eq {b : P2} (h : IsB b) (p : P2) : p = (fig b p + (mul b (nxt b p)).1, (mul b (nxt b p)).2) := by
  have hp := h.pos
  have hf : sz b ∣ p.1 + wt b * p.2 - fig b p := by
    unfold fig
    exact Int.dvd_self_sub_emod
  obtain ⟨⟨k1, e1⟩, ⟨k2, e2⟩⟩ := step_dvd h hf
  have n1 : (nxt b p).1 = k1 := by
    show ((p.1 - fig b p) * b.1 - p.2 * -b.2) / sz b = k1
    have : (p.1 - fig b p) * b.1 - p.2 * -b.2 = sz b * k1 := by rw [← e1]; grind
    rw [this, Int.mul_ediv_cancel_left _ (by omega)]
  have n2 : (nxt b p).2 = k2 := by
    show ((p.1 - fig b p) * -b.2 + p.2 * b.1) / sz b = k2
    have : (p.1 - fig b p) * -b.2 + p.2 * b.1 = sz b * k2 := by rw [← e2]; grind
    rw [this, Int.mul_ediv_cancel_left _ (by omega)]
  have m1 : (mul b (nxt b p)).1 = b.1 * k1 - b.2 * k2 := by unfold mul; rw [n1, n2]
  have m2 : (mul b (nxt b p)).2 = b.1 * k2 + b.2 * k1 := by unfold mul; rw [n1, n2]
  have c1 : sz b * (p.1 - fig b p) = sz b * (b.1 * k1 - b.2 * k2) := by unfold sz at *; grind
  have c2 : sz b * p.2 = sz b * (b.1 * k2 + b.2 * k1) := by unfold sz at *; grind
  have d1 := Int.eq_of_mul_eq_mul_left (show sz b ≠ 0 by omega) c1
  have d2 := Int.eq_of_mul_eq_mul_left (show sz b ≠ 0 by omega) c2
  refine Prod.ext ?_ ?_
  · show p.1 = fig b p + (mul b (nxt b p)).1
    rw [m1]; omega
  · show p.2 = (mul b (nxt b p)).2
    rw [m2]; exact d2
/-- the figure and the pair led to are the only ones -/
theorem step_one {b : P2} (h : IsB b) {p q : P2} {f : Int} (h0 : 0 ≤ f) (h1 : f < sz b) (e : p = (f + (mul b q).1, (mul b q).2)) : fig b p = f ∧ nxt b p = q := by
  have hp := h.pos
  obtain ⟨m, hm⟩ := (wt_wt h).dv
  have ef : fig b p = f := by
    subst e
    show (f + (b.1 * q.1 - b.2 * q.2) + wt b * (b.1 * q.2 + b.2 * q.1)) % sz b = f
    have d : sz b ∣ q.1 * (wt b * b.2 + b.1) := Int.dvd_mul_of_dvd_right ⟨m, hm⟩
    have d2 : sz b ∣ wt b * b.1 - b.2 := by
      refine h.cancel ⟨b.1 * m - 1, ?_⟩
      unfold sz at *; grind
    obtain ⟨k1, hk1⟩ := d
    obtain ⟨k2, hk2⟩ := d2
    have z : f + (b.1 * q.1 - b.2 * q.2) + wt b * (b.1 * q.2 + b.2 * q.1) = f + sz b * (k1 + k2 * q.2) := by grind
    rw [z, Int.add_mul_emod_self_left]
    exact Int.emod_eq_of_lt h0 h1
  refine ⟨ef, ?_⟩
  have s := step_eq h p
  have e1 : (mul b q).1 = (mul b (nxt b p)).1 := by
    have a := congrArg Prod.fst s
    rw [ef] at a
    have c := congrArg Prod.fst e
    simp only at a c
    omega
  have e2 : (mul b q).2 = (mul b (nxt b p)).2 := by
    have a := congrArg Prod.snd s
    have c := congrArg Prod.snd e
    simp only at a c
    omega
  simp only [mul] at e1 e2
  have c1 : sz b * q.1 = sz b * (nxt b p).1 := by unfold sz; grind
  have c2 : sz b * q.2 = sz b * (nxt b p).2 := by unfold sz; grind
  exact (Prod.ext (Int.eq_of_mul_eq_mul_left (show sz b ≠ 0 by omega) c1) (Int.eq_of_mul_eq_mul_left (show sz b ≠ 0 by omega) c2)).symm
/-! ### the walk: told_by -/
/-- the pairs met from p on -/
def orb (b p : P2) : Nat → P2
  | 0 => p
  | n + 1 => nxt b (orb b p n)
theorem orb_add (b p : P2) (m : Nat) : ∀ n, orb b p (m + n) = orb b (orb b p m) n
  | 0 => rfl
  | n + 1 => congrArg (nxt b) (orb_add b p m n)
def norm (p : P2) : Int := p.1 * p.1 + p.2 * p.2
theorem norm_nn (p : P2) : 0 ≤ norm p := by
  have h1 := sq_nn p.1
  have h2 := sq_nn p.2
  unfold norm
  omega
theorem norm_mul (p q : P2) : norm (mul p q) = norm p * norm q := by unfold norm mul; grind
/-- a step shortens -/
theorem norm_nxt {b : P2} (h : IsB b) (p : P2) : 4 * norm (nxt b p) ≤ 3 * norm p + 12 * sz b := by
  have e := step_eq h p
  have f0 := fig_lo h p
  have f1 := fig_hi h p
  have t := h.two
  generalize fig b p = f at *
  have e1 : p.1 - f = (mul b (nxt b p)).1 := by
    have a := congrArg Prod.fst e
    simp only at a
    omega
  have e2 : p.2 = (mul b (nxt b p)).2 := by
    have a := congrArg Prod.snd e
    exact a
  have q : sz b * norm (nxt b p) = (p.1 - f) * (p.1 - f) + p.2 * p.2 := by
    have z := norm_mul b (nxt b p)
    have z1 : norm b = sz b := rfl
    have z2 : norm (mul b (nxt b p)) = (mul b (nxt b p)).1 * (mul b (nxt b p)).1 + (mul b (nxt b p)).2 * (mul b (nxt b p)).2 := rfl
    rw [z1, z2, ← e1, ← e2] at z
    exact z.symm
  have am := sq_nn (p.1 + 2 * f)
  have ff : f * f ≤ sz b * sz b := sq_le (by omega) (by omega)
  have b2 := sq_nn p.2
  have g : 4 * (sz b * norm (nxt b p)) ≤ 6 * norm p + 12 * (sz b * sz b) := by
    rw [q]
    unfold norm
    have x1 : (p.1 - f) * (p.1 - f) = p.1 * p.1 - 2 * (p.1 * f) + f * f := by grind
    have x2 : (p.1 + 2 * f) * (p.1 + 2 * f) = p.1 * p.1 + 4 * (p.1 * f) + 4 * (f * f) := by grind
    rw [x2] at am
    rw [x1]
    omega
  have n0 := norm_nn p
  have g2 : 2 * (sz b * norm p) ≥ 4 * norm p := by
    have := Int.mul_le_mul_of_nonneg_right t n0
    omega
  have k : sz b * (4 * norm (nxt b p)) ≤ sz b * (3 * norm p + 12 * sz b) := by
    rw [Int.mul_add, show sz b * (4 * norm (nxt b p)) = 4 * (sz b * norm (nxt b p)) by grind, show sz b * (3 * norm p) = 3 * (sz b * norm p) by grind, show sz b * (12 * sz b) = 12 * (sz b * sz b) by grind]
    omega
  exact Int.le_of_mul_le_mul_left k h.pos
/-- where all walks end up -/
def Low (p : P2) : Prop := norm p ≤ 43200
theorem low_nxt {b : P2} (h : IsB b) {p : P2} (l : Low p) : Low (nxt b p) := by
  have a := norm_nxt h p
  have s := h.sz_le
  unfold Low at *
  omega
theorem low_orb {b : P2} (h : IsB b) {p : P2} (l : Low p) : ∀ n, Low (orb b p n)
  | 0 => l
  | n + 1 => low_nxt h (low_orb h l n)
theorem sink {b : P2} (h : IsB b) : ∀ (m : Nat) (p : P2), norm p < 2 ^ m → ∃ t, t ≤ 6 * m ∧ Low (orb b p t)
  | 0, p, hp => ⟨0, Nat.le_refl _, by show norm p ≤ 43200; simp at hp; omega⟩
  | m + 1, p, hp => by
    have s := h.sz_le
    have a0 := norm_nxt h p
    have a1 := norm_nxt h (nxt b p)
    have a2 := norm_nxt h (nxt b (nxt b p))
    have a3 := norm_nxt h (nxt b (nxt b (nxt b p)))
    have a4 := norm_nxt h (nxt b (nxt b (nxt b (nxt b p))))
    have a5 := norm_nxt h (nxt b (nxt b (nxt b (nxt b (nxt b p)))))
    by_cases c0 : Low p
    · exact ⟨0, Nat.zero_le _, c0⟩
    by_cases c1 : Low (orb b p 1)
    · exact ⟨1, by omega, c1⟩
    by_cases c2 : Low (orb b p 2)
    · exact ⟨2, by omega, c2⟩
    by_cases c3 : Low (orb b p 3)
    · exact ⟨3, by omega, c3⟩
    by_cases c4 : Low (orb b p 4)
    · exact ⟨4, by omega, c4⟩
    by_cases c5 : Low (orb b p 5)
    · exact ⟨5, by omega, c5⟩
    have z : norm (orb b p 6) < 2 ^ m := by
      have e : (2 : Int) ^ (m + 1) = 2 * 2 ^ m := by rw [Int.pow_succ]; omega
      rw [e] at hp
      simp only [Low, orb] at *
      generalize (2 : Int) ^ m = M at *
      omega
    obtain ⟨t, ht, hl⟩ := sink h m (orb b p 6) z
    refine ⟨6 + t, by omega, ?_⟩
    rw [orb_add]
    exact hl
/-- a code for the pairs that lie low -/
def code (p : P2) : Nat := ((p.1 + 210) * 421 + (p.2 + 210)).toNat
theorem low_box {p : P2} (l : Low p) : -210 ≤ p.1 ∧ p.1 ≤ 210 ∧ -210 ≤ p.2 ∧ p.2 ≤ 210 := by
  unfold Low norm at l
  have h1 := sq_nn p.1
  have h2 := sq_nn p.2
  have go : ∀ x : Int, x * x ≤ 43200 → -210 ≤ x ∧ x ≤ 210 := fun x hx => by
    constructor
    · refine Int.not_lt.mp fun z => ?_
      have a := Int.mul_nonneg (show 0 ≤ -x - 211 by omega) (show 0 ≤ -x + 211 by omega)
      have e : (-x - 211) * (-x + 211) = x * x - 44521 := by grind
      omega
    · refine Int.not_lt.mp fun z => ?_
      have a := Int.mul_nonneg (show 0 ≤ x - 211 by omega) (show 0 ≤ x + 211 by omega)
      have e : (x - 211) * (x + 211) = x * x - 44521 := by grind
      omega
  have a := go p.1 (by omega)
  have c := go p.2 (by omega)
  exact ⟨a.1, a.2, c.1, c.2⟩
theorem code_lt {p : P2} (l : Low p) : code p < 177241 := by
  have := low_box l
  unfold code
  omega
theorem code_inj {p q : P2} (l : Low p) (k : Low q) (e : code p = code q) : p = q := by
  have a := low_box l
  have c := low_box k
  unfold code at e
  exact Prod.ext (by omega) (by omega)
/-- unlike pairs that lie low are not many -/
theorem few : ∀ {l : List P2}, l.Nodup → (∀ p ∈ l, Low p) → l.length ≤ 177241 := by
  intro l hn hl
  have h1 : (l.map code).Nodup := by
    refine List.Pairwise.map code ?_ (List.Pairwise.imp_of_mem (fun {a b} ha hb hab => ?_) hn) (R := fun p q => code p ≠ code q)
    · exact fun _ _ h => h
    · exact fun e => hab (code_inj (hl a ha) (hl b hb) e)
  have h2 : (l.map code) ⊆ List.range 177241 := fun n hm => by
    obtain ⟨p, hp, rfl⟩ := List.mem_map.mp hm
    exact List.mem_range.mpr (code_lt (hl p hp))
  have := h1.length_le_of_subset h2
  rw [List.length_map, List.length_range] at this
  exact this
/-- the pairs that the loop has met ahead of its n-th turn -/
def met (b p : P2) (n : Nat) : List P2 := (List.range n).map (orb b p)
def figs (b p : P2) (n : Nat) : List Int := (List.range n).map fun i => fig b (orb b p i)
theorem met_succ (b p : P2) (n : Nat) : met b p (n + 1) = met b p n ++ [orb b p n] := by unfold met; rw [List.range_succ, List.map_append]; rfl
theorem figs_succ (b p : P2) (n : Nat) : figs b p (n + 1) = figs b p n ++ [fig b (orb b p n)] := by unfold figs; rw [List.range_succ, List.map_append]; rfl
theorem met_len (b p : P2) (n : Nat) : (met b p n).length = n := by unfold met; rw [List.length_map, List.length_range]
theorem figs_len (b p : P2) (n : Nat) : (figs b p n).length = n := by unfold figs; rw [List.length_map, List.length_range]
theorem met_get {b p : P2} {n i : Nat} (h : i < n) : (met b p n)[i]? = some (orb b p i) := by
  unfold met
  rw [List.getElem?_map, List.getElem?_range h]
  rfl
/-- how long the loop may run, for pairs below 2 ^ m -/
theorem met_few {b p : P2} (h : IsB b) {m n : Nat} (hp : norm p < 2 ^ m) (hn : (met b p n).Nodup) : n ≤ 6 * m + 177241 := by
  obtain ⟨t, ht, hl⟩ := sink h m p hp
  by_cases c : n ≤ t
  · omega
  · have e : met b p n = met b p t ++ met b (orb b p t) (n - t) := by
      have q : n = t + (n - t) := by omega
      rw [q]
      generalize n - t = k
      unfold met
      rw [List.range_add, List.map_append, List.map_map]
      congr 1
      · rw [Nat.add_sub_cancel_left]
        congr 1
        funext i
        exact orb_add b p t i
    rw [e] at hn
    have h2 := (List.nodup_append.mp hn).2.1
    have := few h2 fun q hq => by
      unfold met at hq
      obtain ⟨i, _, rfl⟩ := List.mem_map.mp hq
      exact low_orb h hl i
    rw [met_len] at this
    omega
/-! ### where the loop ends -/
def stp (b p : P2) (n : Nat) : Bool := decide (orb b p n = (0, 0)) || decide (orb b p n ∈ met b p n)
@[irreducible] def lst (b p : P2) : Nat := ((List.range (6 * (norm p).toNat + 177243)).find? (stp b p)).getD 0
theorem nodup_of {b p : P2} : ∀ {n : Nat}, (∀ i, i < n → stp b p i = false) → (met b p n).Nodup
  | 0, _ => by unfold met; simp
  | n + 1, h => by
    rw [met_succ]
    have ih := nodup_of (n := n) fun i hi => h i (by omega)
    have z := h n (by omega)
    unfold stp at z
    rw [Bool.or_eq_false_iff] at z
    have z2 := of_decide_eq_false z.2
    refine List.nodup_append.mpr ⟨ih, by simp, fun x hx y hy e => ?_⟩
    rw [List.mem_singleton] at hy
    subst hy
    subst e
    exact z2 hx
theorem two_pow_gt (n : Nat) : (n : Int) < 2 ^ n := by
  have h : n < 2 ^ n := Nat.lt_two_pow_self
  have : ((n : Nat) : Int) < ((2 ^ n : Nat) : Int) := Int.ofNat_lt.mpr h
  simpa using this
theorem lst_spec {b : P2} (h : IsB b) (p : P2) : stp b p (lst b p) = true ∧ ∀ i, i < lst b p → stp b p i = false := by
  have hp : norm p < 2 ^ (norm p).toNat := by
    have := two_pow_gt (norm p).toNat
    rw [Int.toNat_of_nonneg (norm_nn p)] at this
    exact this
  unfold lst
  cases e : (List.range (6 * (norm p).toNat + 177243)).find? (stp b p) with
  | none =>
    have z := List.find?_eq_none.mp e
    have n1 : (met b p (6 * (norm p).toNat + 177243)).Nodup := nodup_of fun i hi => by
      have := z i (List.mem_range.mpr hi)
      simpa using this
    have := met_few h hp n1
    omega
  | some n =>
    rw [List.find?_range_eq_some] at e
    refine ⟨e.1, fun i hi => ?_⟩
    have := e.2.2 i hi
    simpa using this
theorem lst_le {b : P2} (h : IsB b) {p : P2} {m : Nat} (hp : norm p < 2 ^ m) : lst b p ≤ 6 * m + 177241 := met_few h hp (nodup_of (lst_spec h p).2)
theorem lst_is {b : P2} (h : IsB b) {p : P2} {n : Nat} (h1 : stp b p n = true) (h2 : ∀ i, i < n → stp b p i = false) : lst b p = n := by
  have s := lst_spec h p
  rcases Nat.lt_trichotomy (lst b p) n with z | z | z
  · rw [h2 _ z] at s; exact absurd s.1 Bool.false_ne_true
  · exact z
  · rw [s.2 _ z] at h1; exact absurd h1 Bool.false_ne_true
/-- the figures, the round -/
def row (b p : P2) : List Int := figs b p (lst b p)
def aro (b p : P2) : List P2 := if orb b p (lst b p) = (0, 0) then [] else (met b p (lst b p)).drop ((met b p (lst b p)).idxOf (orb b p (lst b p)))
theorem mem_met {b p q : P2} {n : Nat} : q ∈ met b p n ↔ ∃ i, i < n ∧ orb b p i = q := by
  unfold met
  rw [List.mem_map]
  constructor
  · rintro ⟨i, hi, e⟩
    exact ⟨i, List.mem_range.mp hi, e⟩
  · rintro ⟨i, hi, e⟩
    exact ⟨i, List.mem_range.mpr hi, e⟩
theorem lst_mem {b : P2} (h : IsB b) {p : P2} (z : ¬ orb b p (lst b p) = (0, 0)) : orb b p (lst b p) ∈ met b p (lst b p) := by
  have s := (lst_spec h p).1
  unfold stp at s
  rw [Bool.or_eq_true] at s
  rcases s with s | s
  · exact absurd (of_decide_eq_true s) z
  · exact of_decide_eq_true s
theorem aro_nil {b : P2} (h : IsB b) {p : P2} : aro b p = [] ↔ orb b p (lst b p) = (0, 0) := by
  unfold aro
  constructor
  · intro e
    refine Classical.byContradiction fun z => ?_
    rw [if_neg z] at e
    have m := lst_mem h z
    have l := List.idxOf_lt_length_iff.mpr m
    have := List.drop_eq_nil_iff.mp e
    omega
  · intro e
    rw [if_pos e]
theorem aro_mem {b : P2} {p q : P2} (h : q ∈ aro b p) : q ∈ met b p (lst b p) ∧ orb b p (lst b p) ≠ (0, 0) := by
  unfold aro at h
  split at h
  · cases h
  · rename_i z
    exact ⟨List.mem_of_mem_drop h, z⟩
theorem aro_nz {b : P2} (h : IsB b) {p q : P2} (hq : q ∈ aro b p) : q ≠ (0, 0) := by
  obtain ⟨m, _⟩ := aro_mem hq
  obtain ⟨i, hi, rfl⟩ := mem_met.mp m
  have s := (lst_spec h p).2 i hi
  unfold stp at s
  rw [Bool.or_eq_false_iff] at s
  exact of_decide_eq_false s.1
theorem aro_len (b p : P2) : (aro b p).length ≤ lst b p := by
  unfold aro
  split
  · simp
  · rw [List.length_drop, met_len]
    omega
theorem aro_nodup {b : P2} (h : IsB b) (p : P2) : (aro b p).Nodup := by
  unfold aro
  split
  · simp
  · exact (nodup_of (lst_spec h p).2).sublist (List.drop_sublist _ _)
/-- the round's first pair is the one that the loop came back to -/
theorem aro_head {b : P2} (h : IsB b) {p : P2} (z : ¬ orb b p (lst b p) = (0, 0)) : (aro b p).head? = some (orb b p (lst b p)) := by
  unfold aro
  rw [if_neg z, List.head?_drop]
  have m := lst_mem h z
  rw [List.getElem?_eq_getElem (List.idxOf_lt_length_iff.mpr m), List.getElem_idxOf]
/-! ### rows -/
def rd (b : P2) : List Int → P2
  | [] => (0, 0)
  | f :: r => ((mul b (rd b r)).1 + f, (mul b (rd b r)).2)
/-- a row of figures -/
def isRow (b : P2) (r : List Int) : Bool := (r.all fun f => decide (0 ≤ f) && decide (f < sz b)) && (decide (r = []) || !decide (r.getLast? = some 0))
theorem figs_cons (b p : P2) (n : Nat) : figs b p (n + 1) = fig b p :: figs b (nxt b p) n := by
  unfold figs
  rw [List.range_succ_eq_map, List.map_cons, List.map_map]
  congr 1
  refine List.map_congr_left fun i _ => ?_
  show fig b (orb b p (i + 1)) = fig b (orb b (nxt b p) i)
  rw [Nat.add_comm, orb_add]
  rfl
theorem rd_figs {b : P2} (h : IsB b) : ∀ (n : Nat) (p : P2), orb b p n = (0, 0) → rd b (figs b p n) = p
  | 0, p, e => e.symm
  | n + 1, p, e => by
    rw [figs_cons]
    have e' : orb b (nxt b p) n = (0, 0) := by
      rw [Nat.add_comm, orb_add] at e
      exact e
    have ih := rd_figs h n (nxt b p) e'
    show ((mul b (rd b (figs b (nxt b p) n))).1 + fig b p, (mul b (rd b (figs b (nxt b p) n))).2) = p
    rw [ih]
    have s := step_eq h p
    rw [Int.add_comm]
    exact s.symm
theorem mul_zero (b : P2) : mul b (0, 0) = (0, 0) := by unfold mul; simp
theorem rd_row {b : P2} (h : IsB b) {p : P2} (e : aro b p = []) : rd b (row b p) = p := rd_figs h _ p ((aro_nil h).mp e)
theorem row_is {b : P2} (h : IsB b) {p : P2} (e : aro b p = []) : isRow b (row b p) = true := by
  have z := (aro_nil h).mp e
  have s := (lst_spec h p).2
  unfold isRow row
  rw [Bool.and_eq_true]
  constructor
  · refine List.all_eq_true.mpr fun f hf => ?_
    unfold figs at hf
    obtain ⟨i, _, rfl⟩ := List.mem_map.mp hf
    rw [Bool.and_eq_true]
    exact ⟨decide_eq_true (fig_lo h _), decide_eq_true (fig_hi h _)⟩
  · cases q : lst b p with
    | zero => rfl
    | succ n =>
      rw [q] at z s
      rw [figs_succ, List.getLast?_concat]
      have sn := s n (by omega)
      unfold stp at sn
      rw [Bool.or_eq_false_iff] at sn
      have nz := of_decide_eq_false sn.1
      have st := step_eq h (orb b p n)
      have zz : nxt b (orb b p n) = (0, 0) := z
      rw [zz, mul_zero] at st
      have f0 : fig b (orb b p n) ≠ 0 := fun f0 => nz (by rw [st, f0]; rfl)
      simp [f0]
/-- a row is what its pair's walk writes -/
theorem isRow_tail {b : P2} {f : Int} {r : List Int} (h : isRow b (f :: r) = true) : 0 ≤ f ∧ f < sz b ∧ isRow b r = true ∧ (r = [] → f ≠ 0) := by
  unfold isRow at h ⊢
  rw [Bool.and_eq_true, List.all_cons, Bool.and_eq_true, Bool.and_eq_true] at h
  obtain ⟨⟨⟨h1, h2⟩, h3⟩, h4⟩ := h
  refine ⟨of_decide_eq_true h1, of_decide_eq_true h2, ?_, fun e f0 => ?_⟩
  · rw [Bool.and_eq_true]
    refine ⟨h3, ?_⟩
    cases r with
    | nil => rfl
    | cons g r =>
      rw [List.getLast?_cons_cons] at h4
      simpa using h4
  · subst e f0
    simp at h4
theorem rd_nz {b : P2} (h : IsB b) : ∀ {r : List Int}, isRow b r = true → r ≠ [] → rd b r ≠ (0, 0)
  | [], _, n => absurd rfl n
  | f :: r, hr, _ => fun e => by
    obtain ⟨h0, h1, h2, h3⟩ := isRow_tail hr
    have s := step_one h (p := rd b (f :: r)) (q := rd b r) h0 h1 (by show ((mul b (rd b r)).1 + f, (mul b (rd b r)).2) = _; rw [Int.add_comm])
    have t := step_one h (p := (0, 0)) (q := (0, 0)) (f := 0) (Int.le_refl 0) h.pos (by rw [mul_zero]; rfl)
    rw [e] at s
    have f0 : f = 0 := s.1.symm.trans t.1
    have r0 : rd b r = (0, 0) := s.2.symm.trans t.2
    by_cases c : r = []
    · exact h3 c f0
    · exact rd_nz h h2 c r0
theorem nxt_rd {b : P2} (h : IsB b) {f : Int} {r : List Int} (hr : isRow b (f :: r) = true) : fig b (rd b (f :: r)) = f ∧ nxt b (rd b (f :: r)) = rd b r := by
  obtain ⟨h0, h1, _, _⟩ := isRow_tail hr
  exact step_one h h0 h1 (by show ((mul b (rd b r)).1 + f, (mul b (rd b r)).2) = _; rw [Int.add_comm])
theorem isRow_drop {b : P2} : ∀ {r : List Int} (n : Nat), isRow b r = true → isRow b (r.drop n) = true
  | _, 0, h => h
  | [], _ + 1, h => h
  | _ :: _, n + 1, h => isRow_drop n (isRow_tail h).2.2.1
theorem orb_rd {b : P2} (h : IsB b) : ∀ (r : List Int) (n : Nat), isRow b r = true → n ≤ r.length → orb b (rd b r) n = rd b (r.drop n)
  | _, 0, _, _ => rfl
  | [], n + 1, _, hn => by simp at hn
  | f :: r, n + 1, hr, hn => by
    rw [Nat.add_comm, orb_add]
    show orb b (nxt b (rd b (f :: r))) n = _
    rw [(nxt_rd h hr).2, orb_rd h r n (isRow_tail hr).2.2.1 (by simpa using hn)]
    rw [Nat.add_comm]
    rfl
theorem figs_rd {b : P2} (h : IsB b) : ∀ (r : List Int), isRow b r = true → figs b (rd b r) r.length = r
  | [], _ => rfl
  | f :: r, hr => by
    show figs b (rd b (f :: r)) (r.length + 1) = f :: r
    rw [figs_cons, (nxt_rd h hr).1, (nxt_rd h hr).2, figs_rd h r (isRow_tail hr).2.2.1]
theorem zero_orb {b : P2} (h : IsB b) : ∀ n, orb b (0, 0) n = (0, 0)
  | 0 => rfl
  | n + 1 => by
    have t := step_one h (p := (0, 0)) (q := (0, 0)) (f := 0) (Int.le_refl 0) h.pos (by rw [mul_zero]; rfl)
    show nxt b (orb b (0, 0) n) = _
    rw [zero_orb h n]
    exact t.2
/-- where (0, 0) is met, no pair was met twice ahead of it -/
theorem lst_zero {b : P2} (h : IsB b) {p : P2} {n : Nat} (z : orb b p n = (0, 0)) (nz : ∀ i, i < n → orb b p i ≠ (0, 0)) : lst b p = n := by
  refine lst_is h (by unfold stp; rw [z]; rfl) fun i hi => ?_
  unfold stp
  rw [Bool.or_eq_false_iff]
  refine ⟨decide_eq_false (nz i hi), decide_eq_false fun m => ?_⟩
  obtain ⟨j, hj, e⟩ := mem_met.mp m
  -- from j on the walk goes round: (0, 0) would lie on it
  have per : ∀ k, orb b p (j + k) = orb b p (i + k) := fun k => by rw [orb_add, orb_add, e]
  have a := per (n - i)
  rw [show i + (n - i) = n by omega, z] at a
  exact nz (j + (n - i)) (by omega) a
theorem lst_rd {b : P2} (h : IsB b) {r : List Int} (hr : isRow b r = true) : lst b (rd b r) = r.length := by
  refine lst_zero h ?_ fun i hi => ?_
  · rw [orb_rd h r _ hr (Nat.le_refl _), List.drop_length]
    rfl
  · rw [orb_rd h r _ hr (by omega)]
    exact rd_nz h (isRow_drop i hr) (fun e => by have := List.drop_eq_nil_iff.mp e; omega)
theorem row_rd {b : P2} (h : IsB b) {r : List Int} (hr : isRow b r = true) : row b (rd b r) = r ∧ aro b (rd b r) = [] := by
  constructor
  · unfold row
    rw [lst_rd h hr]
    exact figs_rd h r hr
  · refine (aro_nil h).mpr ?_
    rw [lst_rd h hr, orb_rd h r _ hr (Nat.le_refl _), List.drop_length]
    rfl
/-- a pair that is told is told by one row -/
theorem told_iff {b : P2} (h : IsB b) {p : P2} : aro b p = [] ↔ ∃ r, isRow b r = true ∧ rd b r = p :=
  ⟨fun e => ⟨row b p, row_is h e, rd_row h e⟩, fun ⟨r, h1, h2⟩ => by rw [← h2]; exact (row_rd h h1).2⟩
end M

set_option maxHeartbeats 4000000
set_option linter.all false
namespace M
/-! ### rounds -/
/-- a pair on a round has the round -/
theorem aro_self {b : P2} (h : IsB b) {p q : P2} (hq : q ∈ aro b p) : q ∈ aro b q := by
  obtain ⟨m, z⟩ := aro_mem hq
  have sp := lst_spec h p
  have nd := nodup_of sp.2
  -- the place of q on the walk, the place that the walk comes back to
  have lm := lst_mem h z
  generalize hL : lst b p = L at *
  obtain ⟨i, hi, ei⟩ := mem_met.mp lm
  have ixi : (met b p L).idxOf (orb b p L) = i := by
    have hl : i < (met b p L).length := by rw [met_len]; exact hi
    have e : (met b p L)[i] = orb b p L := by
      have := met_get (b := b) (p := p) hi
      rw [List.getElem?_eq_getElem hl] at this
      rw [Option.some.inj this, ei]
    rw [← e]
    exact nd.idxOf_getElem i hl
  have hq2 : q ∈ (met b p L).drop i := by
    unfold aro at hq
    rw [hL, if_neg z, ixi] at hq
    exact hq
  obtain ⟨j, hj, ej⟩ : ∃ j, i ≤ j ∧ j < L ∧ orb b p j = q := by
    obtain ⟨k, hk, e⟩ := List.mem_iff_getElem.mp hq2
    rw [List.length_drop, met_len] at hk
    refine ⟨i + k, by omega, by omega, ?_⟩
    rw [List.getElem_drop] at e
    have := met_get (b := b) (p := p) (n := L) (i := i + k) (by omega)
    rw [List.getElem?_eq_getElem (by rw [met_len]; omega)] at this
    rw [← e]
    exact (Option.some.inj this).symm
  obtain ⟨hj2, ej⟩ := ej
  have inj : ∀ x y, x < L → y < L → orb b p x = orb b p y → x = y := fun x y hx hy e => by
    have h1 := met_get (b := b) (p := p) hx
    have h2 := met_get (b := b) (p := p) hy
    rw [e] at h1
    have l1 : x < (met b p L).length := by rw [met_len]; exact hx
    have l2 : y < (met b p L).length := by rw [met_len]; exact hy
    rw [List.getElem?_eq_getElem l1] at h1
    rw [List.getElem?_eq_getElem l2] at h2
    exact (List.getElem_inj nd).mp ((Option.some.inj h1).trans (Option.some.inj h2).symm)
  have nz : ∀ x, x < L → orb b p x ≠ (0, 0) := fun x hx => by
    have := sp.2 x hx
    unfold stp at this
    rw [Bool.or_eq_false_iff] at this
    exact of_decide_eq_false this.1
  -- the walk from q on: first to the end of the round, then from its start
  have at1 : ∀ k, j + k < L → orb b q k = orb b p (j + k) := fun k _ => by rw [← ej, orb_add]
  have at2 : ∀ k, orb b q (L - j + k) = orb b p (i + k) := fun k => by
    rw [← ej, ← orb_add, show j + (L - j + k) = L + k by omega, orb_add, ← ei, ← orb_add]
  have back : orb b q (L - i) = q := by
    have := at2 (j - i)
    rw [show L - j + (j - i) = L - i by omega, show i + (j - i) = j by omega, ej] at this
    exact this
  -- the places of the walk from q on, told by places of the walk from p on
  have place : ∀ k, k < L - i → ∃ x, x < L ∧ orb b q k = orb b p x ∧ (if j + k < L then x = j + k else x + L = i + j + k) := fun k hk => by
    by_cases c : j + k < L
    · exact ⟨j + k, c, at1 k c, by rw [if_pos c]⟩
    · have := at2 (k - (L - j))
      rw [show L - j + (k - (L - j)) = k by omega] at this
      refine ⟨i + (k - (L - j)), by omega, this, ?_⟩
      rw [if_neg c]
      omega
  have hlst : lst b q = L - i := by
    refine lst_is h ?_ fun k hk => ?_
    · unfold stp
      rw [back]
      have : decide (q ∈ met b q (L - i)) = true := decide_eq_true (mem_met.mpr ⟨0, by omega, rfl⟩)
      rw [this, Bool.or_true]
    · unfold stp
      rw [Bool.or_eq_false_iff]
      obtain ⟨x, hx, ex, rx⟩ := place k hk
      refine ⟨decide_eq_false (by rw [ex]; exact nz x hx), decide_eq_false fun mm => ?_⟩
      obtain ⟨k', hk', e'⟩ := mem_met.mp mm
      obtain ⟨y, hy, ey, ry⟩ := place k' (by omega)
      rw [ex, ey] at e'
      have := inj y x hy hx e'
      subst this
      split at rx <;> split at ry <;> omega
  have q0 : q ≠ (0, 0) := by rw [← ej]; exact nz j hj2
  unfold aro
  rw [hlst, back, if_neg q0]
  have e0 : (met b q (L - i)).idxOf q = 0 := by
    have : 0 < L - i := by omega
    have g := met_get (b := b) (p := q) this
    have hl : 0 < (met b q (L - i)).length := by rw [met_len]; exact this
    have e : (met b q (L - i))[0] = q := by
      rw [List.getElem?_eq_getElem hl] at g
      exact Option.some.inj g
    cases hm : met b q (L - i) with
    | nil => rw [hm] at hl; exact absurd hl (by simp)
    | cons a r =>
      have ea : a = q := by simp only [hm, List.getElem_cons_zero] at e; exact e
      rw [ea]
      simp
  rw [e0, List.drop_zero]
  exact mem_met.mpr ⟨0, by omega, rfl⟩
/-- the round that is told is as it is from its first pair -/
theorem aro_ne {b : P2} {p q : P2} (h : q ∈ aro b p) : aro b p ≠ [] := fun e => by rw [e] at h; cases h
/-! ### bases whose second number is not 1 or -1 -/
theorem rd_im (b : P2) : ∀ r : List Int, b.2 ∣ (rd b r).2
  | [] => Int.dvd_zero _
  | f :: r => by
    show b.2 ∣ b.1 * (rd b r).2 + b.2 * (rd b r).1
    exact Int.dvd_add (Int.dvd_mul_of_dvd_right (rd_im b r)) (Int.dvd_mul_of_dvd_left (Int.dvd_refl _))
theorem lost_one {b : P2} (h : IsB b) (h1 : b.2 ≠ 1) (h2 : b.2 ≠ -1) : aro b (0, 1) ≠ [] := fun e => by
  obtain ⟨r, _, hr⟩ := (told_iff h).mp e
  have d := rd_im b r
  rw [hr] at d
  have d1 : b.2 ∣ 1 := d
  have := Int.natAbs_dvd_natAbs.mpr d1
  have := Nat.dvd_one.mp this
  omega
/-- bases with 1 or -1, the first number not below 0 -/
theorem fix_one {b : P2} (h : IsB b) (h1 : b.2 = 1 ∨ b.2 = -1) (h2 : ¬ b.1 < 0) : nxt b (1 - b.1, b.2) = (1 - b.1, b.2) := by
  have s2 : b.2 * b.2 = 1 := by rcases h1 with e | e <;> rw [e] <;> rfl
  have t := h.two
  unfold sz at t
  have a1 : 1 ≤ b.1 := by
    rcases Int.lt_or_eq_of_le (Int.not_lt.mp h2) with z | z
    · omega
    · rw [← z, s2] at t
      omega
  have q := sq_nn (b.1 - 1)
  have qe : (b.1 - 1) * (b.1 - 1) = b.1 * b.1 - 2 * b.1 + 1 := by grind
  refine (step_one h (f := b.1 * b.1 - 2 * b.1 + 2) (by omega) (by unfold sz; omega) ?_).2
  unfold mul
  refine Prod.ext ?_ ?_
  · show 1 - b.1 = b.1 * b.1 - 2 * b.1 + 2 + (b.1 * (1 - b.1) - b.2 * b.2)
    rw [s2]
    grind
  · show b.2 = b.1 * b.2 + b.2 * (1 - b.1)
    grind
theorem aro_fix {b p : P2} (h : IsB b) (e : nxt b p = p) (z : p ≠ (0, 0)) : aro b p = [p] := by
  have o1 : orb b p 1 = p := e
  have m1 : met b p 1 = [p] := rfl
  have hl : lst b p = 1 := by
    refine lst_is h ?_ fun i hi => ?_
    · unfold stp
      rw [o1, m1]
      simp
    · have : i = 0 := by omega
      subst this
      unfold stp
      have m0 : met b p 0 = [] := rfl
      rw [m0]
      show (decide (p = (0, 0)) || decide (orb b p 0 ∈ [])) = false
      rw [decide_eq_false z]
      simp
  unfold aro
  rw [hl, o1, if_neg z, m1]
  simp
def lostP (b : P2) : P2 := if b.2 = 1 ∨ b.2 = -1 then (if b.1 < 0 then (0, 0) else (1 - b.1, b.2)) else (aro b (0, 1)).headD (0, 0)
/-- a base tells all -/
def isAll (b : P2) : Bool := decide (b.1 < 0) && (decide (b.2 = 1) || decide (b.2 = -1))
theorem lostP_all {b : P2} (h : IsB b) : decide (lostP b = (0, 0)) = isAll b := by
  unfold lostP isAll
  by_cases c : b.2 = 1 ∨ b.2 = -1
  · have e : (decide (b.2 = 1) || decide (b.2 = -1)) = true := by simpa using c
    rw [if_pos c, e, Bool.and_true]
    by_cases a : b.1 < 0
    · rw [if_pos a, decide_eq_true a, decide_eq_true rfl]
    · rw [if_neg a, decide_eq_false a]
      refine decide_eq_false fun z => ?_
      have := congrArg Prod.snd z
      simp only at this
      omega
  · have e : (decide (b.2 = 1) || decide (b.2 = -1)) = false := by
      rw [Bool.or_eq_false_iff]
      exact ⟨decide_eq_false fun z => c (.inl z), decide_eq_false fun z => c (.inr z)⟩
    rw [if_neg c, e, Bool.and_false]
    have n := lost_one h (fun z => c (.inl z)) (fun z => c (.inr z))
    cases q : aro b (0, 1) with
    | nil => exact absurd q n
    | cons x r => exact decide_eq_false (aro_nz h (by rw [q]; exact List.mem_cons_self ..))
theorem lostP_on {b : P2} (h : IsB b) (n : isAll b = false) : lostP b ∈ aro b (lostP b) := by
  unfold lostP
  by_cases c : b.2 = 1 ∨ b.2 = -1
  · rw [if_pos c]
    by_cases a : b.1 < 0
    · exfalso
      unfold isAll at n
      have e : (decide (b.2 = 1) || decide (b.2 = -1)) = true := by simpa using c
      rw [decide_eq_true a, e] at n
      cases n
    · rw [if_neg a, aro_fix h (fix_one h c a) (fun z => by have := congrArg Prod.snd z; simp only at this; omega)]
      exact List.mem_singleton.mpr rfl
  · rw [if_neg c]
    have n := lost_one h (fun z => c (.inl z)) (fun z => c (.inr z))
    cases q : aro b (0, 1) with
    | nil => exact absurd q n
    | cons x r => exact aro_self h (p := (0, 1)) (by rw [q]; exact List.mem_cons_self ..)
/-! ### bases that tell all -/
/-- the pair of four numbers, by the powers of (-n, s) -/
def vl (n s : Int) (a b c d : Nat) : P2 := ((a : Int) - n * b + (n * n - 1) * c + (3 * n - n * n * n) * d, s * ((b : Int) - 2 * n * c + (3 * n * n - 1) * d))
theorem vl_step {n s : Int} (h : IsB (-n, s)) (hn : 1 ≤ n) (hs : s * s = 1) (a b c d : Nat) :
    fig (-n, s) (vl n s a b c d) = (a : Int) % (n * n + 1) ∧
    nxt (-n, s) (vl n s a b c d) = vl n s (b + a / (n.toNat * n.toNat + 1) * ((n.toNat - 1) * (n.toNat - 1))) (c + a / (n.toNat * n.toNat + 1) * (2 * n.toNat - 1)) (d + a / (n.toNat * n.toNat + 1)) 0 := by
  obtain ⟨m, rfl⟩ : ∃ m : Nat, n = (m : Int) + 1 := ⟨(n - 1).toNat, by omega⟩
  have em : ((m : Int) + 1).toNat = m + 1 := by omega
  rw [em]
  have e1 : m + 1 - 1 = m := by omega
  have e2 : 2 * (m + 1) - 1 = 2 * m + 1 := by omega
  rw [e1, e2]
  have eN : (((m + 1) * (m + 1) + 1 : Nat) : Int) = ((m : Int) + 1) * ((m : Int) + 1) + 1 := by simp
  have hsz : sz (-((m : Int) + 1), s) = ((m : Int) + 1) * ((m : Int) + 1) + 1 := by unfold sz; simp only; grind
  have hr := Nat.div_add_mod a ((m + 1) * (m + 1) + 1)
  have hlt := Nat.mod_lt a (show 0 < (m + 1) * (m + 1) + 1 by omega)
  generalize a / ((m + 1) * (m + 1) + 1) = q at *
  have er : ((a : Int)) % (((m : Int) + 1) * ((m : Int) + 1) + 1) = ((a % ((m + 1) * (m + 1) + 1) : Nat) : Int) := by rw [← eN]; rfl
  rw [er]
  generalize a % ((m + 1) * (m + 1) + 1) = r at *
  have ea : (a : Int) = (((m : Int) + 1) * ((m : Int) + 1) + 1) * q + r := by
    rw [← hr]
    simp
  refine step_one h (Int.natCast_nonneg _) (by rw [hsz, ← eN]; exact Int.ofNat_lt.mpr hlt) ?_
  unfold vl mul
  refine Prod.ext ?_ ?_
  · simp only [Int.natCast_add, Int.natCast_mul, Int.natCast_one, Int.natCast_zero, Int.mul_zero, Int.add_zero]
    rw [ea]
    grind
  · simp only [Int.natCast_add, Int.natCast_mul, Int.natCast_one, Int.natCast_zero, Int.mul_zero, Int.add_zero]
    grind
/-- from each such pair the walk comes to (0, 0) -/
theorem vl_reach {n s : Int} (h : IsB (-n, s)) (hn : 1 ≤ n) (hs : s * s = 1) : ∀ (S M a b c d : Nat), a + b + c + d ≤ S → (norm (vl n s a b c d)).toNat ≤ M → ∃ k, orb (-n, s) (vl n s a b c d) k = (0, 0) := by
  intro S
  induction S with
  | zero =>
    intro M a b c d hS _
    refine ⟨0, ?_⟩
    have : a = 0 ∧ b = 0 ∧ c = 0 ∧ d = 0 := by omega
    obtain ⟨rfl, rfl, rfl, rfl⟩ := this
    show vl n s 0 0 0 0 = (0, 0)
    unfold vl
    simp
  | succ S ihS =>
    intro M
    induction M with
    | zero =>
      intro a b c d _ hM
      refine ⟨0, ?_⟩
      show vl n s a b c d = (0, 0)
      have n0 := norm_nn (vl n s a b c d)
      generalize vl n s a b c d = p at *
      have e : norm p = 0 := by omega
      unfold norm at e
      have h1 := sq_nn p.1
      have h2 := sq_nn p.2
      have z1 : p.1 * p.1 = 0 := by omega
      have z2 : p.2 * p.2 = 0 := by omega
      exact Prod.ext ((Int.mul_eq_zero.mp z1).elim id id) ((Int.mul_eq_zero.mp z2).elim id id)
    | succ M ihM =>
      intro a b c d hS hM
      obtain ⟨e1, e2⟩ := vl_step h hn hs a b c d
      have eN : ((n.toNat * n.toNat + 1 : Nat) : Int) = n * n + 1 := by
        have : ((n.toNat : Nat) : Int) = n := Int.toNat_of_nonneg (by omega)
        rw [Int.natCast_add, Int.natCast_mul, this]
        rfl
      have hr := Nat.div_add_mod a (n.toNat * n.toNat + 1)
      have er : (a : Int) % (n * n + 1) = ((a % (n.toNat * n.toNat + 1) : Nat) : Int) := by rw [← eN]; rfl
      rw [er] at e1
      -- the sum falls by the figure
      have sum : (b + a / (n.toNat * n.toNat + 1) * ((n.toNat - 1) * (n.toNat - 1))) + (c + a / (n.toNat * n.toNat + 1) * (2 * n.toNat - 1)) + (d + a / (n.toNat * n.toNat + 1)) + 0 + a % (n.toNat * n.toNat + 1) = a + b + c + d := by
        obtain ⟨m, hm⟩ : ∃ m : Nat, n.toNat = m + 1 := ⟨n.toNat - 1, by omega⟩
        rw [hm] at hr ⊢
        rw [show m + 1 - 1 = m by omega, show 2 * (m + 1) - 1 = 2 * m + 1 by omega]
        generalize a / ((m + 1) * (m + 1) + 1) = q at *
        generalize a % ((m + 1) * (m + 1) + 1) = r at *
        subst hr
        grind
      obtain ⟨k, hk⟩ : ∃ k, orb (-n, s) (nxt (-n, s) (vl n s a b c d)) k = (0, 0) := by
        rw [e2]
        by_cases r0 : a % (n.toNat * n.toNat + 1) = 0
        · -- no figure: the pair is shorter
          by_cases z : norm (vl n s a b c d) = 0
          · refine ihM _ _ _ _ (by omega) ?_
            rw [← e2]
            have st := step_eq h (vl n s a b c d)
            rw [e1, r0] at st
            have nm := norm_mul (-n, s) (nxt (-n, s) (vl n s a b c d))
            have st2 : mul (-n, s) (nxt (-n, s) (vl n s a b c d)) = vl n s a b c d := by
              refine Prod.ext ?_ ?_
              · have := congrArg Prod.fst st
                simp only at this
                omega
              · exact (congrArg Prod.snd st).symm
            rw [st2, z] at nm
            have p := h.two
            have nz : norm (-n, s) = sz (-n, s) := rfl
            rw [nz] at nm
            have n1 := norm_nn (nxt (-n, s) (vl n s a b c d))
            have := Int.mul_le_mul_of_nonneg_right p n1
            omega
          · refine ihM _ _ _ _ (by omega) ?_
            rw [← e2]
            have st := step_eq h (vl n s a b c d)
            rw [e1, r0] at st
            have nm := norm_mul (-n, s) (nxt (-n, s) (vl n s a b c d))
            have st2 : mul (-n, s) (nxt (-n, s) (vl n s a b c d)) = vl n s a b c d := by
              refine Prod.ext ?_ ?_
              · have := congrArg Prod.fst st
                simp only at this
                omega
              · exact (congrArg Prod.snd st).symm
            rw [st2] at nm
            have p := h.two
            have nz : norm (-n, s) = sz (-n, s) := rfl
            rw [nz] at nm
            have n1 := norm_nn (nxt (-n, s) (vl n s a b c d))
            have := Int.mul_le_mul_of_nonneg_right p n1
            have n0 := norm_nn (vl n s a b c d)
            omega
        · exact ihS _ _ _ _ _ (by omega) (Nat.le_refl _)
      refine ⟨1 + k, ?_⟩
      rw [orb_add]
      exact hk
/-- each pair is such a one -/
theorem vl_all {n s : Int} (hn : 1 ≤ n) (hs : s * s = 1) (p : P2) : ∃ a b c d : Nat, vl n s a b c d = p := by
  obtain ⟨x, y⟩ := p
  -- p is X and Y times the base
  have go : ∀ X Y : Int, ∃ a b c d : Nat, vl n s a b c d = (X - n * Y, s * Y) := by
    intro X Y
    obtain ⟨N, hN⟩ : ∃ N : Nat, n = N := ⟨n.toNat, by omega⟩
    have pos : ∀ Z : Int, ∃ u v : Nat, Z = (u : Int) - v := fun Z => ⟨Z.toNat, (-Z).toNat, by omega⟩
    obtain ⟨x1, x2, hx⟩ := pos X
    obtain ⟨y1, y2, hy⟩ := pos Y
    refine ⟨x1 + N * N * x2, y1 + 2 * N * x2 + N * N * y2, x2 + 2 * N * y2, y2, ?_⟩
    subst hN
    unfold vl
    rw [hx, hy]
    refine Prod.ext ?_ ?_
    · simp only [Int.natCast_add, Int.natCast_mul]
      grind
    · simp only [Int.natCast_add, Int.natCast_mul]
      grind
  obtain ⟨a, b, c, d, h⟩ := go (x + n * (s * y)) (s * y)
  refine ⟨a, b, c, d, h.trans (Prod.ext ?_ ?_)⟩
  · show x + n * (s * y) - n * (s * y) = x
    omega
  · show s * (s * y) = y
    rw [← Int.mul_assoc, hs, Int.one_mul]
theorem zero_first {b p : P2} : ∀ k, orb b p k = (0, 0) → ∃ n, orb b p n = (0, 0) ∧ ∀ i, i < n → orb b p i ≠ (0, 0) := by
  intro k
  induction k using Nat.strongRecOn with
  | ind k ih =>
    intro hk
    by_cases c : ∀ i, i < k → orb b p i ≠ (0, 0)
    · exact ⟨k, hk, c⟩
    · obtain ⟨i, hi, e⟩ : ∃ i, i < k ∧ orb b p i = (0, 0) := by
        refine Classical.byContradiction fun z => c fun i hi e => z ⟨i, hi, e⟩
      exact ih i hi e
theorem aro_of_zero {b p : P2} (h : IsB b) {k : Nat} (hk : orb b p k = (0, 0)) : aro b p = [] := by
  obtain ⟨n, hn, hm⟩ := zero_first k hk
  refine (aro_nil h).mpr ?_
  rw [lst_zero h hn hm]
  exact hn
theorem all_told {b : P2} (h : IsB b) (ha : isAll b = true) (p : P2) : aro b p = [] := by
  obtain ⟨b1, b2⟩ := b
  unfold isAll at ha
  rw [Bool.and_eq_true, Bool.or_eq_true] at ha
  have h1 : b1 < 0 := of_decide_eq_true ha.1
  have hs : b2 * b2 = 1 := by
    rcases ha.2 with e | e
    · have e : b2 = 1 := of_decide_eq_true e
      rw [e]; rfl
    · have e : b2 = -1 := of_decide_eq_true e
      rw [e]; rfl
  obtain ⟨n, rfl⟩ : ∃ n, b1 = -n := ⟨-b1, by omega⟩
  obtain ⟨a, x, c, d, rfl⟩ := vl_all (n := n) (s := b2) (by omega) hs p
  obtain ⟨k, hk⟩ := vl_reach h (by omega) hs _ _ a x c d (Nat.le_refl _) (Nat.le_refl _)
  exact aro_of_zero h hk
end M

set_option maxHeartbeats 4000000
set_option linter.all false
/-! ## Numbers of rows -/
namespace M
/-- a number's figures by s -/
def dgs (s n : Nat) : List Int := if h : n = 0 ∨ s < 2 then [] else ((n % s : Nat) : Int) :: dgs s (n / s)
termination_by n
decreasing_by exact Nat.div_lt_self (by omega) (by omega)
theorem dgs_zero (s : Nat) : dgs s 0 = [] := by rw [dgs]; simp
theorem dgs_pos {s n : Nat} (hs : 2 ≤ s) (hn : 0 < n) : dgs s n = ((n % s : Nat) : Int) :: dgs s (n / s) := by
  rw [dgs, dif_neg (by omega)]
/-- a row's number by s -/
def numR (s : Int) : List Int → Int
  | [] => 0
  | f :: r => numR s r * s + f
theorem num_dgs {s : Nat} (hs : 2 ≤ s) : ∀ n : Nat, numR (s : Int) (dgs s n) = n := by
  intro n
  induction n using Nat.strongRecOn with
  | ind n ih =>
    by_cases h : n = 0
    · subst h
      rw [dgs_zero]
      rfl
    · rw [dgs_pos hs (by omega)]
      show numR (s : Int) (dgs s (n / s)) * s + ((n % s : Nat) : Int) = n
      rw [ih (n / s) (Nat.div_lt_self (by omega) (by omega))]
      have := Nat.div_add_mod n s
      have e : ((n / s : Nat) : Int) * (s : Int) = ((s * (n / s) : Nat) : Int) := by rw [Nat.mul_comm]; simp
      rw [e]
      omega
theorem dgs_nil {s n : Nat} (hs : 2 ≤ s) (h : dgs s n = []) : n = 0 := by
  by_cases z : n = 0
  · exact z
  · rw [dgs_pos hs (by omega)] at h
    cases h
theorem isRow_cons {b : P2} {f : Int} {r : List Int} (h0 : 0 ≤ f) (h1 : f < sz b) (hr : isRow b r = true) (hz : r = [] → f ≠ 0) : isRow b (f :: r) = true := by
  unfold isRow at *
  rw [Bool.and_eq_true] at hr ⊢
  refine ⟨?_, ?_⟩
  · rw [List.all_cons, hr.1, decide_eq_true h0, decide_eq_true h1]
    rfl
  · cases r with
    | nil =>
      have := hz rfl
      simp [this]
    | cons x r =>
      have := hr.2
      simpa using this
theorem dgs_row {b : P2} {s : Nat} (hs : 2 ≤ s) (e : sz b = (s : Int)) : ∀ n : Nat, isRow b (dgs s n) = true := by
  intro n
  induction n using Nat.strongRecOn with
  | ind n ih =>
    by_cases h : n = 0
    · subst h
      rw [dgs_zero]
      rfl
    · rw [dgs_pos hs (by omega)]
      have hm := Nat.mod_lt n (show 0 < s by omega)
      refine isRow_cons (Int.natCast_nonneg _) (by rw [e]; exact Int.ofNat_lt.mpr hm) (ih _ (Nat.div_lt_self (by omega) (by omega))) fun z => ?_
      have hq := dgs_nil hs z
      have := Nat.div_add_mod n s
      rw [hq] at this
      omega
theorem numR_nn {s : Int} (hs : 0 ≤ s) {b : P2} : ∀ {r : List Int}, isRow b r = true → 0 ≤ numR s r
  | [], _ => Int.le_refl 0
  | f :: r, h => by
    obtain ⟨f0, _, hr, _⟩ := isRow_tail h
    have := Int.mul_nonneg (numR_nn hs hr) hs
    show 0 ≤ numR s r * s + f
    omega
theorem dgs_num {b : P2} {s : Nat} (hs : 2 ≤ s) (e : sz b = (s : Int)) : ∀ {r : List Int}, isRow b r = true → dgs s (numR (s : Int) r).toNat = r
  | [], _ => dgs_zero s
  | f :: r, h => by
    obtain ⟨f0, f1, hr, hz⟩ := isRow_tail h
    have ih := dgs_num hs e hr
    have n0 := numR_nn (s := (s : Int)) (by omega) hr
    obtain ⟨m, hm⟩ := Int.eq_ofNat_of_zero_le n0
    obtain ⟨g, rfl⟩ := Int.eq_ofNat_of_zero_le f0
    rw [e] at f1
    have g1 : g < s := Int.ofNat_lt.mp f1
    have en : (numR (s : Int) ((g : Int) :: r)).toNat = m * s + g := by
      show (numR (s : Int) r * s + (g : Int)).toNat = _
      rw [hm]
      have : ((m : Int) * (s : Int) + (g : Int)) = ((m * s + g : Nat) : Int) := by simp
      rw [this, Int.toNat_natCast]
    have hpos : 0 < m * s + g := by
      rcases Nat.eq_zero_or_pos m with z | z
      · subst z
        rw [hm] at ih
        have er : r = [] := by rw [← ih]; exact dgs_zero s
        have := hz er
        omega
      · have := Nat.mul_pos z (show 0 < s by omega)
        omega
    rw [en, dgs_pos hs hpos]
    have e1 : (m * s + g) % s = g := by rw [Nat.add_comm, Nat.add_mul_mod_self_right]; exact Nat.mod_eq_of_lt g1
    have e2 : (m * s + g) / s = m := by rw [Nat.add_comm, Nat.add_mul_div_right _ _ (by omega), Nat.div_eq_of_lt g1, Nat.zero_add]
    rw [e1, e2]
    rw [hm, Int.toNat_natCast] at ih
    rw [ih]
theorem dgs_len {s : Nat} (hs : 2 ≤ s) : ∀ (m n : Nat), n < 2 ^ m → (dgs s n).length ≤ m := by
  intro m
  induction m with
  | zero =>
    intro n hn
    have : n = 0 := by simp at hn; omega
    subst this
    rw [dgs_zero]
    exact Nat.le_refl 0
  | succ m ih =>
    intro n hn
    by_cases h : n = 0
    · subst h
      rw [dgs_zero]
      exact Nat.zero_le _
    · rw [dgs_pos hs (by omega), List.length_cons]
      have : n / s < 2 ^ m := by
        rw [Nat.div_lt_iff_lt_mul (by omega)]
        rw [Nat.pow_succ] at hn
        exact Nat.lt_of_lt_of_le hn (Nat.mul_le_mul_left _ hs)
      have := ih _ this
      omega
/-- the number of a pair that is told, the pair of a number -/
def numP (b p : P2) : Int := numR (sz b) (row b p)
def prN (b : P2) (n : Int) : P2 := rd b (dgs (sz b).toNat n.toNat)
theorem sz_nat {b : P2} (h : IsB b) : 2 ≤ (sz b).toNat ∧ sz b = ((sz b).toNat : Int) := by
  have := h.two
  omega
theorem prN_row {b : P2} (h : IsB b) (n : Int) : isRow b (dgs (sz b).toNat n.toNat) = true := dgs_row (sz_nat h).1 (sz_nat h).2 _
theorem prN_told {b : P2} (h : IsB b) (n : Int) : aro b (prN b n) = [] ∧ row b (prN b n) = dgs (sz b).toNat n.toNat := by
  obtain ⟨a, c⟩ := row_rd h (prN_row h n)
  exact ⟨c, a⟩
theorem num_prN {b : P2} (h : IsB b) {n : Int} (hn : 0 ≤ n) : numP b (prN b n) = n := by
  unfold numP
  rw [(prN_told h n).2]
  obtain ⟨h2, e⟩ := sz_nat h
  have := num_dgs h2 n.toNat
  rw [← e] at this
  rw [this]
  exact Int.toNat_of_nonneg hn
theorem dgs_numP {b p : P2} (h : IsB b) (e : aro b p = []) : dgs (sz b).toNat (numP b p).toNat = row b p := by
  obtain ⟨h2, es⟩ := sz_nat h
  have := dgs_num h2 es (row_is h e)
  rw [← es] at this
  exact this
/-- turned about -/
def cj (p : P2) : P2 := (p.1, -p.2)
theorem sz_cj (b : P2) : sz (cj b) = sz b := by unfold sz cj; simp only; rw [Int.neg_mul_neg]
theorem rd_cj (b : P2) : ∀ r : List Int, rd (cj b) r = cj (rd b r)
  | [] => by unfold cj rd; simp
  | f :: r => by
    have ih := rd_cj b r
    show ((mul (cj b) (rd (cj b) r)).1 + f, (mul (cj b) (rd (cj b) r)).2) = cj ((mul b (rd b r)).1 + f, (mul b (rd b r)).2)
    rw [ih]
    unfold mul cj
    refine Prod.ext ?_ ?_
    · simp only
      grind
    · simp only
      grind
theorem prN_cj (b : P2) (n : Int) : prN (cj b) n = cj (prN b n) := by
  unfold prN
  rw [sz_cj, rd_cj]
theorem prN_inj {b : P2} (h : IsB b) {m n : Int} (hm : 0 ≤ m) (hn : 0 ≤ n) (e : prN b m = prN b n) : m = n := by
  have a := num_prN h hm
  rw [e, num_prN h hn] at a
  exact a.symm
theorem isB_cj {b : P2} (h : IsB b) : IsB (b.1, -b.2) := by
  refine ⟨h.lo1, h.hi1, by have := h.hi2; show -30 ≤ -b.2; omega, by have := h.lo2; show -b.2 ≤ 30; omega, ?_, ?_⟩
  · show Int.gcd b.1 (-b.2) = 1
    rw [Int.gcd_neg]
    exact h.co
  · have e : sz (b.1, -b.2) = sz b := sz_cj b
    rw [e]
    exact h.two
theorem isB_dec (b : P2) (h : (decide (-30 ≤ b.1) && decide (b.1 ≤ 30) && decide (-30 ≤ b.2) && decide (b.2 ≤ 30) && decide (Int.gcd b.1 b.2 = 1) && decide (2 ≤ sz b)) = true) : IsB b := by
  simp only [Bool.and_eq_true, decide_eq_true_eq] at h
  exact ⟨h.1.1.1.1.1, h.1.1.1.1.2, h.1.1.1.2, h.1.1.2, h.1.2, h.2⟩
/-- a row's pair is small -/
theorem rd_bd {b : P2} (h : IsB b) : ∀ r : List Int, isRow b r = true → norm (rd b r) + 1 ≤ 2 ^ (13 * r.length + 12)
  | [], _ => by
    show norm (0, 0) + 1 ≤ 2 ^ 12
    decide
  | f :: r, hr => by
    obtain ⟨f0, f1, h2, _⟩ := isRow_tail hr
    have ih := rd_bd h r h2
    have hs := h.sz_le
    have hp := h.pos
    have hn := norm_nn (rd b r)
    have e : (2 : Int) ^ (13 * (f :: r).length + 12) = 8192 * 2 ^ (13 * r.length + 12) := by
      rw [List.length_cons, show 13 * (r.length + 1) + 12 = 13 + (13 * r.length + 12) by omega, Int.pow_add]
      rfl
    have hx : (4096 : Int) ≤ 2 ^ (13 * r.length + 12) := by
      have h1 : (2 : Int) ^ (13 * r.length + 12) = 2 ^ (13 * r.length) * 4096 := by rw [Int.pow_add]; rfl
      have h2 : (0 : Int) < 2 ^ (13 * r.length) := Int.pow_pos (by decide)
      rw [h1]
      omega
    rw [e]
    generalize (2 : Int) ^ (13 * r.length + 12) = X at *
    have nm : norm (mul b (rd b r)) = sz b * norm (rd b r) := norm_mul b (rd b r)
    show norm ((mul b (rd b r)).1 + f, (mul b (rd b r)).2) + 1 ≤ 8192 * X
    generalize rd b r = q at *
    generalize mul b q = m at *
    have k1 : sz b * norm q ≤ 1800 * norm q := Int.mul_le_mul_of_nonneg_right hs hn
    have k2 : f * f ≤ 1800 * 1800 := sq_le (by omega) (by omega)
    have k3 := sq_nn (m.1 - f)
    have k4 : (m.1 + f) * (m.1 + f) + (m.1 - f) * (m.1 - f) = 2 * (m.1 * m.1) + 2 * (f * f) := by grind
    have k5 := sq_nn m.2
    have k6 : norm (m.1 + f, m.2) = (m.1 + f) * (m.1 + f) + m.2 * m.2 := rfl
    have k7 : norm m = m.1 * m.1 + m.2 * m.2 := rfl
    rw [k6]
    rw [k7] at nm
    omega
theorem prN_norm {b : P2} (h : IsB b) {n : Int} (h0 : 0 ≤ n) (h1 : n < 2 ^ 150) : norm (prN b n) < 2 ^ 2000 := by
  have hl : (dgs (sz b).toNat n.toNat).length ≤ 150 := by
    refine dgs_len (sz_nat h).1 150 n.toNat ?_
    have e : ((2 ^ 150 : Nat) : Int) = 2 ^ 150 := by norm_cast
    omega
  have hb := rd_bd h _ (prN_row h n)
  have mono : (2 : Int) ^ (13 * (dgs (sz b).toNat n.toNat).length + 12) ≤ 2 ^ 2000 := by
    have := Int.ofNat_le.mpr (Nat.pow_le_pow_right (show 0 < 2 by decide) (show 13 * (dgs (sz b).toNat n.toNat).length + 12 ≤ 2000 by omega))
    exact_mod_cast this
  unfold prN
  generalize (2 : Int) ^ 2000 = z at *
  generalize (2 : Int) ^ (13 * (dgs (sz b).toNat n.toNat).length + 12) = y at *
  omega
end M

set_option Elab.async false
set_option linter.all false
set_option maxRecDepth 100000
set_option maxHeartbeats 4000000
/-! ## A small layer: expressions and statements over frames of plain data -/
namespace G
open PySem PySem.Spec PyProof.Rows L2 Evl
abbrev D := PyData
abbrev DF := List (Option D)
abbrev KF := PySem.W.Frag

/-- how an object of the class at C with one field, with none, is written down among the data -/
def obD (C : Addr) (f : Str) (d : D) : D := .dict [(.tuple [.int (C : Nat), .str f], d)]
def obN (C : Addr) : D := .dict [(.int (C : Nat), .none)]
/-- a bare address: a def as a value, a caught error -/
def rawD (a : Addr) : D := .dict [(.bool true, .int (a : Nat))]
mutual
/-- v stands for the data d in H: every list, tuple, dict and object in it is tracked -/
inductive Rp (H : Hp) : V → D → Prop
  | non : Rp H .non .none
  | bl (b : Bool) : Rp H (.bl b) (.bool b)
  | int (i : Int) : Rp H (.int i) (.int i)
  | str (x : Str) : Rp H (.str x) (.str x)
  | lst {a : Addr} {xs : List V} {ds : List D} : H a = some (.lst xs) → RpA H xs ds → Rp H (.ref a) (.list ds)
  | tup {a : Addr} {xs : List V} {ds : List D} : H a = some (.tup xs) → RpA H xs ds → Rp H (.ref a) (.tuple ds)
  | dct {a : Addr} : H a = some (.dK []) → Rp H (.ref a) (.dict [])
  | ob {p C dx : Addr} {f : Str} {u : V} {d : D} : H p = some (.ins C dx [(f, u)]) → Rp H u d → Rp H (.ref p) (obD C f d)
  | obn {p C dx : Addr} : H p = some (.ins C dx []) → Rp H (.ref p) (obN C)
  | raw (a : Addr) : Rp H (.ref a) (rawD a)
inductive RpA (H : Hp) : List V → List D → Prop
  | nil : RpA H [] []
  | cons {v : V} {vs : List V} {d : D} {ds : List D} : Rp H v d → RpA H vs ds → RpA H (v :: vs) (d :: ds)
end
mutual
theorem rp_mono {H H' : Hp} (e : Ex H H') : ∀ {v : V} {d : D}, Rp H v d → Rp H' v d
  | _, _, .non => .non
  | _, _, .bl b => .bl b
  | _, _, .int i => .int i
  | _, _, .str x => .str x
  | _, _, .lst h a => .lst (e _ _ h) (rpa_mono e a)
  | _, _, .tup h a => .tup (e _ _ h) (rpa_mono e a)
  | _, _, .dct h => .dct (e _ _ h)
  | _, _, .ob h a => .ob (e _ _ h) (rp_mono e a)
  | _, _, .obn h => .obn (e _ _ h)
  | _, _, .raw a => .raw a
theorem rpa_mono {H H' : Hp} (e : Ex H H') : ∀ {vs : List V} {ds : List D}, RpA H vs ds → RpA H' vs ds
  | _, _, .nil => .nil
  | _, _, .cons h a => .cons (rp_mono e h) (rpa_mono e a)
end
mutual
/-- the library's word for it (no dict within) -/
theorem rp_dp {K : KF} {H : Hp} : ∀ {v : V} {d : D}, Rp H v d → d.canLay0 = true → Dp K H v d
  | _, _, .non, _ => .non
  | _, _, .bl b, _ => .bl b
  | _, _, .int i, _ => .int i
  | _, _, .str x, _ => .str x
  | _, _, .lst h a, c => .lst (.of h) (rpa_dpa a (by simpa only [PyData.canLay0] using c))
  | _, _, .tup h a, c => .tup (.of h) (rpa_dpa a (by simpa only [PyData.canLay0] using c))
  | _, _, .dct _, c => by simp [PyData.canLay0] at c
  | _, _, .ob _ _, c => by simp [obD, PyData.canLay0] at c
  | _, _, .obn _, c => by simp [obN, PyData.canLay0] at c
  | _, _, .raw _, c => by simp [rawD, PyData.canLay0] at c
theorem rpa_dpa {K : KF} {H : Hp} : ∀ {vs : List V} {ds : List D}, RpA H vs ds → PyData.canLayAll0 ds = true → DpAll K H vs ds
  | _, _, .nil, _ => .nil
  | _, _, .cons h a, c => by
    simp only [PyData.canLayAll0, Bool.and_eq_true] at c
    exact .cons (rp_dp h c.1) (rpa_dpa a c.2)
end
theorem rp_sh {K : KF} {H : Hp} {v : V} {d : D} (h : Rp H v d) (c : SeqAt.shaped d = true) : Dp K H v d := rp_dp h (SeqAt.canLay_of_shaped c)
theorem rpa_len {H : Hp} : ∀ {vs : List V} {ds : List D}, RpA H vs ds → vs.length = ds.length
  | _, _, .nil => rfl
  | _, _, .cons _ a => congrArg (· + 1) (rpa_len a)
theorem rpa_get {H : Hp} : ∀ {vs : List V} {ds : List D} {i : Nat} {d : D}, RpA H vs ds → ds[i]? = some d → ∃ v, vs[i]? = some v ∧ Rp H v d
  | _, _, _, _, .nil, h => by simp at h
  | _, _, 0, _, .cons h _, e => ⟨_, rfl, by have e' := Option.some.inj e; subst e'; exact h⟩
  | _, _, i + 1, _, .cons _ a, e => by
    obtain ⟨v, h1, h2⟩ := rpa_get (i := i) a (by simpa using e)
    exact ⟨v, by simpa using h1, h2⟩
theorem rpa_getV {H : Hp} : ∀ {vs : List V} {ds : List D} {i : Nat} {v : V}, RpA H vs ds → vs[i]? = some v → ∃ d, ds[i]? = some d ∧ Rp H v d
  | _, _, _, _, .nil, h => by simp at h
  | _, _, 0, _, .cons h _, e => ⟨_, rfl, by have e' := Option.some.inj e; subst e'; exact h⟩
  | _, _, i + 1, _, .cons _ a, e => by
    obtain ⟨v, h1, h2⟩ := rpa_getV (i := i) a (by simpa using e)
    exact ⟨v, by simpa using h1, h2⟩
theorem rpa_app {H : Hp} : ∀ {vs ws : List V} {ds es : List D}, RpA H vs ds → RpA H ws es → RpA H (vs ++ ws) (ds ++ es)
  | _, _, _, _, .nil, b => b
  | _, _, _, _, .cons h a, b => .cons h (rpa_app a b)
theorem rpa_drop {H : Hp} : ∀ {vs : List V} {ds : List D} (n : Nat), RpA H vs ds → RpA H (vs.drop n) (ds.drop n)
  | _, _, 0, a => a
  | _, _, _ + 1, .nil => .nil
  | _, _, n + 1, .cons _ a => rpa_drop n a
theorem rpa_take {H : Hp} : ∀ {vs : List V} {ds : List D} (n : Nat), RpA H vs ds → RpA H (vs.take n) (ds.take n)
  | _, _, 0, _ => .nil
  | _, _, _ + 1, .nil => .nil
  | _, _, n + 1, .cons h a => .cons h (rpa_take n a)
theorem rpa_rev {H : Hp} : ∀ {vs : List V} {ds : List D}, RpA H vs ds → RpA H vs.reverse ds.reverse
  | _, _, .nil => .nil
  | _, _, .cons h a => by
    rw [List.reverse_cons, List.reverse_cons]
    exact rpa_app (rpa_rev a) (.cons h .nil)
theorem rpa_set {H : Hp} {v : V} {d : D} (hv : Rp H v d) : ∀ {vs : List V} {ds : List D} (n : Nat), RpA H vs ds → RpA H (vs.set n v) (ds.set n d)
  | _, _, _, .nil => .nil
  | _, _, 0, .cons _ a => .cons hv a
  | _, _, n + 1, .cons h a => .cons h (rpa_set hv n a)
theorem rpa_erase {H : Hp} : ∀ {vs : List V} {ds : List D} (n : Nat), RpA H vs ds → RpA H (vs.eraseIdx n) (ds.eraseIdx n)
  | _, _, _, .nil => .nil
  | _, _, 0, .cons _ a => a
  | _, _, n + 1, .cons h a => .cons h (rpa_erase n a)
theorem rp_int {H : Hp} {v : V} {i : Int} (h : Rp H v (.int i)) : v = .int i := by cases h; rfl
theorem rp_bl {H : Hp} {v : V} {i : Bool} (h : Rp H v (.bool i)) : v = .bl i := by cases h; rfl
theorem rp_lst {H : Hp} {v : V} {ds : List D} (h : Rp H v (.list ds)) : ∃ a xs, v = .ref a ∧ H a = some (.lst xs) ∧ RpA H xs ds := by cases h with | lst h a => exact ⟨_, _, rfl, h, a⟩
theorem rp_tup {H : Hp} {v : V} {ds : List D} (h : Rp H v (.tuple ds)) : ∃ a xs, v = .ref a ∧ H a = some (.tup xs) ∧ RpA H xs ds := by cases h with | tup h a => exact ⟨_, _, rfl, h, a⟩
theorem rpa_ints {H : Hp} : ∀ ns : List Int, RpA H (ns.map V.int) (ns.map PyData.int)
  | [] => .nil
  | n :: ns => .cons (.int n) (rpa_ints ns)
theorem rpa_intsV {H : Hp} : ∀ {ns : List Int} {vs : List V}, RpA H vs (ns.map PyData.int) → vs = ns.map V.int
  | [], _, .nil => rfl
  | n :: ns, _, .cons h a => by
    rw [rp_int h, rpa_intsV a]
    all_goals rfl
theorem rpa_blsV {H : Hp} : ∀ {ns : List Bool} {vs : List V}, RpA H vs (ns.map PyData.bool) → vs = ns.map V.bl
  | [], _, .nil => rfl
  | n :: ns, _, .cons h a => by
    rw [rp_bl h, rpa_blsV a]
    all_goals rfl
theorem rp_newT {H : Hp} {p : Addr} {vs : List V} {ds : List D} (hp : H p = none) (h : RpA H vs ds) : Rp (upd H p (.tup vs)) (.ref p) (.tuple ds) := .tup upd_same (rpa_mono (Ex.new hp) h)
theorem rp_newL {H : Hp} {p : Addr} {vs : List V} {ds : List D} (hp : H p = none) (h : RpA H vs ds) : Rp (upd H p (.lst vs)) (.ref p) (.list ds) := .lst upd_same (rpa_mono (Ex.new hp) h)

/-- a frame told by data -/
structure Fr (H : Hp) (σ : L2.St) (ds : DF) : Prop where
  len : σ.length = ds.length
  at_ : ∀ (i : Nat) (d : D), ds[i]? = some (some d) → ∃ v, σ[i]? = some (some v) ∧ Rp H v d
theorem Fr.mono {H H' : Hp} {σ : L2.St} {ds : DF} (f : Fr H σ ds) (e : Ex H H') : Fr H' σ ds :=
  ⟨f.len, fun i d h => let ⟨v, a, b⟩ := f.at_ i d h; ⟨v, a, rp_mono e b⟩⟩
theorem Fr.set {H : Hp} {σ : L2.St} {ds : DF} {v : V} {d : D} (f : Fr H σ ds) (i : Nat) (h : Rp H v d) : Fr H (σ.set i (some v)) (ds.set i (some d)) := by
  refine ⟨by rw [List.length_set, List.length_set]; exact f.len, fun j e hj => ?_⟩
  by_cases q : i = j
  · subst q
    rw [List.getElem?_set] at hj ⊢
    rw [if_pos rfl] at hj ⊢
    by_cases z : i < ds.length
    · rw [if_pos z] at hj
      rw [if_pos (by rw [f.len]; exact z)]
      cases hj
      exact ⟨v, rfl, h⟩
    · rw [if_neg z] at hj
      cases hj
  · rw [List.getElem?_set_ne q] at hj ⊢
    exact f.at_ j e hj
/-- a slot's value, told -/
theorem Fr.add {H : Hp} {σ : L2.St} {ds : DF} {v : V} {d : D} (f : Fr H σ ds) {i : Nat} (hi : σ[i]? = some (some v)) (h : Rp H v d) : Fr H σ (ds.set i (some d)) := by
  have e : σ.set i (some v) = σ := by
    obtain ⟨hl, q⟩ := List.getElem?_eq_some_iff.mp hi
    rw [← q]
    exact List.set_getElem_self hl
  have q := f.set i h
  rw [e] at q
  exact q
/-- a slot is written that the data don't tell -/
theorem Fr.hide {H : Hp} {σ : L2.St} {ds : DF} {o : Option V} (f : Fr H σ ds) (i : Nat) : Fr H (σ.set i o) (ds.set i none) := by
  refine ⟨by rw [List.length_set, List.length_set]; exact f.len, fun j e hj => ?_⟩
  by_cases q : i = j
  · subst q
    rw [List.getElem?_set] at hj
    rw [if_pos rfl] at hj
    split at hj <;> cases hj
  · rw [List.getElem?_set_ne q] at hj ⊢
    exact f.at_ j e hj
theorem Fr.less {H : Hp} {σ : L2.St} {ds ds' : DF} (f : Fr H σ ds) (hl : ds'.length = ds.length) (h : ∀ (i : Nat) (d : D), ds'[i]? = some (some d) → ds[i]? = some (some d)) : Fr H σ ds' :=
  ⟨f.len.trans hl.symm, fun i d e => f.at_ i d (h i d e)⟩
theorem fr_of {H : Hp} : ∀ {vs : List V} {ds : List D}, RpA H vs ds → Fr H (vs.map some) (ds.map some) := by
  intro vs ds h
  refine ⟨by rw [List.length_map, List.length_map]; exact rpa_len h, fun i d e => ?_⟩
  rw [List.getElem?_map] at e
  cases q : ds[i]? with
  | none => rw [q] at e; cases e
  | some z =>
    rw [q] at e
    have e' : z = d := Option.some.inj (Option.some.inj e)
    subst e'
    obtain ⟨v, h1, h2⟩ := rpa_get h q
    exact ⟨v, by rw [List.getElem?_map, h1]; rfl, h2⟩
def startD (N : List Str) (ds : List D) : DF := ds.map some ++ List.replicate (N.length - ds.length) none
theorem fr_start {H : Hp} {vs : List V} {ds : List D} (N : List Str) (h : RpA H vs ds) : Fr H (L2.start N vs) (startD N ds) := by
  have f := fr_of h
  have hl := rpa_len h
  refine ⟨?_, fun i d e => ?_⟩
  · unfold L2.start startD
    rw [List.length_append, List.length_append, List.length_map, List.length_map, List.length_replicate, List.length_replicate, hl]
  · unfold startD at e
    unfold L2.start
    by_cases q : i < ds.length
    · rw [List.getElem?_append_left (by rw [List.length_map]; exact q)] at e
      rw [List.getElem?_append_left (by rw [List.length_map, hl]; exact q)]
      exact f.at_ i d e
    · rw [List.getElem?_append_right (by rw [List.length_map]; omega), List.getElem?_replicate] at e
      split at e <;> cases e

/-! ### judgements -/
section
variable {X : Cx}
def tE (X : Cx) (e : Expr) : TE := fun σ H Q => ∀ pins s, Inv X pins σ H s → wpAny (model X.prog X.w) X.A (eval e X.env) (EP X pins σ Q) X.xe s
theorem trE (e : Expr) : PE X e (tE X e) := ⟨fun pins s _ _ _ I h => h pins s I⟩
theorem tE_mono {e : Expr} {σ : L2.St} {H : Hp} {Q Q' : VK} (h : tE X e σ H Q) (q : ∀ v H', Q v H' → Q' v H') : tE X e σ H Q' := fun pins s I =>
  wpAny_mono (h pins s I) (fun _ _ ⟨v, H', I', r, z⟩ => ⟨v, H', I', r, q v H' z⟩) fun _ _ z => z
def tT (X : Cx) (e : Expr) : TT := fun σ H Q => ∀ pins s, Inv X pins σ H s → wpAny (model X.prog X.w) X.A (isTrue e X.env (eval e X.env)) (TP X pins σ Q) X.xe s
theorem trT (e : Expr) : PT X e (tT X e) := ⟨fun pins s _ _ _ I h => h pins s I⟩
theorem tT_mono {e : Expr} {σ : L2.St} {H : Hp} {Q Q' : Bool → Hp → Prop} (h : tT X e σ H Q) (q : ∀ v H', Q v H' → Q' v H') : tT X e σ H Q' := fun pins s I =>
  wpAny_mono (h pins s I) (fun _ _ ⟨H', I', z⟩ => ⟨H', I', q _ H' z⟩) fun _ _ z => z
def tA (X : Cx) (es : List Expr) : TA := fun σ H Q => ∀ pos pins s, Inv X pins σ H s → wpAny (model X.prog X.w) X.A (spliced (backTo pos (starEach es X.env))) (AP X pins σ Q) X.xe s
theorem trA (es : List Expr) : PA X es (tA X es) := ⟨fun pos pins s _ _ _ I h => h pos pins s I⟩
theorem tA_mono {es : List Expr} {σ : L2.St} {H : Hp} {Q Q' : List V → Hp → Prop} (h : tA X es σ H Q) (q : ∀ v H', Q v H' → Q' v H') : tA X es σ H Q' := fun pos pins s I =>
  wpAny_mono (h pos pins s I) (fun _ _ ⟨v, H', I', r, z⟩ => ⟨v, H', I', r, q v H' z⟩) fun _ _ z => z
def tS (X : Cx) (st : Stmt) : TS := fun D σ H => ∀ pins s, Inv X pins σ H s → wpAny (model X.prog X.w) X.A (exec st X.env) (SP X pins D) X.xe s
theorem trS (st : Stmt) : PS X st (tS X st) := ⟨fun pins s _ _ _ I h => h pins s I⟩
def tSs (X : Cx) (st : List Stmt) : TS := fun D σ H => ∀ pins s, Inv X pins σ H s → wpAny (model X.prog X.w) X.A (execs st X.env) (SP X pins D) X.xe s
theorem trSs (st : List Stmt) : PSs X st (tSs X st) := ⟨fun pins s _ _ _ I h => h pins s I⟩
structure Ends.le (D D' : Ends) : Prop where
  nx : ∀ σ H, D.nx σ H → D'.nx σ H
  rt : ∀ v H, D.rt v H → D'.rt v H
  bk : ∀ σ H, D.bk σ H → D'.bk σ H
  ct : ∀ σ H, D.ct σ H → D'.ct σ H
theorem SP_mono {pins : List (Addr × Obj)} {D D' : Ends} (l : Ends.le D D') {f : Flow} {s' : Shared} (h : SP X pins D f s') : SP X pins D' f s' := by
  cases f with
  | next => obtain ⟨σ', H', I, q⟩ := h; exact ⟨σ', H', I, l.nx _ _ q⟩
  | brk => obtain ⟨σ', H', I, q⟩ := h; exact ⟨σ', H', I, l.bk _ _ q⟩
  | cont => obtain ⟨σ', H', I, q⟩ := h; exact ⟨σ', H', I, l.ct _ _ q⟩
  | ret u => obtain ⟨v, σ', H', I, r, q⟩ := h; exact ⟨v, σ', H', I, r, l.rt _ _ q⟩
theorem tS_mono {st : Stmt} {σ : L2.St} {H : Hp} {D D' : Ends} (h : tS X st D σ H) (l : Ends.le D D') : tS X st D' σ H := fun pins s I => wpAny_mono (h pins s I) (fun _ _ z => SP_mono l z) fun _ _ z => z
theorem tSs_mono {st : List Stmt} {σ : L2.St} {H : Hp} {D D' : Ends} (h : tSs X st D σ H) (l : Ends.le D D') : tSs X st D' σ H := fun pins s I => wpAny_mono (h pins s I) (fun _ _ z => SP_mono l z) fun _ _ z => z

/-- e's value is d, under the frame ds -/
structure EX (X : Cx) (e : Expr) (ds : DF) (d : D) : Prop where
  run : ∀ σ H, Fr H σ ds → tE X e σ H fun v H' => Ex H H' ∧ Rp H' v d
structure EA (X : Cx) (es : List Expr) (ds : DF) (as : List D) : Prop where
  run : ∀ σ H, Fr H σ ds → tA X es σ H fun vs H' => Ex H H' ∧ RpA H' vs as
structure ET (X : Cx) (e : Expr) (ds : DF) (b : Bool) : Prop where
  run : ∀ σ H, Fr H σ ds → tT X e σ H fun c H' => c = b ∧ Ex H H'
/-- what a statement comes to -/
inductive Out where
  | nx (ds : DF)
  | rt (d : D)
def oEnds (H : Hp) : Out → Ends
  | .nx ds => { nx := fun σ' H' => Ex H H' ∧ Fr H' σ' ds, rt := fun _ _ => False }
  | .rt d => { nx := fun _ _ => False, rt := fun v H' => Ex H H' ∧ Rp H' v d }
structure SX (X : Cx) (st : Stmt) (ds : DF) (o : Out) : Prop where
  run : ∀ σ H, Fr H σ ds → tS X st (oEnds H o) σ H
structure SXs (X : Cx) (st : List Stmt) (ds : DF) (o : Out) : Prop where
  run : ∀ σ H, Fr H σ ds → tSs X st (oEnds H o) σ H

variable {e a b c : Expr} {es : List Expr} {ds ds' : DF} {d d1 d2 d3 : D} {as : List D} {i j : Int} {pos : Pos}
theorem ex_pe {t : TE} (h : PE X e t) (r : ∀ σ H, Fr H σ ds → t σ H fun v H' => Ex H H' ∧ Rp H' v d) : EX X e ds d := ⟨fun σ H f pins s I => h.run pins s σ H _ I (r σ H f)⟩
theorem et_pt {t : TT} {k : Bool} (h : PT X e t) (r : ∀ σ H, Fr H σ ds → t σ H fun c H' => c = k ∧ Ex H H') : ET X e ds k := ⟨fun σ H f pins s I => h.run pins s σ H _ I (r σ H f)⟩
theorem ea_pa {t : TA} (h : PA X es t) (r : ∀ σ H, Fr H σ ds → t σ H fun v H' => Ex H H' ∧ RpA H' v as) : EA X es ds as := ⟨fun σ H f pos pins s I => h.run pos pins s σ H _ I (r σ H f)⟩
theorem sx_ps {st : Stmt} {t : TS} {o : Out} (h : PS X st t) (r : ∀ σ H, Fr H σ ds → t (oEnds H o) σ H) : SX X st ds o := ⟨fun σ H f pins s I => h.run pins s σ H _ I (r σ H f)⟩
theorem sxs_pss {st : List Stmt} {t : TS} {o : Out} (h : PSs X st t) (r : ∀ σ H, Fr H σ ds → t (oEnds H o) σ H) : SXs X st ds o := ⟨fun σ H f pins s I => h.run pins s σ H _ I (r σ H f)⟩
theorem EX.to (h : EX X e ds d) (q : d = d1) : EX X e ds d1 := q ▸ h
theorem ET.to {k k' : Bool} (h : ET X e ds k) (q : k = k') : ET X e ds k' := q ▸ h
/-- one expression, then the rest -/
theorem EX.go (h : EX X e ds d) {σ : L2.St} {H0 H : Hp} {Q : VK} (f : Fr H0 σ ds) (e0 : Ex H0 H) (k : ∀ v H', Ex H H' → Rp H' v d → Q v H') : tE X e σ H Q :=
  tE_mono (h.run σ H (f.mono e0)) fun v H' ⟨q1, q2⟩ => k v H' q1 q2
theorem EA.go (h : EA X es ds as) {σ : L2.St} {H0 H : Hp} {Q : List V → Hp → Prop} (f : Fr H0 σ ds) (e0 : Ex H0 H) (k : ∀ v H', Ex H H' → RpA H' v as → Q v H') : tA X es σ H Q :=
  tA_mono (h.run σ H (f.mono e0)) fun v H' ⟨q1, q2⟩ => k v H' q1 q2
theorem ET.go {k : Bool} (h : ET X e ds k) {σ : L2.St} {H0 H : Hp} {Q : Bool → Hp → Prop} (f : Fr H0 σ ds) (e0 : Ex H0 H) (q : ∀ H', Ex H H' → Q k H') : tT X e σ H Q :=
  tT_mono (h.run σ H (f.mono e0)) fun v H' ⟨q1, q2⟩ => q1 ▸ q H' q2

/-! ### names, constants -/
theorem ex_var (n : Nat) {x : Str} (hd : ds[n]? = some (some d)) (hN : X.N[n]? = some x := by rfl) (hv : Vis X.env.scope x := by first | exact Or.inl rfl | exact Or.inr (Or.inl rfl) | exact Or.inr (Or.inr rfl))
    (h1 : (x == ("__debug__" : Str)) = false := by decide) (h2 : (x == ("__classdict__" : Str)) = false := by decide) : EX X (.Name x pos) ds d :=
  ex_pe (pv n hN hv h1 h2) fun _ H f => let ⟨v, a, q⟩ := f.at_ n d hd; ⟨v, a, Ex.refl H, q⟩
theorem ex_int {k} : EX X (.Constant (.int i) k pos) ds (.int i) := ex_pe pe_int fun _ H _ => ⟨Ex.refl H, .int i⟩
theorem ex_bl {k} {q : Bool} : EX X (.Constant (.bool q) k pos) ds (.bool q) := ex_pe pe_bl fun _ H _ => ⟨Ex.refl H, .bl q⟩
theorem ex_non {k} : EX X (.Constant .none k pos) ds .none := ex_pe pe_non fun _ H _ => ⟨Ex.refl H, .non⟩
theorem ex_str {k} {x : Str} : EX X (.Constant (.str x) k pos) ds (.str x) := ex_pe pe_str fun _ H _ => ⟨Ex.refl H, .str x⟩
theorem ex_globI {x : Str} (hg : Gl X x) (hm : ∃ t, X.mg x = some (.int i t)) (h1 : (x == ("__debug__" : Str)) = false := by decide) : EX X (.Name x pos) ds (.int i) := by
  obtain ⟨t, hm⟩ := hm
  exact ex_pe (pe_glob (v := .int i) hg hm ⟨t, rfl⟩ h1) fun _ H _ => ⟨Ex.refl H, .int i⟩
/-! ### operators -/
/-- what a rule of two values comes to -/
def R2D (r : R2) (d1 d2 d : D) : Prop := ∀ (H : Hp) (v u : V) (Q : VK), Rp H v d1 → Rp H u d2 → (∀ w H', Ex H H' → Rp H' w d → Q w H') → r v u H Q
theorem ex_op {op : Operator} {r : R2} (ho : OpR X (binaryOp op) r) (hr : R2D r d1 d2 d) (ha : EX X a ds d1) (hb : EX X b ds d2) : EX X (.BinOp a op b pos) ds d :=
  ex_pe (pe_op ho (trE a) (trE b)) fun _ _ f => ha.go f (Ex.refl _) fun v _ e1 q1 => hb.go f e1 fun u _ e2 q2 => hr _ v u _ (rp_mono e2 q1) q2 fun _ _ e3 q3 => ⟨(e1.trans e2).trans e3, q3⟩
theorem ex_cmp {op : CmpOp} {r : R2} (ho : OpR X (compareOp op) r) (hm : behindInMarks op b = false) (hr : R2D r d1 d2 d) (ha : EX X a ds d1) (hb : EX X b ds d2) : EX X (.Compare a [op] [b] pos) ds d :=
  ex_pe (pe_cmpR ho (trE a) (trE b) hm) fun _ _ f => ha.go f (Ex.refl _) fun v _ e1 q1 => hb.go f e1 fun u _ e2 q2 => hr _ v u _ (rp_mono e2 q1) q2 fun _ _ e3 q3 => ⟨(e1.trans e2).trans e3, q3⟩
theorem et_cmp {op : CmpOp} {r : R2} {k : Bool} (ho : OpR X (compareOp op) r) (hm : behindInMarks op b = false) (hr : R2D r d1 d2 (.bool k)) (ha : EX X a ds d1) (hb : EX X b ds d2) : ET X (.Compare a [op] [b] pos) ds k :=
  et_pt (pt_cmpR ho (trE a) (trE b) hm) fun _ _ f => ha.go f (Ex.refl _) fun v _ e1 q1 => hb.go f e1 fun u _ e2 q2 => hr _ v u _ (rp_mono e2 q1) q2 fun _ _ e3 q3 => ⟨k, rp_bl q3, rfl, (e1.trans e2).trans e3⟩
theorem rI0D {g : Int → Int → V} {i j : Int} {d : D} (h : ∀ H, Rp H (g i j) d) : R2D (rI0 g) (.int i) (.int j) d := fun H _ _ _ h1 h2 q => ⟨i, j, rp_int h1, rp_int h2, q _ H (Ex.refl H) (h H)⟩
theorem rID {C : Int → Int → Prop} {g : Int → Int → V} {i j : Int} {d : D} (hc : C i j) (h : ∀ H, Rp H (g i j) d) : R2D (rI C g) (.int i) (.int j) d := fun H _ _ _ h1 h2 q => ⟨i, j, rp_int h1, rp_int h2, hc, q _ H (Ex.refl H) (h H)⟩
theorem ex_add (ha : EX X a ds (.int i)) (hb : EX X b ds (.int j)) : EX X (.BinOp a .Add b pos) ds (.int (i + j)) := ex_op op_add (rI0D fun _ => .int _) ha hb
theorem ex_sub (ha : EX X a ds (.int i)) (hb : EX X b ds (.int j)) : EX X (.BinOp a .Sub b pos) ds (.int (i - j)) := ex_op op_sub (rI0D fun _ => .int _) ha hb
def CMulA (i j : Int) : Prop := IntMulOk i j
theorem op_mulA : OpR X (binaryOp .Mult) (rI CMulA fun i j => .int (i * j)) := opI fun _ _ _ _ _ _ _ hc q => mul_int q hc
theorem ex_mul (hc : IntMulOk i j) (ha : EX X a ds (.int i)) (hb : EX X b ds (.int j)) : EX X (.BinOp a .Mult b pos) ds (.int (i * j)) := ex_op op_mulA (rID hc fun _ => .int _) ha hb
theorem ex_fdiv (hc : 0 < j ∧ j < 1073741824) (ha : EX X a ds (.int i)) (hb : EX X b ds (.int j)) : EX X (.BinOp a .FloorDiv b pos) ds (.int (i / j)) := ex_op op_fdiv (rID hc fun _ => .int _) ha hb
theorem ex_mod (hc : 0 < j) (ha : EX X a ds (.int i)) (hb : EX X b ds (.int j)) : EX X (.BinOp a .Mod b pos) ds (.int (i % j)) := ex_op op_mod (rID hc fun _ => .int _) ha hb
theorem ex_pow (hc : 0 ≤ j ∧ j ≤ 1000000 ∧ i.natAbs < 2 ^ 64) (ha : EX X a ds (.int i)) (hb : EX X b ds (.int j)) : EX X (.BinOp a .Pow b pos) ds (.int (i ^ j.toNat)) := ex_op op_pow (rID hc fun _ => .int _) ha hb
theorem ex_neg (ha : EX X a ds (.int i)) : EX X (.UnaryOp .USub a pos) ds (.int (-i)) :=
  ex_pe (pe_un un_neg (trE a)) fun _ _ f => ha.go f (Ex.refl _) fun _ _ e1 q1 => ⟨i, rp_int q1, e1, .int _⟩
/-! ### comparisons -/
theorem r_lt : R2D (rI0 fun i j => .bl (decide (i < j))) (.int i) (.int j) (.bool (decide (i < j))) := rI0D fun _ => .bl _
theorem r_le : R2D (rI0 fun i j => .bl (decide (i ≤ j))) (.int i) (.int j) (.bool (decide (i ≤ j))) := rI0D fun _ => .bl _
theorem r_gt : R2D (rI0 fun i j => .bl (decide (j < i))) (.int i) (.int j) (.bool (decide (j < i))) := rI0D fun _ => .bl _
theorem r_ge : R2D (rI0 fun i j => .bl (decide (j ≤ i))) (.int i) (.int j) (.bool (decide (j ≤ i))) := rI0D fun _ => .bl _
theorem r_eqI : R2D rEq (.int i) (.int j) (.bool (decide (i = j))) := fun H _ _ _ h1 h2 q => by
  rw [rp_int h1, rp_int h2]
  refine ⟨rfl, q _ H (Ex.refl H) ?_⟩
  rw [dec_int, Bool.beq_eq_decide_eq]
  exact .bl _
theorem r_neI : R2D rNe (.int i) (.int j) (.bool (!decide (i = j))) := fun H _ _ _ h1 h2 q => by
  rw [rp_int h1, rp_int h2]
  refine ⟨rfl, q _ H (Ex.refl H) ?_⟩
  rw [dec_int, Bool.beq_eq_decide_eq]
  exact .bl _
theorem r_eqB {p q : Bool} : R2D rEq (.bool p) (.bool q) (.bool (p == q)) := fun H _ _ _ h1 h2 k => by
  rw [rp_bl h1, rp_bl h2]
  refine ⟨rfl, k _ H (Ex.refl H) ?_⟩
  rw [dec_bl]
  exact .bl _
theorem r_neB {p q : Bool} : R2D rNe (.bool p) (.bool q) (.bool (!(p == q))) := fun H _ _ _ h1 h2 k => by
  rw [rp_bl h1, rp_bl h2]
  refine ⟨rfl, k _ H (Ex.refl H) ?_⟩
  rw [dec_bl]
  exact .bl _
theorem r_isB {p q : Bool} : R2D rIsB (.bool p) (.bool q) (.bool (decide (p = q))) := fun H _ _ _ h1 h2 k => ⟨p, q, rp_bl h1, rp_bl h2, k _ H (Ex.refl H) (.bl _)⟩
theorem r_notB {p q : Bool} : R2D rNotB (.bool p) (.bool q) (.bool (!decide (p = q))) := fun H _ _ _ h1 h2 k => ⟨p, q, rp_bl h1, rp_bl h2, k _ H (Ex.refl H) (.bl _)⟩
/-- data of any depth -/
theorem r_eqD {K : KF} (h1 : SeqAt.shaped d1 = true) (h2 : SeqAt.shaped d2 = true) : R2D (rEqD K) d1 d2 (.bool (PyData.eqv d1 d2)) := fun H _ _ _ q1 q2 k => ⟨d1, d2, rp_sh q1 h1, rp_sh q2 h2, h1, h2, k _ H (Ex.refl H) (.bl _)⟩
theorem r_neD {K : KF} (h1 : SeqAt.shaped d1 = true) (h2 : SeqAt.shaped d2 = true) : R2D (rNeD K) d1 d2 (.bool (!PyData.eqv d1 d2)) := fun H _ _ _ q1 q2 k => ⟨d1, d2, rp_sh q1 h1, rp_sh q2 h2, h1, h2, k _ H (Ex.refl H) (.bl _)⟩
theorem r_inD {K : KF} {xs : List D} (h1 : SeqAt.shaped d1 = true) (h2 : SeqAt.shaped (.list xs) = true) : R2D (rInD K) d1 (.list xs) (.bool (xs.any fun z => PyData.eqv z d1)) := fun H _ _ _ q1 q2 k => ⟨d1, xs, rp_sh q1 h1, rp_sh q2 h2, h1, h2, k _ H (Ex.refl H) (.bl _)⟩
theorem r_notInD {K : KF} {xs : List D} (h1 : SeqAt.shaped d1 = true) (h2 : SeqAt.shaped (.list xs) = true) : R2D (rNotInD K) d1 (.list xs) (.bool (!xs.any fun z => PyData.eqv z d1)) := fun H _ _ _ q1 q2 k => ⟨d1, xs, rp_sh q1 h1, rp_sh q2 h2, h1, h2, k _ H (Ex.refl H) (.bl _)⟩
/-- an int in a written tuple of ints -/
theorem inV_ints {z : Int} : ∀ ns : List Int, inV (.int z) (ns.map V.int) = ns.any fun n => decide (n = z)
  | [] => rfl
  | n :: ns => by
    have ih := inV_ints (z := z) ns
    unfold inV at ih ⊢
    rw [List.map_cons, List.any_cons, List.any_cons, ih]
    congr 1
theorem flat_ints : ∀ ns : List Int, (ns.map V.int).all flatV = true
  | [] => rfl
  | n :: ns => by
    rw [List.map_cons, List.all_cons, flat_ints ns, Bool.and_true]
    exact rfl
theorem r_inT {K : KF} {z : Int} (ns : List Int) : R2D (rIn K false) (.int z) (.tuple (ns.map PyData.int)) (.bool (ns.any fun n => decide (n = z))) := fun H v u Q q1 q2 k => by
  obtain ⟨p, xs, rfl, ht, hd⟩ := rp_tup q2
  have e1 := rp_int q1
  have e2 := rpa_intsV hd
  subst e1 e2
  refine ⟨p, _, rfl, .inr (.of ht), rfl, flat_ints ns, k _ H (Ex.refl H) ?_⟩
  rw [if_neg Bool.false_ne_true, inV_ints]
  exact .bl _
theorem hu64 {k : Nat} (hr : Room k X.A) : X.A.units + 64 < cLine := by have := hr.un; omega
theorem hu65 {k : Nat} (hr : Room k X.A) : X.A.units + 65 < cLine := by have := hr.un; omega
theorem ex_lt (ha : EX X a ds (.int i)) (hb : EX X b ds (.int j)) : EX X (.Compare a [.Lt] [b] pos) ds (.bool (decide (i < j))) := ex_cmp op_lt (nomark _) r_lt ha hb
theorem ex_le (ha : EX X a ds (.int i)) (hb : EX X b ds (.int j)) : EX X (.Compare a [.LtE] [b] pos) ds (.bool (decide (i ≤ j))) := ex_cmp op_le (nomark _) r_le ha hb
theorem ex_gt (ha : EX X a ds (.int i)) (hb : EX X b ds (.int j)) : EX X (.Compare a [.Gt] [b] pos) ds (.bool (decide (j < i))) := ex_cmp op_gt (nomark _) r_gt ha hb
theorem ex_ge (ha : EX X a ds (.int i)) (hb : EX X b ds (.int j)) : EX X (.Compare a [.GtE] [b] pos) ds (.bool (decide (j ≤ i))) := ex_cmp op_ge (nomark _) r_ge ha hb
theorem ex_eqI (ha : EX X a ds (.int i)) (hb : EX X b ds (.int j)) : EX X (.Compare a [.Eq] [b] pos) ds (.bool (decide (i = j))) := ex_cmp op_eq (nomark _) r_eqI ha hb
theorem ex_neI (ha : EX X a ds (.int i)) (hb : EX X b ds (.int j)) : EX X (.Compare a [.NotEq] [b] pos) ds (.bool (!decide (i = j))) := ex_cmp op_ne (nomark _) r_neI ha hb
theorem ex_eqB {p q : Bool} (ha : EX X a ds (.bool p)) (hb : EX X b ds (.bool q)) : EX X (.Compare a [.Eq] [b] pos) ds (.bool (p == q)) := ex_cmp op_eq (nomark _) r_eqB ha hb
theorem ex_neB {p q : Bool} (ha : EX X a ds (.bool p)) (hb : EX X b ds (.bool q)) : EX X (.Compare a [.NotEq] [b] pos) ds (.bool (!(p == q))) := ex_cmp op_ne (nomark _) r_neB ha hb
theorem ex_isB {p q : Bool} (ha : EX X a ds (.bool p)) (hb : EX X b ds (.bool q)) : EX X (.Compare a [.Is] [b] pos) ds (.bool (decide (p = q))) := ex_cmp op_isBl (nomark _) r_isB ha hb
theorem ex_notB {p q : Bool} (ha : EX X a ds (.bool p)) (hb : EX X b ds (.bool q)) : EX X (.Compare a [.IsNot] [b] pos) ds (.bool (!decide (p = q))) := ex_cmp op_notBl (nomark _) r_notB ha hb
theorem ex_eqD {k : Nat} (hr : Room k X.A) (h1 : SeqAt.shaped d1 = true) (h2 : SeqAt.shaped d2 = true) (ha : EX X a ds d1) (hb : EX X b ds d2) : EX X (.Compare a [.Eq] [b] pos) ds (.bool (PyData.eqv d1 d2)) := ex_cmp (op_eqD (hu64 hr)) (nomark _) (r_eqD h1 h2) ha hb
theorem ex_neD {k : Nat} (hr : Room k X.A) (h1 : SeqAt.shaped d1 = true) (h2 : SeqAt.shaped d2 = true) (ha : EX X a ds d1) (hb : EX X b ds d2) : EX X (.Compare a [.NotEq] [b] pos) ds (.bool (!PyData.eqv d1 d2)) := ex_cmp (op_neD (hu64 hr)) (nomark _) (r_neD h1 h2) ha hb
theorem ex_inD {k : Nat} {xs : List D} (hr : Room k X.A) (hm : behindInMarks .In b = false) (h1 : SeqAt.shaped d1 = true) (h2 : SeqAt.shaped (.list xs) = true) (ha : EX X a ds d1) (hb : EX X b ds (.list xs)) : EX X (.Compare a [.In] [b] pos) ds (.bool (xs.any fun z => PyData.eqv z d1)) := ex_cmp (op_inD (hu65 hr)) hm (r_inD h1 h2) ha hb
theorem ex_notInD {k : Nat} {xs : List D} (hr : Room k X.A) (hm : behindInMarks .NotIn b = false) (h1 : SeqAt.shaped d1 = true) (h2 : SeqAt.shaped (.list xs) = true) (ha : EX X a ds d1) (hb : EX X b ds (.list xs)) : EX X (.Compare a [.NotIn] [b] pos) ds (.bool (!xs.any fun z => PyData.eqv z d1)) := ex_cmp (op_notInD (hu65 hr)) hm (r_notInD h1 h2) ha hb
theorem ex_inT {z : Int} (ns : List Int) (hm : behindInMarks .In b = false) (ha : EX X a ds (.int z)) (hb : EX X b ds (.tuple (ns.map PyData.int))) : EX X (.Compare a [.In] [b] pos) ds (.bool (ns.any fun n => decide (n = z))) := ex_cmp op_in_seq hm (r_inT ns) ha hb
/-- lo <= x < hi -/
theorem ex_chain {k1 : Bool} {op op' : CmpOp} {r r' : R2} (ho : OpR X (compareOp op) r) (ho' : OpR X (compareOp op') r') (hr : R2D r d1 d2 (.bool k1)) (hr' : k1 = true → R2D r' d2 d3 d) (hf : k1 = false → d = .bool false) (ha : EX X a ds d1) (hb : EX X b ds d2) (hc : EX X c ds d3)
    (hm : lastMarks [op, op'] [b, c] = false := by with_unfolding_all rfl) : EX X (.Compare a [op, op'] [b, c] pos) ds d :=
  ex_pe (pe_chain ho ho' (trE a) (trE b) (trE c) hm) fun _ _ f => ha.go f (Ex.refl _) fun v _ e1 q1 => hb.go f e1 fun u _ e2 q2 => hr _ v u _ (rp_mono e2 q1) q2 fun _ H3 e3 q3 => ⟨k1, rp_bl q3, by
    cases k1 with
    | false =>
      rw [if_neg Bool.false_ne_true, hf rfl]
      exact ⟨(e1.trans e2).trans e3, .bl _⟩
    | true =>
      rw [if_pos rfl]
      exact hc.go f ((e1.trans e2).trans e3) fun w _ e4 q4 => hr' rfl _ u w _ (rp_mono (e3.trans e4) q2) q4 fun _ _ e5 q5 => ⟨(((e1.trans e2).trans e3).trans e4).trans e5, q5⟩⟩
theorem ex_between {l : Int} (ha : EX X a ds (.int l)) (hb : EX X b ds (.int i)) (hc : EX X c ds (.int j)) (hm : lastMarks [.LtE, .Lt] [b, c] = false := by with_unfolding_all rfl) : EX X (.Compare a [.LtE, .Lt] [b, c] pos) ds (.bool (decide (l ≤ i) && decide (i < j))) := by
  refine ex_chain op_le op_lt r_le (fun h => ?_) (fun h => ?_) ha hb hc hm
  · rw [h, Bool.true_and]
    exact r_lt
  · rw [h, Bool.false_and]
/-! ### arguments, displays -/
theorem ea_nil : EA X [] ds [] := ea_pa pa_nil fun _ H _ => ⟨Ex.refl H, .nil⟩
theorem ea_cons (ha : EX X e ds d) (hr : EA X es ds as) (hs : starEach (e :: es) X.env = (false, eval e X.env) :: starEach es X.env := by rfl) : EA X (e :: es) ds (d :: as) :=
  ea_pa (pa_cons (trE e) (trA es) hs) fun _ _ f => ha.go f (Ex.refl _) fun _ _ e1 q1 => hr.go f e1 fun _ _ e2 q2 => ⟨e1.trans e2, .cons (rp_mono e2 q1) q2⟩
theorem ex_tup {k} (h : EA X es ds as) (hl : as.length ≤ sizeLine := by (rw [sizeLine_eq]; first | exact Nat.zero_le _ | (simp only [List.length_map, List.length_cons, List.length_nil]; decide))) : EX X (.Tuple es k pos) ds (.tuple as) :=
  ex_pe (pe_tup (trA es)) fun _ _ f => h.go f (Ex.refl _) fun _ _ e1 q1 => ⟨by rw [rpa_len q1]; exact hl, fun _ hp => ⟨e1.trans (Ex.new hp), rp_newT hp q1⟩⟩
theorem ex_lst (h : EA X es ds as) (hl : as.length ≤ sizeLine := by (rw [sizeLine_eq]; first | exact Nat.zero_le _ | (simp only [List.length_map, List.length_cons, List.length_nil]; decide))) : EX X (.List es pos) ds (.list as) :=
  ex_pe (pe_lst (trA es)) fun _ _ f => h.go f (Ex.refl _) fun _ _ e1 q1 => ⟨by rw [rpa_len q1]; exact hl, fun _ hp => ⟨e1.trans (Ex.new hp), rp_newL hp q1⟩⟩
/-! ### subscripts, slices -/
theorem atI_rpa {H : Hp} {vs : List V} {xs : List D} {i : Int} {d : D} (h : RpA H vs xs) (q : atI xs i = some d) : ∃ v, atI vs i = some v ∧ Rp H v d := by
  unfold atI at q ⊢
  rw [rpa_len h]
  cases z : ixN xs.length i with
  | none => rw [z] at q; cases q
  | some j =>
    rw [z] at q
    exact rpa_get h q
theorem ex_ixT {xs : List D} (ha : EX X a ds (.tuple xs)) (hb : EX X b ds (.int i)) (hi : atI xs i = some d) (hs : PlainIx b := by exact fun _ _ => rfl) : EX X (.Subscript a b pos) ds d :=
  ex_pe (pe_ix ix_tup (trE a) (trE b) hs) fun _ _ f => ha.go f (Ex.refl _) fun _ _ e1 q1 => hb.go f e1 fun _ _ e2 q2 => by
    obtain ⟨p, vs, rfl, hp, q⟩ := rp_tup (rp_mono e2 q1)
    obtain ⟨v, hv, qv⟩ := atI_rpa q hi
    exact ⟨p, vs, i, v, rfl, rp_int q2, .of hp, hv, e1.trans e2, qv⟩
theorem ex_ixL {xs : List D} (ha : EX X a ds (.list xs)) (hb : EX X b ds (.int i)) (hi : atI xs i = some d) (hs : PlainIx b := by exact fun _ _ => rfl) : EX X (.Subscript a b pos) ds d :=
  ex_pe (pe_ix ix_list (trE a) (trE b) hs) fun _ _ f => ha.go f (Ex.refl _) fun _ _ e1 q1 => hb.go f e1 fun _ _ e2 q2 => by
    obtain ⟨p, vs, rfl, hp, q⟩ := rp_lst (rp_mono e2 q1)
    obtain ⟨v, hv, qv⟩ := atI_rpa q hi
    exact ⟨p, vs, i, v, rfl, rp_int q2, .of hp, hv, e1.trans e2, qv⟩
abbrev P2 := Int × Int
abbrev dP (p : P2) : D := .tuple [.int p.1, .int p.2]
theorem ex_fst {p : P2} {k} {pos'} (ha : EX X a ds (dP p)) : EX X (.Subscript a (.Constant (.int 0) k pos') pos) ds (.int p.1) := ex_ixT (i := 0) ha ex_int rfl
theorem ex_snd {p : P2} {k} {pos'} (ha : EX X a ds (dP p)) : EX X (.Subscript a (.Constant (.int 1) k pos') pos) ds (.int p.2) := ex_ixT (i := 1) ha ex_int rfl
theorem ex_pair (ha : EX X a ds (.int i)) (hb : EX X b ds (.int j)) {k} (h1 : starEach [a, b] X.env = (false, eval a X.env) :: starEach [b] X.env := by rfl) (h2 : starEach [b] X.env = (false, eval b X.env) :: starEach [] X.env := by rfl) : EX X (.Tuple [a, b] k pos) ds (dP (i, j)) := ex_tup (ea_cons ha (ea_cons hb ea_nil h2) h1)
/-- a part of a slice -/
inductive EO (X : Cx) (ds : DF) : Option Expr → Option Int → Prop
  | none : EO X ds none none
  | some {e : Expr} {i : Int} (h : EX X e ds (.int i)) : EO X ds (some e) (some i)
theorem eo_po {o : Option Expr} {k : Option Int} (h : EO X ds o k) : ∃ t : TO, PO X o t ∧ ∀ σ H, Fr H σ ds → ∀ Q : Option Int → Hp → Prop, (∀ H', Ex H H' → Q k H') → t σ H Q := by
  cases h with
  | none => exact ⟨_, po_none, fun _ H _ Q q => q H (Ex.refl H)⟩
  | some h => exact ⟨_, po_some (trE _), fun _ _ f _ q => h.go f (Ex.refl _) fun _ _ e1 q1 => ⟨_, rp_int q1, q _ e1⟩⟩
def cutD {α : Type} (xs : List α) (lo hi : Option Int) : List α := (xs.drop (HT.sIx xs.length 0 lo)).take (HT.sIx xs.length xs.length hi - HT.sIx xs.length 0 lo)
theorem ex_slice {lo hi : Option Expr} {l u : Option Int} {xs : List D} {p2 : Pos} (ha : EX X a ds (.list xs)) (hl : EO X ds lo l) (hu : EO X ds hi u) : EX X (.Subscript a (.Slice lo hi none p2) pos) ds (.list (cutD xs l u)) := by
  obtain ⟨t1, h1, r1⟩ := eo_po hl
  obtain ⟨t2, h2, r2⟩ := eo_po hu
  refine ex_pe (pe_slice sl_list (trE a) h1 h2) fun σ _ f => ha.go f (Ex.refl _) fun _ _ e1 q1 => r1 σ _ (f.mono e1) _ fun _ e2 => r2 σ _ (f.mono (e1.trans e2)) _ fun _ e3 => ?_
  obtain ⟨p, vs, rfl, hp, q⟩ := rp_lst (rp_mono (e2.trans e3) q1)
  refine ⟨p, vs, rfl, .of hp, fun n hn => ⟨((e1.trans e2).trans e3).trans (Ex.new hn), rp_newL hn ?_⟩⟩
  unfold cutV cutD
  rw [rpa_len q]
  exact rpa_take _ (rpa_drop _ q)
theorem ex_rev {xs : List D} {k : Nat} {p1 p2 p3 : Pos} (ha : EX X a ds (.list xs)) : EX X (.Subscript a (.Slice none none (some (.UnaryOp .USub (.Constant (.int 1) k p1) p2)) p3) pos) ds (.list xs.reverse) :=
  ex_pe (pe_revL (trE a)) fun _ _ f => ha.go f (Ex.refl _) fun _ _ e1 q1 => by
    obtain ⟨p, vs, rfl, hp, q⟩ := rp_lst q1
    exact ⟨p, vs, rfl, .of hp, fun n hn => ⟨e1.trans (Ex.new hn), rp_newL hn (rpa_rev q)⟩⟩
theorem ex_cat {xs ys : List D} (hz : xs.length + ys.length ≤ sizeLine) (ha : EX X a ds (.list xs)) (hb : EX X b ds (.list ys)) : EX X (.BinOp a .Add b pos) ds (.list (xs ++ ys)) :=
  ex_op op_cat (fun H v u Q q1 q2 k => by
    obtain ⟨p, vs, rfl, hp, qp⟩ := rp_lst q1
    obtain ⟨r, us, rfl, hr, qr⟩ := rp_lst q2
    exact ⟨p, r, vs, us, rfl, rfl, hp, hr, by rw [rpa_len qp, rpa_len qr]; exact hz, fun n hn => k _ _ (Ex.new hn) (rp_newL hn (rpa_app qp qr))⟩) ha hb
/-! ### built-in calls -/
theorem ex_B {x : Str} {id : String} {r : List V → Hp → VK → Prop} {p : Pos} (hc : CallR X (.builtin id) r) (hv : bootBuiltins x = some (.builtin id)) (hg : Gl X x) (hm : X.mg x = none) (hr : ∀ (H : Hp) (vs : List V) (Q : VK), RpA H vs as → (∀ w H', Ex H H' → Rp H' w d → Q w H') → r vs H Q) (ha : EA X (e :: es) ds as)
    (hn : x ≠ "__name__" := by decide) (hdb : (x == ("__debug__" : Str)) = false := by decide) (he : starEach (e :: es) X.env = (false, eval e X.env) :: starEach es X.env := by rfl) (hpl : (backTo pos (starEach es X.env)).any (·.1) = false := by rfl) :
    EX X (.Call (.Name x p) (e :: es) [] pos) ds d :=
  ex_pe (pe_callB hc hg hm hv (trA _) hn hdb he hpl) fun _ _ f => ha.go f (Ex.refl _) fun vs _ e1 q1 => hr _ vs _ q1 fun _ _ e2 q2 => ⟨e1.trans e2, q2⟩
theorem ex_Ty {x : Str} {T : String} {r : List V → Hp → VK → Prop} {p : Pos} (hc : CallR X (.type T) r) (hv : bootBuiltins x = some (.type T)) (hg : Gl X x) (hm : X.mg x = none) (hr : ∀ (H : Hp) (vs : List V) (Q : VK), RpA H vs as → (∀ w H', Ex H H' → Rp H' w d → Q w H') → r vs H Q) (ha : EA X (e :: es) ds as)
    (hn : x ≠ "__name__" := by decide) (hdb : (x == ("__debug__" : Str)) = false := by decide) (he : starEach (e :: es) X.env = (false, eval e X.env) :: starEach es X.env := by rfl) (hpl : (backTo pos (starEach es X.env)).any (·.1) = false := by rfl) :
    EX X (.Call (.Name x p) (e :: es) [] pos) ds d :=
  ex_pe (pe_callTy hc hg hm hv (trA _) hn hdb he hpl) fun _ _ f => ha.go f (Ex.refl _) fun vs _ e1 q1 => hr _ vs _ q1 fun _ _ e2 q2 => ⟨e1.trans e2, q2⟩
theorem rpa_one {H : Hp} {vs : List V} {d : D} (h : RpA H vs [d]) : ∃ v, vs = [v] ∧ Rp H v d := by
  cases h with
  | cons h a => cases a; exact ⟨_, rfl, h⟩
theorem rpa_two {H : Hp} {vs : List V} {d d' : D} (h : RpA H vs [d, d']) : ∃ v u, vs = [v, u] ∧ Rp H v d ∧ Rp H u d' := by
  cases h with
  | cons h a =>
    obtain ⟨u, rfl, q⟩ := rpa_one a
    exact ⟨_, _, rfl, h, q⟩
theorem ex_lenL {xs : List D} {p : Pos} (hg : Gl X "len") (hm : X.mg "len" = none) (ha : EX X a ds (.list xs)) (he : starEach [a] X.env = (false, eval a X.env) :: starEach [] X.env := by rfl) (hpl : (backTo pos (starEach [] X.env)).any (·.1) = false := by rfl) : EX X (.Call (.Name "len" p) [a] [] pos) ds (.int (xs.length : Int)) :=
  ex_B call_len_seq PySem.boot_len hg hm (fun H vs Q h k => by
    obtain ⟨v, rfl, q⟩ := rpa_one h
    obtain ⟨p, ys, rfl, hp, qa⟩ := rp_lst q
    exact ⟨p, ys, rfl, .inl (.of hp), by rw [rpa_len qa]; exact k _ H (Ex.refl H) (.int _)⟩) (ea_cons ha ea_nil he) (he := he) (hpl := hpl)
theorem ex_lenT {xs : List D} {p : Pos} (hg : Gl X "len") (hm : X.mg "len" = none) (ha : EX X a ds (.tuple xs)) (he : starEach [a] X.env = (false, eval a X.env) :: starEach [] X.env := by rfl) (hpl : (backTo pos (starEach [] X.env)).any (·.1) = false := by rfl) : EX X (.Call (.Name "len" p) [a] [] pos) ds (.int (xs.length : Int)) :=
  ex_B call_len_seq PySem.boot_len hg hm (fun H vs Q h k => by
    obtain ⟨v, rfl, q⟩ := rpa_one h
    obtain ⟨p, ys, rfl, hp, qa⟩ := rp_tup q
    exact ⟨p, ys, rfl, .inr (.of hp), by rw [rpa_len qa]; exact k _ H (Ex.refl H) (.int _)⟩) (ea_cons ha ea_nil he) (he := he) (hpl := hpl)
def absZ (i : Int) : Int := if i < 0 then -i else i
theorem ex_abs {p : Pos} (hg : Gl X "abs") (hm : X.mg "abs" = none) (ha : EX X a ds (.int i)) (he : starEach [a] X.env = (false, eval a X.env) :: starEach [] X.env := by rfl) (hpl : (backTo pos (starEach [] X.env)).any (·.1) = false := by rfl) : EX X (.Call (.Name "abs" p) [a] [] pos) ds (.int (absZ i)) :=
  ex_B call_abs PyProof.Rows.boot_abs hg hm (fun H vs Q h k => by
    obtain ⟨v, rfl, q⟩ := rpa_one h
    exact ⟨i, by rw [rp_int q], k _ H (Ex.refl H) (.int _)⟩) (ea_cons ha ea_nil he) (he := he) (hpl := hpl)
theorem ex_listL {xs : List D} {p : Pos} (hg : Gl X "list") (hm : X.mg "list" = none) (ha : EX X a ds (.list xs)) (he : starEach [a] X.env = (false, eval a X.env) :: starEach [] X.env := by rfl) (hpl : (backTo pos (starEach [] X.env)).any (·.1) = false := by rfl) : EX X (.Call (.Name "list" p) [a] [] pos) ds (.list xs) :=
  ex_Ty call_list_of PyProof.Rows.boot_list hg hm (fun H vs Q h k => by
    obtain ⟨v, rfl, q⟩ := rpa_one h
    obtain ⟨p, ys, rfl, hp, qa⟩ := rp_lst q
    exact ⟨p, ys, rfl, .inl (.of hp), fun l hl => k _ _ (Ex.new hl) (rp_newL hl qa)⟩) (ea_cons ha ea_nil he) (he := he) (hpl := hpl)
theorem ex_all {bs : List Bool} {p : Pos} (hc : X.calm = true) (hg : Gl X "all") (hm : X.mg "all" = none) (ha : EX X a ds (.list (bs.map PyData.bool))) (he : starEach [a] X.env = (false, eval a X.env) :: starEach [] X.env := by rfl) (hpl : (backTo pos (starEach [] X.env)).any (·.1) = false := by rfl) : EX X (.Call (.Name "all" p) [a] [] pos) ds (.bool (bs.all id)) :=
  ex_B (cr_all hc) PyProof.Rows.boot_all hg hm (fun H vs Q h k => by
    obtain ⟨v, rfl, q⟩ := rpa_one h
    obtain ⟨p, ys, rfl, hp, qa⟩ := rp_lst q
    exact ⟨p, bs, rfl, .of (by rw [← rpa_blsV qa]; exact hp), k _ H (Ex.refl H) (.bl _)⟩) (ea_cons ha ea_nil he) (he := he) (hpl := hpl)
theorem ex_any {bs : List Bool} {p : Pos} (hc : X.calm = true) (hg : Gl X "any") (hm : X.mg "any" = none) (ha : EX X a ds (.list (bs.map PyData.bool))) (he : starEach [a] X.env = (false, eval a X.env) :: starEach [] X.env := by rfl) (hpl : (backTo pos (starEach [] X.env)).any (·.1) = false := by rfl) : EX X (.Call (.Name "any" p) [a] [] pos) ds (.bool (bs.any id)) :=
  ex_B (cr_any hc) PyProof.Rows.boot_any hg hm (fun H vs Q h k => by
    obtain ⟨v, rfl, q⟩ := rpa_one h
    obtain ⟨p, ys, rfl, hp, qa⟩ := rp_lst q
    exact ⟨p, bs, rfl, .of (by rw [← rpa_blsV qa]; exact hp), k _ H (Ex.refl H) (.bl _)⟩) (ea_cons ha ea_nil he) (he := he) (hpl := hpl)
/-- max, min of a pair -/
theorem pair_reads {pins : List (Addr × Obj)} {s : Shared} {σ : L2.St} {H : Hp} {p : P2} {v : V} {u : Value} (I : Inv X pins σ H s) (h : Rp H v (dP p)) (r : RelV v u) : ∃ (a : Addr) (vs : Array Value) (as : List Addr), u = .ref a ∧ s.heap.IsTuple a vs ∧ ReadsAll s.heap vs.toList [.int p.1, .int p.2] as := by
  obtain ⟨a, xs, rfl, ha, qa⟩ := rp_tup h
  cases r
  obtain ⟨its, rv, ht, _⟩ := I.tuple (.of ha)
  obtain ⟨as, hr⟩ := Dp.readsAll I _ _ its (rpa_dpa (K := X.K) qa (by simp [PyData.canLayAll0, PyData.canLay0])) rv
  exact ⟨a, its.toArray, as, rfl, ht, by simpa using hr⟩
theorem ex_maxP {p : P2} {q : Pos} (hc : X.calm = true) {k : Nat} (hr : Room k X.A) (hg : Gl X "max") (hm : X.mg "max" = none) (ha : EX X a ds (dP p)) (he : starEach [a] X.env = (false, eval a X.env) :: starEach [] X.env := by rfl) (hpl : (backTo pos (starEach [] X.env)).any (·.1) = false := by rfl) : EX X (.Call (.Name "max" q) [a] [] pos) ds (.int (max p.1 p.2)) := by
  have c : CallR X (.builtin "max") (fun vs H Q => ∃ v, vs = [v] ∧ Rp H v (dP p) ∧ Q (.int (max p.1 p.2)) H) := by
    intro pins s σ H xs us Q I r h
    obtain ⟨v, rfl, rp, q⟩ := h
    obtain ⟨u, rfl, ru⟩ := vals1 r
    obtain ⟨l, vs, as, rfl, ht, hrd⟩ := pair_reads I rp ru
    refine PySem.W.max_tuple_data (I.ok.hd hc) ht hrd ?_ ?_ fun i v' h' tk bs hv hrd' hk => ?_
    · simp [PySem.W.AlikeAll, PySem.W.alike]
    · have := hr.un
      simp [PyData.depthAll, PyData.depth]
      omega
    · have e : PySem.W.maxD (.int p.1) [.int p.2] = .int (max p.1 p.2) := PySem.W.maxD_ints p.1 [p.2]
      rw [e] at hrd'
      cases hrd' with
      | int i t => exact ⟨.int _, H, I.kept hk, ⟨_, rfl⟩, q⟩
  exact ex_B c PyProof.Rows.boot_max hg hm (fun H vs Q h k => by
    obtain ⟨v, rfl, q⟩ := rpa_one h
    exact ⟨v, rfl, q, k _ H (Ex.refl H) (.int _)⟩) (ea_cons ha ea_nil he) (he := he) (hpl := hpl)
theorem ex_minP {p : P2} {q : Pos} (hc : X.calm = true) {k : Nat} (hr : Room k X.A) (hg : Gl X "min") (hm : X.mg "min" = none) (ha : EX X a ds (dP p)) (he : starEach [a] X.env = (false, eval a X.env) :: starEach [] X.env := by rfl) (hpl : (backTo pos (starEach [] X.env)).any (·.1) = false := by rfl) : EX X (.Call (.Name "min" q) [a] [] pos) ds (.int (min p.1 p.2)) := by
  have c : CallR X (.builtin "min") (fun vs H Q => ∃ v, vs = [v] ∧ Rp H v (dP p) ∧ Q (.int (min p.1 p.2)) H) := by
    intro pins s σ H xs us Q I r h
    obtain ⟨v, rfl, rp, q⟩ := h
    obtain ⟨u, rfl, ru⟩ := vals1 r
    obtain ⟨l, vs, as, rfl, ht, hrd⟩ := pair_reads I rp ru
    refine PySem.W.min_tuple_data (I.ok.hd hc) ht hrd ?_ ?_ fun i v' h' tk bs hv hrd' hk => ?_
    · simp [PySem.W.AlikeAll, PySem.W.alike]
    · have := hr.un
      simp [PyData.depthAll, PyData.depth]
      omega
    · have e : PySem.W.minD (.int p.1) [.int p.2] = .int (min p.1 p.2) := PySem.W.minD_ints p.1 [p.2]
      rw [e] at hrd'
      cases hrd' with
      | int i t => exact ⟨.int _, H, I.kept hk, ⟨_, rfl⟩, q⟩
  exact ex_B c PyProof.Rows.boot_min hg hm (fun H vs Q h k => by
    obtain ⟨v, rfl, q⟩ := rpa_one h
    exact ⟨v, rfl, q, k _ H (Ex.refl H) (.int _)⟩) (ea_cons ha ea_nil he) (he := he) (hpl := hpl)
/-- isinstance with a built-in class -/
def tyN : D → String
  | .none => "NoneType" | .bool _ => "bool" | .int _ => "int" | .str _ => "str" | .list _ => "list" | .tuple _ => "tuple" | .dict _ => "dict"
def noOb : D → Bool
  | .dict (_ :: _) => false
  | _ => true
theorem rp_ty {K : KF} {H : Hp} : ∀ {v : V} {d : D}, Rp H v d → noOb d = true → TyX K H v (.type (tyN d))
  | _, _, .non, _ => .base .non
  | _, _, .bl b, _ => .base (.bl b)
  | _, _, .int i, _ => .base (.int i)
  | _, _, .str x, _ => .base (.str x)
  | _, _, .lst h _, _ => .base (.lst h)
  | _, _, .tup h _, _ => .base (.tup h)
  | _, _, .dct h, _ => .base (.dK h)
  | _, _, .ob _ _, n => by simp [obD, noOb] at n
  | _, _, .obn _, n => by simp [obN, noOb] at n
  | _, _, .raw _, n => by simp [rawD, noOb] at n
theorem ex_isi {T : String} {x : Str} {k : Bool} {p p2 : Pos} (hv : bootBuiltins x = some (.type T)) (hg : Gl X "isinstance") (hm : X.mg "isinstance" = none) (hg2 : Gl X x) (hm2 : X.mg x = none) (hk : kitB (tyN d) T = some k) (ho : noOb d = true) (ha : EX X a ds d)
    (hn : x ≠ "__name__" := by decide) (hdb : (x == ("__debug__" : Str)) = false := by decide)
    (h1 : starEach [a, .Name x p2] X.env = (false, eval a X.env) :: starEach [.Name x p2] X.env := by rfl) (h2 : starEach [.Name x p2] X.env = (false, eval (.Name x p2) X.env) :: starEach [] X.env := by rfl) (hpl : (backTo pos (starEach [.Name x p2] X.env)).any (·.1) = false := by rfl) :
    EX X (.Call (.Name "isinstance" p) [a, .Name x p2] [] pos) ds (.bool k) :=
  ex_pe (pe_callB call_isi hg hm PyProof.Rows.boot_isinstance (pa_cons (trE a) (pa_cons (pe_bltn (v := .ty T) hg2 hm2 hv rfl hn hdb) pa_nil h2) h1) (he := h1) (hpl := hpl)) fun _ _ f => ha.go f (Ex.refl _) fun v _ e1 q1 =>
    ⟨v, .ty T, .type (tyN d), .type T, k, rfl, .ty T, rp_ty q1 ho, kit_ty hk, e1, .bl _⟩
/-! ### objects -/
theorem rp_ob {H : Hp} {v : V} {C : Addr} {f : Str} {d : D} (h : Rp H v (obD C f d)) : ∃ (p dx : Addr) (u : V), v = .ref p ∧ H p = some (.ins C dx [(f, u)]) ∧ Rp H u d := by
  unfold obD at h
  generalize hz : PyData.dict [(PyData.tuple [.int (C : Nat), .str f], d)] = z at h
  cases h with
  | ob h a =>
    unfold obD at hz
    simp only [PyData.dict.injEq, List.cons.injEq, Prod.mk.injEq, PyData.tuple.injEq, PyData.int.injEq, PyData.str.injEq, and_true] at hz
    obtain ⟨⟨h1, h2⟩, h3⟩ := hz
    have h1 := Int.ofNat.inj h1
    subst h1 h2 h3
    exact ⟨_, _, _, rfl, h, a⟩
  | obn h =>
    unfold obN at hz
    simp at hz
  | raw a =>
    unfold rawD at hz
    simp at hz
  | _ => simp at hz
theorem rp_obn {H : Hp} {v : V} {C : Addr} (h : Rp H v (obN C)) : ∃ (p dx : Addr), v = .ref p ∧ H p = some (.ins C dx []) := by
  unfold obN at h
  generalize hz : PyData.dict [(PyData.int (C : Nat), PyData.none)] = z at h
  cases h with
  | ob h a =>
    unfold obD at hz
    simp at hz
  | obn h =>
    unfold obN at hz
    simp only [PyData.dict.injEq, List.cons.injEq, Prod.mk.injEq, PyData.int.injEq, and_true] at hz
    have h1 := Int.ofNat.inj hz
    subst h1
    exact ⟨_, _, rfl, h⟩
  | raw a =>
    unfold rawD at hz
    simp at hz
  | _ => simp at hz
theorem rp_raw {H : Hp} {v : V} {a : Addr} (h : Rp H v (rawD a)) : v = .ref a := by
  unfold rawD at h
  generalize hz : PyData.dict [(PyData.bool true, PyData.int (a : Nat))] = z at h
  cases h with
  | ob h a =>
    unfold obD at hz
    simp at hz
  | obn h =>
    unfold obN at hz
    simp at hz
  | raw b =>
    unfold rawD at hz
    simp only [PyData.dict.injEq, List.cons.injEq, Prod.mk.injEq, PyData.int.injEq, and_true, true_and] at hz
    have h1 := Int.ofNat.inj hz
    rw [h1]
  | _ => simp at hz
theorem ex_fld {C : Addr} {f : Str} (hc : Cls X.K C) (hn : NoAttr X.K C f) (ha : EX X a ds (obD C f d)) (hb : attributeBase a f X.env (eval a X.env) = eval a X.env := by rfl) : EX X (.Attribute a f pos) ds d :=
  ex_pe (pe_fld (trE a) hb) fun _ _ f => ha.go f (Ex.refl _) fun _ _ e1 q1 => by
    obtain ⟨p, dx, u, rfl, hp, hu⟩ := rp_ob q1
    exact ⟨p, C, dx, _, u, rfl, hp, hc, hn, by simp [List.lookup], e1, hu⟩
/-- what isinstance asks of an own class -/
structure InsC (K : KF) (C : Addr) : Prop where
  cl : Cls K C
  ha : PySem.W.findIn K (.ref C) "__class__" = some (some (.builtin "object.__class__"))
  hn : PySem.W.specialIn K (.builtin "object.__class__") "__get__" = some (some (.builtin "getset_descriptor.__get__"))
  htk : PySem.W.takesIn K (.builtin "object.__class__") = some true
  hm : PySem.W.mroIn K C (.type "object") = some true
theorem ex_isiC {C C' : Addr} {x : Str} {k : Bool} {p p2 : Pos} (I : InsC X.K C) (hg : Gl X "isinstance") (hm : X.mg "isinstance" = none) (hg2 : Gl X x) (hm2 : X.mg x = some (.ref C')) (hk : PySem.W.kitOne X.K (.ref C) (.ref C') = some k) (ha : EX X a ds d) (hd : (∃ f z, d = obD C f z) ∨ d = obN C)
    (hdb : (x == ("__debug__" : Str)) = false := by decide)
    (h1 : starEach [a, .Name x p2] X.env = (false, eval a X.env) :: starEach [.Name x p2] X.env := by rfl) (h2 : starEach [.Name x p2] X.env = (false, eval (.Name x p2) X.env) :: starEach [] X.env := by rfl) (hpl : (backTo pos (starEach [.Name x p2] X.env)).any (·.1) = false := by rfl) :
    EX X (.Call (.Name "isinstance" p) [a, .Name x p2] [] pos) ds (.bool k) :=
  ex_pe (pe_callB call_isi hg hm PyProof.Rows.boot_isinstance (pa_cons (trE a) (pa_cons (pe_glob (v := .ref C') hg2 hm2 rfl hdb) pa_nil h2) h1) (he := h1) (hpl := hpl)) fun _ _ f => ha.go f (Ex.refl _) fun v H1 e1 q1 => by
    have : ∃ (p dx : Addr) (fs : List (Str × V)), v = .ref p ∧ H1 p = some (.ins C dx fs) := by
      rcases hd with ⟨g, z, rfl⟩ | rfl
      · obtain ⟨p, dx, u, h1, h2, _⟩ := rp_ob q1
        exact ⟨p, dx, _, h1, h2⟩
      · obtain ⟨p, dx, h1, h2⟩ := rp_obn q1
        exact ⟨p, dx, _, h1, h2⟩
    obtain ⟨q, dx, fs, rfl, hq⟩ := this
    exact ⟨_, .ref C', .ref C, .ref C', k, rfl, .own C', .base (.ins hq I.cl I.ha I.hn I.htk I.hm), hk, e1, .bl _⟩
/-! ### truths: not, and, or, if -/
theorem ex_not {k : Bool} (ha : EX X a ds (.bool k)) : EX X (.UnaryOp .Not a pos) ds (.bool (!k)) :=
  ex_pe (pe_not (trE a)) fun _ _ f => ha.go f (Ex.refl _) fun _ _ e1 q1 => ⟨k, rp_bl q1, e1, .bl _⟩
theorem ex_one {op} (ha : EX X a ds d) : EX X (.BoolOp op [a] pos) ds d :=
  ex_pe (pe_one (trE a)) fun _ _ f => ha.go f (Ex.refl _) fun _ _ e1 q1 => ⟨e1, q1⟩
theorem ex_and {k : Bool} {rest : List Expr} (hf : k = false → d = .bool false) (ha : EX X a ds (.bool k)) (hb : k = true → EX X (.BoolOp .And (b :: rest) pos) ds d) : EX X (.BoolOp .And (a :: b :: rest) pos) ds d :=
  ex_pe (pe_and (trE a) (trE _)) fun _ _ f => ha.go f (Ex.refl _) fun _ _ e1 q1 => ⟨k, rp_bl q1, by
    cases k with
    | false =>
      rw [if_neg Bool.false_ne_true, hf rfl]
      exact ⟨e1, .bl _⟩
    | true =>
      rw [if_pos rfl]
      exact (hb rfl).go f e1 fun _ _ e2 q2 => ⟨e1.trans e2, q2⟩⟩
theorem ex_or {k : Bool} {rest : List Expr} (hf : k = true → d = .bool true) (ha : EX X a ds (.bool k)) (hb : k = false → EX X (.BoolOp .Or (b :: rest) pos) ds d) : EX X (.BoolOp .Or (a :: b :: rest) pos) ds d :=
  ex_pe (pe_or (trE a) (trE _)) fun _ _ f => ha.go f (Ex.refl _) fun _ _ e1 q1 => ⟨k, rp_bl q1, by
    cases k with
    | true =>
      rw [if_pos rfl, hf rfl]
      exact ⟨e1, .bl _⟩
    | false =>
      rw [if_neg Bool.false_ne_true]
      exact (hb rfl).go f e1 fun _ _ e2 q2 => ⟨e1.trans e2, q2⟩⟩
/-- .. both sides known -/
theorem ex_andB {k l : Bool} {rest : List Expr} (ha : EX X a ds (.bool k)) (hb : k = true → EX X (.BoolOp .And (b :: rest) pos) ds (.bool l)) : EX X (.BoolOp .And (a :: b :: rest) pos) ds (.bool (k && l)) :=
  ex_and (fun h => by rw [h, Bool.false_and]) ha fun h => by rw [h, Bool.true_and]; exact hb h
theorem ex_orB {k l : Bool} {rest : List Expr} (ha : EX X a ds (.bool k)) (hb : k = false → EX X (.BoolOp .Or (b :: rest) pos) ds (.bool l)) : EX X (.BoolOp .Or (a :: b :: rest) pos) ds (.bool (k || l)) :=
  ex_or (fun h => by rw [h, Bool.true_or]) ha fun h => by rw [h, Bool.false_or]; exact hb h
theorem ex_if {k : Bool} (hc : ET X c ds k) (ha : k = true → EX X a ds d) (hb : k = false → EX X b ds d) : EX X (.IfExp c a b pos) ds d :=
  ex_pe (pe_ifExp (trT c) (trE a) (trE b)) fun _ _ f => hc.go f (Ex.refl _) fun _ e1 => by
    cases k with
    | true =>
      rw [if_pos rfl]
      exact (ha rfl).go f e1 fun _ _ e2 q2 => ⟨e1.trans e2, q2⟩
    | false =>
      rw [if_neg Bool.false_ne_true]
      exact (hb rfl).go f e1 fun _ _ e2 q2 => ⟨e1.trans e2, q2⟩
/-! ### tests -/
theorem et_val {k : Bool} (ha : EX X a ds (.bool k)) (he : ∀ whole, isTrue a X.env whole = (do let v ← whole; standAt a.pos; holding [v] (truthy v)) := by intro _; rfl) : ET X a ds k :=
  et_pt (pt_val (trE a) he) fun _ _ f => ha.go f (Ex.refl _) fun _ _ e1 q1 => ⟨k, rp_bl q1, rfl, e1⟩
theorem et_not {k : Bool} (ha : ET X a ds k) : ET X (.UnaryOp .Not a pos) ds (!k) :=
  et_pt (pt_not (trT a)) fun _ _ f => ha.go f (Ex.refl _) fun _ e1 => ⟨rfl, e1⟩
def EW (X : Cx) (e : Expr) (ds : DF) (k : Bool) : Prop := ∃ t, PW X e t ∧ ∀ σ H, Fr H σ ds → t σ H fun c H' => c = k ∧ Ex H H'
theorem ew_et {k : Bool} (h : EW X e ds k) : ET X e ds k := let ⟨_, p, r⟩ := h; et_pt p.pt r
theorem TT_mono (X : Cx) {e : Expr} {t : TT} (h : PW X e t) : ∃ t', PW X e t' ∧ (∀ σ H Q, t σ H Q → t' σ H Q) ∧ ∀ σ H Q Q', t' σ H Q → (∀ b H', Q b H' → Q' b H') → t' σ H Q' :=
  ⟨fun σ H Q => ∃ R : Bool → Hp → Prop, t σ H R ∧ ∀ b H', R b H' → Q b H', ⟨fun w pins s σ H Q I ⟨R, h1, h2⟩ => thn (h.run w pins s σ H R I h1) fun b s' ⟨H', I', q⟩ => ⟨H', I', h2 _ _ q⟩⟩, fun _ _ Q h => ⟨Q, h, fun _ _ q => q⟩, fun _ _ _ _ ⟨R, h1, h2⟩ q => ⟨R, h1, fun _ _ z => q _ _ (h2 _ _ z)⟩⟩
theorem ew_and1 {k : Bool} (ha : ET X a ds k) : EW X (.BoolOp .And [a] pos) ds k := ⟨_, pw_and1 (trT a), fun _ _ f => ha.go f (Ex.refl _) fun _ e1 => ⟨rfl, e1⟩⟩
theorem ew_or1 {k : Bool} (ha : ET X a ds k) : EW X (.BoolOp .Or [a] pos) ds k := ⟨_, pw_or1 (trT a), fun _ _ f => ha.go f (Ex.refl _) fun _ e1 => ⟨rfl, e1⟩⟩
theorem ew_and {k l : Bool} {rest : List Expr} (ha : ET X a ds k) (hb : k = true → EW X (.BoolOp .And (b :: rest) pos) ds l) : EW X (.BoolOp .And (a :: b :: rest) pos) ds (k && l) := by
  cases k with
  | false =>
    have hn : PW X (.BoolOp .And (b :: rest) pos) (fun _ _ _ => False) := ⟨fun _ _ _ _ _ _ _ h => h.elim⟩
    refine ⟨_, pw_and (trT a) hn, fun _ _ f => ha.go f (Ex.refl _) fun _ e1 => ?_⟩
    rw [if_neg Bool.false_ne_true]
    exact ⟨rfl, e1⟩
  | true =>
    obtain ⟨t, p, r⟩ := hb rfl
    obtain ⟨t', p', r1, r2⟩ := TT_mono X p
    refine ⟨_, pw_and (trT a) p', fun σ _ f => ha.go f (Ex.refl _) fun _ e1 => ?_⟩
    rw [if_pos rfl]
    exact r2 _ _ _ _ (r1 _ _ _ (r σ _ (f.mono e1))) fun _ _ ⟨q, e2⟩ => ⟨q, e1.trans e2⟩
theorem ew_or {k l : Bool} {rest : List Expr} (ha : ET X a ds k) (hb : k = false → EW X (.BoolOp .Or (b :: rest) pos) ds l) : EW X (.BoolOp .Or (a :: b :: rest) pos) ds (k || l) := by
  cases k with
  | true =>
    have hn : PW X (.BoolOp .Or (b :: rest) pos) (fun _ _ _ => False) := ⟨fun _ _ _ _ _ _ _ h => h.elim⟩
    refine ⟨_, pw_or (trT a) hn, fun _ _ f => ha.go f (Ex.refl _) fun _ e1 => ?_⟩
    rw [if_pos rfl]
    exact ⟨rfl, e1⟩
  | false =>
    obtain ⟨t, p, r⟩ := hb rfl
    obtain ⟨t', p', r1, r2⟩ := TT_mono X p
    refine ⟨_, pw_or (trT a) p', fun σ _ f => ha.go f (Ex.refl _) fun _ e1 => ?_⟩
    rw [if_neg Bool.false_ne_true]
    exact r2 _ _ _ _ (r1 _ _ _ (r σ _ (f.mono e1))) fun _ _ ⟨q, e2⟩ => ⟨q, e1.trans e2⟩
theorem ew_orT {rest : List Expr} (ha : ET X a ds true) : EW X (.BoolOp .Or (a :: b :: rest) pos) ds true := ew_or (l := true) ha fun h => nomatch h
theorem ew_andF {rest : List Expr} (ha : ET X a ds false) : EW X (.BoolOp .And (a :: b :: rest) pos) ds false := ew_and (l := false) ha fun h => nomatch h
theorem ex_orT {rest : List Expr} (ha : EX X a ds (.bool true)) : EX X (.BoolOp .Or (a :: b :: rest) pos) ds (.bool true) := ex_or (fun _ => rfl) ha fun h => nomatch h
theorem ex_andF {rest : List Expr} (ha : EX X a ds (.bool false)) : EX X (.BoolOp .And (a :: b :: rest) pos) ds (.bool false) := ex_and (fun _ => rfl) ha fun h => nomatch h
theorem et_lt (ha : EX X a ds (.int i)) (hb : EX X b ds (.int j)) : ET X (.Compare a [.Lt] [b] pos) ds (decide (i < j)) := et_cmp op_lt (nomark _) r_lt ha hb
theorem et_le (ha : EX X a ds (.int i)) (hb : EX X b ds (.int j)) : ET X (.Compare a [.LtE] [b] pos) ds (decide (i ≤ j)) := et_cmp op_le (nomark _) r_le ha hb
theorem et_gt (ha : EX X a ds (.int i)) (hb : EX X b ds (.int j)) : ET X (.Compare a [.Gt] [b] pos) ds (decide (j < i)) := et_cmp op_gt (nomark _) r_gt ha hb
theorem et_ge (ha : EX X a ds (.int i)) (hb : EX X b ds (.int j)) : ET X (.Compare a [.GtE] [b] pos) ds (decide (j ≤ i)) := et_cmp op_ge (nomark _) r_ge ha hb
theorem et_eqI (ha : EX X a ds (.int i)) (hb : EX X b ds (.int j)) : ET X (.Compare a [.Eq] [b] pos) ds (decide (i = j)) := et_cmp op_eq (nomark _) r_eqI ha hb
theorem et_neI (ha : EX X a ds (.int i)) (hb : EX X b ds (.int j)) : ET X (.Compare a [.NotEq] [b] pos) ds (!decide (i = j)) := et_cmp op_ne (nomark _) r_neI ha hb
theorem et_eqB {p q : Bool} (ha : EX X a ds (.bool p)) (hb : EX X b ds (.bool q)) : ET X (.Compare a [.Eq] [b] pos) ds (p == q) := et_cmp op_eq (nomark _) r_eqB ha hb
theorem et_neB {p q : Bool} (ha : EX X a ds (.bool p)) (hb : EX X b ds (.bool q)) : ET X (.Compare a [.NotEq] [b] pos) ds (!(p == q)) := et_cmp op_ne (nomark _) r_neB ha hb
theorem et_isB {p q : Bool} (ha : EX X a ds (.bool p)) (hb : EX X b ds (.bool q)) : ET X (.Compare a [.Is] [b] pos) ds (decide (p = q)) := et_cmp op_isBl (nomark _) r_isB ha hb
theorem et_notB {p q : Bool} (ha : EX X a ds (.bool p)) (hb : EX X b ds (.bool q)) : ET X (.Compare a [.IsNot] [b] pos) ds (!decide (p = q)) := et_cmp op_notBl (nomark _) r_notB ha hb
theorem et_eqD {k : Nat} (hr : Room k X.A) (h1 : SeqAt.shaped d1 = true) (h2 : SeqAt.shaped d2 = true) (ha : EX X a ds d1) (hb : EX X b ds d2) : ET X (.Compare a [.Eq] [b] pos) ds (PyData.eqv d1 d2) := et_cmp (op_eqD (hu64 hr)) (nomark _) (r_eqD h1 h2) ha hb
theorem et_neD {k : Nat} (hr : Room k X.A) (h1 : SeqAt.shaped d1 = true) (h2 : SeqAt.shaped d2 = true) (ha : EX X a ds d1) (hb : EX X b ds d2) : ET X (.Compare a [.NotEq] [b] pos) ds (!PyData.eqv d1 d2) := et_cmp (op_neD (hu64 hr)) (nomark _) (r_neD h1 h2) ha hb
theorem et_inD {k : Nat} {xs : List D} (hr : Room k X.A) (hm : behindInMarks .In b = false) (h1 : SeqAt.shaped d1 = true) (h2 : SeqAt.shaped (.list xs) = true) (ha : EX X a ds d1) (hb : EX X b ds (.list xs)) : ET X (.Compare a [.In] [b] pos) ds (xs.any fun z => PyData.eqv z d1) := et_cmp (op_inD (hu65 hr)) hm (r_inD h1 h2) ha hb
theorem et_notInD {k : Nat} {xs : List D} (hr : Room k X.A) (hm : behindInMarks .NotIn b = false) (h1 : SeqAt.shaped d1 = true) (h2 : SeqAt.shaped (.list xs) = true) (ha : EX X a ds d1) (hb : EX X b ds (.list xs)) : ET X (.Compare a [.NotIn] [b] pos) ds (!xs.any fun z => PyData.eqv z d1) := et_cmp (op_notInD (hu65 hr)) hm (r_notInD h1 h2) ha hb
theorem et_inT {z : Int} (ns : List Int) (hm : behindInMarks .In b = false) (ha : EX X a ds (.int z)) (hb : EX X b ds (.tuple (ns.map PyData.int))) : ET X (.Compare a [.In] [b] pos) ds (ns.any fun n => decide (n = z)) := et_cmp op_in_seq hm (r_inT ns) ha hb

theorem ex_eqW {k : Nat} (hr : Room k X.A) (ha : EX X a ds d1) (hb : EX X b ds d2) (h1 : SeqAt.shaped d1 = true) (h2 : SeqAt.shaped d2 = true) : EX X (.Compare a [.Eq] [b] pos) ds (.bool (PyData.eqv d1 d2)) := ex_eqD hr h1 h2 ha hb
theorem ex_neW {k : Nat} (hr : Room k X.A) (ha : EX X a ds d1) (hb : EX X b ds d2) (h1 : SeqAt.shaped d1 = true) (h2 : SeqAt.shaped d2 = true) : EX X (.Compare a [.NotEq] [b] pos) ds (.bool (!PyData.eqv d1 d2)) := ex_neD hr h1 h2 ha hb
theorem et_eqW {k : Nat} (hr : Room k X.A) (ha : EX X a ds d1) (hb : EX X b ds d2) (h1 : SeqAt.shaped d1 = true) (h2 : SeqAt.shaped d2 = true) : ET X (.Compare a [.Eq] [b] pos) ds (PyData.eqv d1 d2) := et_eqD hr h1 h2 ha hb
theorem et_neW {k : Nat} (hr : Room k X.A) (ha : EX X a ds d1) (hb : EX X b ds d2) (h1 : SeqAt.shaped d1 = true) (h2 : SeqAt.shaped d2 = true) : ET X (.Compare a [.NotEq] [b] pos) ds (!PyData.eqv d1 d2) := et_neD hr h1 h2 ha hb
/-! ### calls of defs -/
/-- a def that makes a datum of data: R tells which -/
def spR (R : List D → D → Prop) : Sp := fun vs H Q _ => ∃ ds d, RpA H vs ds ∧ R ds d ∧ ∀ v H', Ex H H' → Rp H' v d → Q v H'
structure Cal (P : Program) (w : World) (K : KF) (mg : Str → Option Value) (base : Heap) (k : Nat) (x : Str) (sp : Sp) : Prop where
  ex : ∃ (f : Addr) (fd : FuncData) (ps : List Str), FnOk P w K mg base CX0 k f fd ps sp ∧ mg x = some (.ref f) ∧ PySem.W.keepIn K (.ref f) = true ∧ Binds K fd ps []
abbrev CalR (P : Program) (w : World) (K : KF) (mg : Str → Option Value) (base : Heap) (k : Nat) (x : Str) (R : List D → D → Prop) : Prop := Cal P w K mg base k x (spR R)
theorem pe_cal {sp : Sp} {k j : Nat} {x : Str} {p : Pos} {t : TA} (c : Cal X.prog X.w X.K X.mg X.base k x sp) (hr : Room j X.A) (hk : k ≤ j) (hg : Gl X x) (ha : PA X (e :: es) t)
    (hdb : (x == ("__debug__" : Str)) = false := by decide) (he : starEach (e :: es) X.env = (false, eval e X.env) :: starEach es X.env := by rfl) (hpl : (backTo pos (starEach es X.env)).any (·.1) = false := by rfl) :
    PE X (.Call (.Name x p) (e :: es) [] pos) (tCall sp [] E0 t) := by
  obtain ⟨f, fd, ps, F, hm, kp, b⟩ := c.ex
  exact pe_call F (hr.mono hk) hg hm kp b .nil pass0 ha hdb he hpl
theorem ex_call {R : List D → D → Prop} {k j : Nat} {x : Str} {p : Pos} (c : CalR X.prog X.w X.K X.mg X.base k x R) (hr : Room j X.A) (hk : k ≤ j) (hg : Gl X x) (ha : EA X (e :: es) ds as) (hR : R as d)
    (hdb : (x == ("__debug__" : Str)) = false := by decide) (he : starEach (e :: es) X.env = (false, eval e X.env) :: starEach es X.env := by rfl) (hpl : (backTo pos (starEach es X.env)).any (·.1) = false := by rfl) :
    EX X (.Call (.Name x p) (e :: es) [] pos) ds d :=
  ex_pe (pe_cal c hr hk hg (trA _) hdb he hpl) fun _ _ f => ha.go f (Ex.refl _) fun vs H1 e1 q1 => ⟨as, d, by rw [List.append_nil]; exact q1, hR, fun _ _ e2 q2 => ⟨e1.trans e2, q2⟩⟩
/-- a method of an own class; its promise speaks of the object as of the first argument -/
structure Met (P : Program) (w : World) (K : KF) (mg : Str → Option Value) (base : Heap) (k : Nat) (C : Addr) (m : Str) (sp : Sp) : Prop where
  ex : ∃ (f : Addr) (fd : FuncData) (ps : List Str), Cls K C ∧ Meth K C m f ∧ FnOk P w K mg base CX0 k f fd ps sp ∧ Binds K fd ps []
theorem pe_met {sp : Sp} {k j : Nat} {C : Addr} {m : Str} {p : Pos} {ta : TE} {t : TA} {pl : Sem Bool} (c : Met X.prog X.w X.K X.mg X.base k C m sp) (hr : Room j X.A) (hk : k ≤ j) (he : PE X a ta) (ha : PA X (e :: es) t)
    (hst : starEach (e :: es) X.env = (false, eval e X.env) :: starEach es X.env := by rfl) (hpl : (backTo pos (starEach es X.env)).any (·.1) = false := by rfl)
    (ht : eval (.Call (.Attribute a m p) (e :: es) [] pos) X.env = (do
      let ov ← eval a X.env
      standAt p.atName
      let (f, first) ← holding [ov] (getMethod ov m pl)
      callWith pos f first (backTo pos (starEach (e :: es) X.env)) (backToKw pos (keywordEach [] X.env))) := by rfl) :
    PE X (.Call (.Attribute a m p) (e :: es) [] pos) (tMeth C m sp [] E0 ta t) := by
  obtain ⟨f, fd, ps, hc, hm, F, b⟩ := c.ex
  exact pe_meth (pl := pl) he hc hm F (hr.mono hk) b .nil pass0 ha hst hpl ht
theorem ex_met {R : List D → D → Prop} {k j : Nat} {C : Addr} {m : Str} {p : Pos} {pl : Sem Bool} (c : Met X.prog X.w X.K X.mg X.base k C m (spR R)) (hr : Room j X.A) (hk : k ≤ j) (hd : (∃ g z, d1 = obD C g z ∧ g ≠ m) ∨ d1 = obN C) (he : EX X a ds d1) (ha : EA X (e :: es) ds as) (hR : R (d1 :: as) d)
    (hst : starEach (e :: es) X.env = (false, eval e X.env) :: starEach es X.env := by rfl) (hpl : (backTo pos (starEach es X.env)).any (·.1) = false := by rfl)
    (ht : eval (.Call (.Attribute a m p) (e :: es) [] pos) X.env = (do
      let ov ← eval a X.env
      standAt p.atName
      let (f, first) ← holding [ov] (getMethod ov m pl)
      callWith pos f first (backTo pos (starEach (e :: es) X.env)) (backToKw pos (keywordEach [] X.env))) := by rfl) :
    EX X (.Call (.Attribute a m p) (e :: es) [] pos) ds d :=
  ex_pe (pe_met (pl := pl) c hr hk (trE a) (trA _) hst hpl ht) fun _ _ f => he.go f (Ex.refl _) fun v H1 e1 q1 => by
    have : ∃ (q dx : Addr) (fs : List (Str × V)), v = .ref q ∧ H1 q = some (.ins C dx fs) ∧ fs.lookup m = none := by
      rcases hd with ⟨g, z, rfl, hg⟩ | rfl
      · obtain ⟨p, dx, u, h1, h2, _⟩ := rp_ob q1
        refine ⟨p, dx, _, h1, h2, ?_⟩
        have : (m == g) = false := beq_eq_false_iff_ne.mpr (Ne.symm hg)
        simp [List.lookup, this]
      · obtain ⟨p, dx, h1, h2⟩ := rp_obn q1
        exact ⟨p, dx, _, h1, h2, rfl⟩
    obtain ⟨q, dx, fs, rfl, hq, hl⟩ := this
    refine ⟨q, dx, fs, rfl, hq, hl, ha.go f e1 fun vs H2 e2 q2 => ?_⟩
    exact ⟨d1 :: as, d, by rw [List.append_nil]; exact .cons (rp_mono e2 q1) q2, hR, fun _ _ e3 q3 => ⟨(e1.trans e2).trans e3, q3⟩⟩
/-! ### comprehensions over a list -/
def wipeD (ds : DF) : List Nat → DF
  | [] => ds
  | v :: vs => (wipeD ds vs).set v none
theorem fr_wipe {H : Hp} {σ : L2.St} {ds : DF} (f : Fr H σ ds) : ∀ vs : List Nat, Fr H (wipe σ vs) (wipeD ds vs)
  | [] => f
  | v :: vs => (fr_wipe f vs).hide v
theorem wipe_set1 {σ : L2.St} {j : Nat} {x : Option V} : wipe ((wipe σ [j]).set j x) [j] = wipe σ [j] := by
  show ((σ.set j none).set j x).set j none = σ.set j none
  rw [List.set_set, List.set_set]
mutual
/-- no list, no dict within -/
def noL : D → Bool
  | .none | .bool _ | .int _ | .str _ => true
  | .tuple xs => noLs xs
  | .list _ | .dict _ => false
def noLs : List D → Bool
  | [] => true
  | x :: xs => noL x && noLs xs
end
def ExT (H H' : Hp) : Prop := ∀ a xs, H a = some (.tup xs) → H' a = some (.tup xs)
theorem ExT.trans {H H1 H2 : Hp} (a : ExT H H1) (b : ExT H1 H2) : ExT H H2 := fun x o h => b x o (a x o h)
theorem ext_of {H H' : Hp} (e : Ex H H') : ExT H H' := fun _ _ h => e _ _ h
theorem ext_upd {H : Hp} {a : Addr} {xs ys : List V} (h : H a = some (.lst xs)) : ExT H (upd H a (.lst ys)) := fun b zs hb => by
  rw [upd_ne (ne_of hb h (by intro z; cases z))]
  exact hb
mutual
theorem rp_flat {H H' : Hp} (e : ExT H H') : ∀ {v : V} {d : D}, Rp H v d → noL d = true → Rp H' v d
  | _, _, .non, _ => .non
  | _, _, .bl b, _ => .bl b
  | _, _, .int i, _ => .int i
  | _, _, .str x, _ => .str x
  | _, _, .tup h a, c => .tup (e _ _ h) (rpa_flat e a (by simpa only [noL] using c))
  | _, _, .lst _ _, c => by simp [noL] at c
  | _, _, .dct _, c => by simp [noL] at c
  | _, _, .ob _ _, c => by simp [obD, noL] at c
  | _, _, .obn _, c => by simp [obN, noL] at c
  | _, _, .raw _, c => by simp [rawD, noL] at c
theorem rpa_flat {H H' : Hp} (e : ExT H H') : ∀ {vs : List V} {ds : List D}, RpA H vs ds → noLs ds = true → RpA H' vs ds
  | _, _, .nil, _ => .nil
  | _, _, .cons h a, c => by
    simp only [noLs, Bool.and_eq_true] at c
    exact .cons (rp_flat e h c.1) (rpa_flat e a c.2)
end
theorem noLs_of : ∀ {l : List D}, (∀ d ∈ l, noL d = true) → noLs l = true
  | [], _ => by simp [noLs]
  | x :: xs, h => by
    simp only [noLs, Bool.and_eq_true]
    exact ⟨h x (List.mem_cons_self ..), noLs_of fun d hd => h d (List.mem_cons_of_mem _ hd)⟩
/-- the turns of a comprehension's list: one more -/
theorem lc_more {H1 H4 : Hp} {L : Addr} {ys : List V} {dl : List D} {y : V} {d : D} (hL1 : H1 L = none) (e : Ex H1 H4) (hL : H4 L = some (.lst ys)) (r : RpA H4 ys dl) (hy : Rp H4 y d) (n1 : noLs dl = true) (n2 : noL d = true) :
    Ex H1 (upd H4 L (.lst (ys ++ [y]))) ∧ ∃ zs, upd H4 L (.lst (ys ++ [y])) L = some (.lst zs) ∧ RpA (upd H4 L (.lst (ys ++ [y]))) zs (dl ++ [d]) :=
  ⟨Ex.mut e hL1, _, upd_same, rpa_app (rpa_flat (ext_upd hL) r n1) (.cons (rp_flat (ext_upd hL) hy n2) .nil)⟩
/-- the comprehension's list, as a reading: fx is the item that the source's item makes -/
theorem lc_go {tl te : TE} {σ : L2.St} {H0 H : Hp} {xs : List D} {j : Nat} (fx : D → D) (f : Fr H0 σ ds) (e0 : Ex H0 H) (hz : xs.length < sizeLine)
    (hl : ∀ Q : VK, (∀ v H', Ex H H' → Rp H' v (.list xs) → Q v H') → tl σ H Q)
    (he : ∀ d, d ∈ xs → ∀ σ' H', Fr H' σ' ((wipeD ds [j]).set j (some d)) → ∀ Q : VK, (∀ v H2, Ex H' H2 → Rp H2 v (fx d) → Q v H2) → te σ' H' Q)
    (hn : ∀ d, d ∈ xs → noL (fx d) = true)
    {Q : VK} (q : ∀ v H', Ex H H' → Rp H' v (.list (xs.map fx)) → Q v H') : tLc (iList X.K tl) (gName j) tYes te [j] σ H Q := by
  refine hl _ fun v H1 e1 q1 => ?_
  obtain ⟨a, vs, rfl, ha, qa⟩ := rp_lst q1
  refine ⟨a, rfl, ⟨vs, .of ha⟩, fun L hL => ?_⟩
  have hlen := rpa_len qa
  have nn : ∀ i, noLs ((xs.take i).map fx) = true := fun i => noLs_of fun d hd => by
    obtain ⟨z, hz, rfl⟩ := List.mem_map.mp hd
    exact hn z (List.mem_of_mem_take hz)
  refine lc_list (K := X.K) (a := a) (xs := vs) (fun i H' => Ex H1 H' ∧ ∃ ys, H' L = some (.lst ys) ∧ RpA H' ys ((xs.take i).map fx)) ⟨Ex.new hL, [], upd_same, .nil⟩ (fun i H' _ p => .of (p.1 _ _ ha)) (fun i x H' hi p => ?_) (fun H' p => ?_)
  · obtain ⟨e2, ys, hL', r⟩ := p
    obtain ⟨d, hd, hx⟩ := rpa_getV qa hi
    refine ⟨wipe_set1, ?_⟩
    dsimp only [tYes]
    rw [if_pos rfl]
    have f' : Fr H' ((wipe σ [j]).set j (some x)) ((wipeD ds [j]).set j (some d)) := (fr_wipe (f.mono ((e0.trans e1).trans e2)) [j]).set j (rp_mono e2 hx)
    refine he d (List.mem_of_getElem? hd) _ H' f' _ fun y H4 e4 hy => ⟨ys, e4 _ _ hL', ?_, ?_⟩
    · have h1 := rpa_len r
      rw [List.length_map, List.length_take] at h1
      omega
    · have m := lc_more hL (e2.trans e4) (e4 _ _ hL') (rpa_mono e4 r) hy (nn i) (hn d (List.mem_of_getElem? hd))
      rw [List.take_add_one, hd, List.map_append]
      exact m
  · obtain ⟨e2, ys, hL', r⟩ := p
    rw [hlen, List.take_length] at r
    exact q _ _ (e1.trans e2) (.lst hL' r)
theorem ex_lc {x : Str} {j : Nat} {elt it : Expr} {scope : Scope} {px : Pos} {xs : List D} (fx : D → D) (hc : X.calm = true) (hN : X.N.Nodup) (hz : xs.length < sizeLine) (hn : ∀ d, d ∈ xs → noL (fx d) = true) (hj : X.N[j]? = some x) (ok : BlkOk X.N X.env.scope scope [(x, j)]) (hx : ∀ (s : Shared) (H : Hp) (C : Addr) (cl : List (Str × Addr)) (fp : List Addr), Loc (X.blk s H scope (compEnvC scope cl C X.env) fp).env.scope x) (hf : ∀ (s : Shared) (H : Hp) (C : Addr) (cl : List (Str × Addr)) (fp : List Addr), (X.blk s H scope (compEnvC scope cl C X.env) fp).fn x = true ∨ (X.blk s H scope (compEnvC scope cl C X.env) fp).env.scope.names.lookup x = some .local)
    (hi : EX X it ds (.list xs))
    (he : ∀ (s : Shared) (H : Hp) (C : Addr) (cl : List (Str × Addr)) (fp : List Addr) (d : D), d ∈ xs → EX (X.blk s H scope (compEnvC scope cl C X.env) fp) elt ((wipeD ds [j]).set j (some d)) (fx d)) (hs : ∀ y, foldedSetIterable it X.env y = pure y := by intro _; rfl) :
    EX X (.ListComp elt [⟨.Name x px, it, [], 0⟩] scope pos) ds (.list (xs.map fx)) := by
  refine ex_pe (pe_lc (own := [(x, j)]) (g := gName j) (tt := tYes) (te := fun σ H Q => ∀ s0 H0 C cl fp, tE (X.blk s0 H0 scope (compEnvC scope cl C X.env) fp) elt σ H Q) hc hN (pi_list (trE it)) ok
    (fun s H C cl fp => pg_name (X := X.blk s H scope (compEnvC scope cl C X.env) fp) hN hj (hx s H C cl fp) (hf s H C cl fp)) (fun _ _ _ _ _ => pts_nil) (fun s0 H0 C cl fp => ⟨fun pins s σ H Q I h => h s0 H0 C cl fp pins s I⟩) hs) fun σ H f => ?_
  exact lc_go fx f (Ex.refl H) hz (fun Q q => hi.go f (Ex.refl H) q) (fun d hd σ' H' f' Q q s0 H0 C cl fp => (he s0 H0 C cl fp d hd).go f' (Ex.refl _) q) hn fun v H' e q => ⟨e, q⟩
theorem CalR.imp {P : Program} {w : World} {K : KF} {mg : Str → Option Value} {base : Heap} {k : Nat} {x : Str} {R R' : List D → D → Prop} (c : CalR P w K mg base k x R) (h : ∀ ds d, R' ds d → R ds d) : CalR P w K mg base k x R' := by
  obtain ⟨f, fd, ps, F, h1, h2, h3⟩ := c.ex
  refine ⟨f, fd, ps, F.imp fun vs H Q E z => ?_, h1, h2, h3⟩
  obtain ⟨ds, d, a, b, q⟩ := z
  exact ⟨ds, d, a, h ds d b, q⟩
theorem wipe_set2 {σ : L2.St} {i j : Nat} {x y : Option V} : wipe (((wipe σ [i, j]).set i x).set j y) [i, j] = wipe σ [i, j] := by
  show (((((σ.set j none).set i none).set i x).set j y).set j none).set i none = (σ.set j none).set i none
  apply List.ext_getElem?
  intro n
  simp only [List.getElem?_set, List.length_set]
  by_cases a : i = n <;> by_cases b : j = n <;> simp [a, b]
/-- the same over enumerate: L the new list -/
theorem lcE_go {K : KF} {ta : TA} {te : TE} {σ : L2.St} {H0 H : Hp} {xs : List D} {i j : Nat} (fx : Nat → D) (f : Fr H0 σ ds) (e0 : Ex H0 H) (hz : xs.length < sizeLine)
    (hl : ∀ Q : List V → Hp → Prop, (∀ v H', Ex H H' → Rp H' v (.list xs) → Q [v] H') → ta σ H Q)
    (he : ∀ n d, xs[n]? = some d → ∀ σ' H', Fr H' σ' (((wipeD ds [i, j]).set i (some (.int (n : Nat)))).set j (some d)) → ∀ Q : VK, (∀ v H2, Ex H' H2 → Rp H2 v (fx n) → Q v H2) → te σ' H' Q)
    (hn : ∀ n, noL (fx n) = true)
    {Q : VK} (q : ∀ L us H', Ex H H' → H L = none → H' L = some (.lst us) → RpA H' us ((List.range xs.length).map fx) → Q (.ref L) H') : tLc (iEnum K ta) (gTup K 2 (gCons (gName i) (gCons (gName j) gNil))) tYes te [i, j] σ H Q := by
  refine hl _ fun v H1 e1 q1 => ?_
  obtain ⟨a, vs, rfl, ha, qa⟩ := rp_lst q1
  refine ⟨a, vs, rfl, .of ha, fun L hL => ?_⟩
  have hlen := rpa_len qa
  have nn : ∀ i, noLs ((List.range i).map fx) = true := fun i => noLs_of fun d hd => by
    obtain ⟨z, hz, rfl⟩ := List.mem_map.mp hd
    exact hn z
  refine lc_it (walk_enum (K := K) (a := a) (xs := vs)) (fun n H' => Ex H1 H' ∧ ∃ ys, H' L = some (.lst ys) ∧ RpA H' ys ((List.range n).map fx)) ⟨Ex.new hL, [], upd_same, .nil⟩ (fun n H' _ p => .of (p.1 _ _ ha)) (fun n x H' H'' hi p y => ?_) (fun H' p => ?_)
  · obtain ⟨e2, ys, hL', r⟩ := p
    obtain ⟨T, x1, y1, rfl, hT, rfl, hx, hy⟩ := y
    have hx := Option.some.inj hx
    subst hx
    obtain ⟨d, hd, hyd⟩ := rpa_getV qa hy
    have e3 : Ex H' (upd H' T (.tup [.int (n : Nat), y1])) := Ex.new hT
    refine ⟨T, _, rfl, .of upd_same, rfl, _, _, rfl, _, _, rfl, rfl, wipe_set2, ?_⟩
    dsimp only [tYes]
    rw [if_pos rfl]
    have f' := ((fr_wipe (f.mono (((e0.trans e1).trans e2).trans e3)) [i, j]).set i (d := .int (n : Nat)) (.int _)).set j (rp_mono (e2.trans e3) hyd)
    refine he n d hd _ _ f' _ fun y H4 e4 hy4 => ⟨ys, e4 _ _ (e3 _ _ hL'), ?_, ?_⟩
    · have h1 := rpa_len r
      rw [List.length_map, List.length_range] at h1
      omega
    · have m := lc_more hL ((e2.trans e3).trans e4) (e4 _ _ (e3 _ _ hL')) (rpa_mono (e3.trans e4) r) hy4 (nn n) (hn n)
      rw [List.range_succ, List.map_append]
      exact m
  · obtain ⟨e2, ys, hL', r⟩ := p
    rw [hlen] at r
    exact q _ _ _ (e1.trans e2) (fresh_back e1 hL) hL' r
/-! ### statements -/
variable {st : Stmt} {sts : List Stmt} {o : Out} {ds1 : DF}
theorem sxs_nil : SXs X [] ds (.nx ds) := sxs_pss pss_nil fun _ H f => ⟨Ex.refl H, f⟩
/-- less is told of a frame -/
def Le : DF → DF → Prop
  | [], [] => True
  | none :: a, _ :: b => Le a b
  | some x :: a, some y :: b => x = y ∧ Le a b
  | _, _ => False
theorem le_refl : ∀ ds : DF, Le ds ds
  | [] => trivial
  | none :: a => le_refl a
  | some _ :: a => ⟨rfl, le_refl a⟩
theorem fr_le {H : Hp} {σ : L2.St} : ∀ {a b : DF}, Le a b → a.length = b.length ∧ ∀ (i : Nat) (d : D), a[i]? = some (some d) → b[i]? = some (some d)
  | [], [], _ => ⟨rfl, fun _ _ h => by simp at h⟩
  | none :: a, _ :: b, h => by
    obtain ⟨h1, h2⟩ := fr_le (H := H) (σ := σ) (a := a) (b := b) h
    refine ⟨congrArg (· + 1) h1, fun i d e => ?_⟩
    cases i with
    | zero => simp at e
    | succ i => simpa using h2 i d (by simpa using e)
  | some x :: a, some y :: b, h => by
    obtain ⟨h1, h2⟩ := fr_le (H := H) (σ := σ) (a := a) (b := b) h.2
    refine ⟨congrArg (· + 1) h1, fun i d e => ?_⟩
    cases i with
    | zero =>
      rw [← h.1]
      simpa using e
    | succ i => simpa using h2 i d (by simpa using e)
theorem Fr.le {H : Hp} {σ : L2.St} {a b : DF} (f : Fr H σ b) (h : Le a b) : Fr H σ a := f.less (fr_le (H := H) (σ := σ) h).1 (fr_le (H := H) (σ := σ) h).2
theorem SXs.le (h : SXs X sts ds o) (l : Le ds ds1) : SXs X sts ds1 o := ⟨fun σ H f => h.run σ H (f.le l)⟩
theorem EX.le (h : EX X e ds d) (l : Le ds ds1) : EX X e ds1 d := ⟨fun σ H f => h.run σ H (f.le l)⟩
theorem oEnds_ex {H H' : Hp} (e : Ex H H') : Ends.le (oEnds H' o) (oEnds H o) := by
  cases o with
  | nx ds => exact ⟨fun _ _ ⟨a, b⟩ => ⟨e.trans a, b⟩, fun _ _ h => h, fun _ _ h => h, fun _ _ h => h⟩
  | rt d => exact ⟨fun _ _ h => h, fun _ _ ⟨a, b⟩ => ⟨e.trans a, b⟩, fun _ _ h => h, fun _ _ h => h⟩
/-- a block behind a heap that has grown -/
theorem SXs.go (h : SXs X sts ds o) {σ : L2.St} {H0 H : Hp} (f : Fr H σ ds) (e : Ex H0 H) : tSs X sts (oEnds H0 o) σ H := tSs_mono (h.run σ H f) (oEnds_ex e)
theorem sxs_cons (h1 : SX X st ds (.nx ds1)) (h2 : SXs X sts ds1 o) : SXs X (st :: sts) ds o :=
  sxs_pss (pss_cons (trS st) (trSs sts)) fun _ H f => tS_mono (h1.run _ H f) ⟨fun _ _ ⟨e, f1⟩ => h2.go f1 e, fun _ _ h => h.elim, fun _ _ h => h.elim, fun _ _ h => h.elim⟩
theorem sxs_ret (h1 : SX X st ds (.rt d)) : SXs X (st :: sts) ds (.rt d) :=
  sxs_pss (pss_cons (trS st) (trSs sts)) fun _ H f => tS_mono (h1.run _ H f) ⟨fun _ _ h => h.elim, fun _ _ h => h, fun _ _ h => h.elim, fun _ _ h => h.elim⟩
/-- a first statement by its own rule, what follows by frames -/
theorem sxs_ps {t : TS} (h : PS X st t) (r : ∀ σ H, Fr H σ ds → t { nx := fun σ' H' => tSs X sts (oEnds H o) σ' H', rt := (oEnds H o).rt } σ H) : SXs X (st :: sts) ds o :=
  sxs_pss (pss_cons h (trSs sts)) fun σ H f => by
    have q := r σ H f
    cases o <;> exact q
theorem sx_set (n : Nat) {x : Str} {p' : Pos} (he : EX X e ds d) (hN : X.N.Nodup) (hi : X.N[n]? = some x) (hx : Loc X.env.scope x) (hs : swapsWith e (some (.Name x p')) pos.line X.env = pure false := by rfl) (hf : X.fn x = true ∨ X.env.scope.names.lookup x = some .local := by first | exact .inl rfl | exact .inr rfl | assumption) :
    SX X (.Assign [.Name x p'] e pos) ds (.nx (ds.set n (some d))) :=
  sx_ps (ps_set hN hi hx (trE e) hs hf) fun _ H f => he.go f (Ex.refl H) fun _ _ e1 q1 => ⟨e1, (f.mono e1).set n q1⟩
theorem sx_ret (he : EX X e ds d) : SX X (.Return (some e) pos) ds (.rt d) := sx_ps (ps_ret (trE e)) fun _ H f => he.go f (Ex.refl H) fun _ _ e1 q1 => ⟨e1, q1⟩
theorem sx_expr (he : EX X e ds d) (hs : swapsWith e none pos.line X.env = pure false := by rfl) : SX X (.Expr e pos) ds (.nx ds) := sx_ps (ps_expr (trE e) hs) fun _ H f => he.go f (Ex.refl H) fun _ _ e1 _ => ⟨e1, f.mono e1⟩
theorem sx_if {k : Bool} {A B : List Stmt} (hc : ET X c ds k) (ha : k = true → SXs X A ds o) (hb : k = false → SXs X B ds o) : SX X (.If c A B pos) ds o :=
  sx_ps (ps_if (trT c) (trSs A) (trSs B)) fun _ H f => hc.go f (Ex.refl H) fun _ e1 => by
    cases k with
    | true => exact iteT ((ha rfl).go (f.mono e1) e1)
    | false => exact iteF ((hb rfl).go (f.mono e1) e1)
theorem sx_ifT {A B : List Stmt} (hc : ET X c ds true) (ha : SXs X A ds o) : SX X (.If c A B pos) ds o := sx_if hc (fun _ => ha) fun h => nomatch h
theorem sx_ifF {A B : List Stmt} (hc : ET X c ds false) (hb : SXs X B ds o) : SX X (.If c A B pos) ds o := sx_if hc (fun h => nomatch h) fun _ => hb
/-- a, b = x, y -/
theorem sx_par {x y : Str} {n m : Nat} {px py pt : Pos} {kt k2 pt2} (ha : EX X a ds d1) (hb : EX X b ds d2) (hc : X.calm = true) (hN : X.N.Nodup) (hi : X.N[n]? = some x) (hj : X.N[m]? = some y) (hij : n ≠ m)
    (hx : X.env.scope.names.lookup x = some .local) (hy : X.env.scope.names.lookup y = some .local)
    (hw : swappedStores [.Tuple [.Name x px, .Name y py] kt pt] (.Tuple [a, b] k2 pt2) X.env = pure (some [x, y]))
    (hs : swapsWithSole [.Tuple [.Name x px, .Name y py] kt pt] (.Tuple [a, b] k2 pt2) pos.line X.env = pure false := by rfl)
    (h1 : starEach [a, b] X.env = (false, eval a X.env) :: starEach [b] X.env := by rfl) (h2 : starEach [b] X.env = (false, eval b X.env) :: starEach [] X.env := by rfl) :
    SX X (.Assign [.Tuple [.Name x px, .Name y py] kt pt] (.Tuple [a, b] k2 pt2) pos) ds (.nx ((ds.set n (some d1)).set m (some d2))) :=
  sx_ps (ps_par hc hN hi hj hij hx hy (trA _) hw hs) fun _ H f => (ea_cons ha (ea_cons hb ea_nil h2) h1).go f (Ex.refl H) fun vs _ e1 q1 => by
    obtain ⟨v, u, rfl, r1, r2⟩ := rpa_two q1
    exact ⟨v, u, rfl, e1, ((f.mono e1).set n r1).set m r2⟩
/-- names = a tuple -/
theorem gNames {K : KF} : ∀ {is : List Nat} {H : Hp} {vs : List V} {xs : List D} {σ : L2.St} {ds : DF} {Q : L2.St → Hp → Prop}, Fr H σ ds → RpA H vs xs → is.length = xs.length →
    (∀ σ', Fr H σ' ((is.zip xs).foldl (fun a p => a.set p.1 (some p.2)) ds) → Q σ' H) → (is.foldr (fun i t => gCons (gName i) t) gNil) vs σ H Q
  | [], _, _, _, σ, _, _, f, .nil, _, q => ⟨rfl, q σ f⟩
  | i :: is, _, _, _, σ, _, _, f, .cons h a, hl, q => ⟨_, _, rfl, gNames (K := K) (is := is) (f.set i h) a (by simpa using hl) q⟩
theorem sx_unpack {es : List Expr} {kt : Nat} {pt : Pos} {as : List D} (is : List Nat) (he : EX X e ds (.tuple as)) (hc : X.calm = true) (hl : is.length = as.length) (hg : PGs X es (is.foldr (fun i t => gCons (gName i) t) gNil))
    (hn : (assignEach es X.env).length = as.length) (hst : (assignEach es X.env).findIdx? (·.1) = none := by rfl)
    (hs : swapsWithSole [.Tuple es kt pt] e pos.line X.env = pure false := by rfl) (hw : swappedStores [.Tuple es kt pt] e X.env = pure none := by rfl) (h1 : (assignEach [.Tuple es kt pt] X.env).map (·.2) = [assign (.Tuple es kt pt) X.env] := by rfl) :
    SX X (.Assign [.Tuple es kt pt] e pos) ds (.nx ((is.zip as).foldl (fun a p => a.set p.1 (some p.2)) ds)) :=
  sx_ps (ps_asg (trE e) (pg_tup hc hg hn hst) hs hw h1) fun _ H f => he.go f (Ex.refl H) fun v _ e1 q1 => by
    obtain ⟨a, vs, rfl, ha, qa⟩ := rp_tup q1
    exact ⟨a, vs, rfl, .of ha, rpa_len qa, gNames (K := X.K) (f.mono e1) qa hl fun σ' f' => ⟨e1, f'⟩⟩
/-! ### loops -/
theorem sxs_while {α : Type} {body : List Stmt} (F : α → DF) (P : α → Prop) (μ : α → Nat) (k : α → Bool) (a0 : α) (h0 : P a0) (l0 : Le (F a0) ds) (hp : PassesOwn (model X.prog X.w) X.A X.env X.xe) (hT : ∀ a, P a → ET X c (F a) (k a))
    (hB : ∀ a, P a → k a = true → (∃ a' ds', P a' ∧ μ a' < μ a ∧ SXs X body (F a) (.nx ds') ∧ Le (F a') ds'))
    (hC : ∀ a, P a → k a = false → SXs X sts (F a) o) : SXs X (.While c body [] pos :: sts) ds o :=
  sxs_ps (ps_while hp (trT c) (trSs body)) fun σ H f => by
    refine ⟨fun m σ' H' => ∃ a, P a ∧ m = μ a ∧ Ex H H' ∧ Fr H' σ' (F a), ⟨μ a0, a0, h0, rfl, Ex.refl H, f.le l0⟩, ?_⟩
    rintro m σ' H' ⟨a, pa, rfl, e1, f1⟩
    refine (hT a pa).go f1 (Ex.refl _) fun H2 e2 => ?_
    have f2 := f1.mono e2
    cases q : k a with
    | true =>
      refine iteT ?_
      obtain ⟨a', ds', p', l', hb, le'⟩ := hB a pa q
      exact ⟨fun σ' H' => ∃ a, P a ∧ μ a = μ a' ∧ Ex H H' ∧ Fr H' σ' (F a), fun _ _ ⟨b, pb, eb, r1, r2⟩ => ⟨μ b, by omega, b, pb, rfl, r1, r2⟩, tSs_mono (hb.run σ' H2 f2) ⟨fun _ _ ⟨e3, f3⟩ => ⟨a', p', rfl, (e1.trans e2).trans e3, f3.le le'⟩, fun _ _ h => h.elim, fun _ _ h => h.elim, fun _ _ h => h.elim⟩⟩
    | false => exact iteF ((hC a pa q).go f2 (e1.trans e2))
/-- for x in a list: F i is the frame ahead of the i-th turn, given the state -/
theorem sxs_forL {α : Type} {body : List Stmt} {xs : List D} {x : Str} {p' : Pos} (n : Nat) (F : α → DF) (P : Nat → α → Prop) (a0 : α) (h0 : P 0 a0) (l0 : Le (F a0) ds) (hp : PassesOwn (model X.prog X.w) X.A X.env X.xe) (hc : X.calm = true) (hN : X.N.Nodup) (hi : X.N[n]? = some x) (hx : Loc X.env.scope x)
    (he : EX X e ds (.list xs)) (hB : ∀ i a d, xs[i]? = some d → P i a → (∃ a' ds', P (i + 1) a' ∧ SXs X body ((F a).set n (some d)) (.nx ds') ∧ Le (F a') ds'))
    (hC : ∀ a, P xs.length a → SXs X sts (F a) o) (hf : X.fn x = true ∨ X.env.scope.names.lookup x = some .local := by first | exact .inl rfl | exact .inr rfl | assumption)
    (hs : ∀ y, foldedSetIterable e X.env y = pure y := by intro _; rfl) : SXs X (.For (.Name x p') e body [] pos :: sts) ds o :=
  sxs_ps (ps_for hp hc (pi_list (trE e)) (pg_name (i := n) hN hi hx hf) (trSs body) hs) fun σ H f => he.go f (Ex.refl H) fun v H1 e1 q1 => by
    obtain ⟨a, vs, rfl, ha, qa⟩ := rp_lst q1
    refine ⟨a, rfl, ⟨vs, .of ha⟩, for_list (K := X.K) (a := a) (xs := vs) (fun i σ' H' => ∃ z, P i z ∧ Ex H1 H' ∧ Fr H' σ' (F z)) ⟨a0, h0, Ex.refl H1, (f.mono e1).le l0⟩ (fun i σ' H' _ ⟨_, _, e2, _⟩ => .of (e2 _ _ ha)) (fun i y σ' H' hi ⟨z, pz, e2, f2⟩ => ?_) (fun σ' H' ⟨z, pz, e2, f2⟩ => ?_)⟩
    · obtain ⟨d, hd, hy⟩ := rpa_getV qa hi
      obtain ⟨z', ds', p', hb, l'⟩ := hB i z d hd pz
      exact tSs_mono (hb.run _ H' (f2.set n (rp_mono e2 hy))) ⟨fun _ _ ⟨e3, f3⟩ => ⟨z', p', e2.trans e3, f3.le l'⟩, fun _ _ h => h.elim, fun _ _ h => h.elim, fun _ _ h => h.elim⟩
    · rw [rpa_len qa] at pz
      exact (hC z pz).go f2 (e1.trans e2)
/-- for x in range(i, j, c): F the frame ahead of a turn -/
theorem sxs_forR3 {α : Type} {body : List Stmt} {x : Str} {p1 p2 p' : Pos} {m : Nat} {k : Int} (n : Nat) (F : α → DF) (P : Nat → α → Prop) (a0 : α) (h0 : P 0 a0) (l0 : Le (F a0) ds) (hp : PassesOwn (model X.prog X.w) X.A X.env X.xe) (hc : X.calm = true) (hN : X.N.Nodup) (hi : X.N[n]? = some x) (hx : Loc X.env.scope x)
    (hg : Gl X "range") (hm : X.mg "range" = none) (he : EA X [a, b, c] ds [.int i, .int j, .int k]) (hr : RgC i j k m)
    (hB : ∀ t z, t < m → P t z → (∃ z' ds', P (t + 1) z' ∧ SXs X body ((F z).set n (some (.int (i + (t : Nat) * k)))) (.nx ds') ∧ Le (F z') ds'))
    (hC : ∀ z, P m z → SXs X sts (F z) o) (hf : X.fn x = true ∨ X.env.scope.names.lookup x = some .local := by first | exact .inl rfl | exact .inr rfl | assumption)
    (hs1 : starEach [a, b, c] X.env = (false, eval a X.env) :: starEach [b, c] X.env := by rfl) (hpl : (backTo p2 (starEach [b, c] X.env)).any (·.1) = false := by rfl)
    (hs : ∀ y, foldedSetIterable (.Call (.Name "range" p1) [a, b, c] [] p2) X.env y = pure y := by intro _; rfl) : SXs X (.For (.Name x p') (.Call (.Name "range" p1) [a, b, c] [] p2) body [] pos :: sts) ds o :=
  sxs_ps (ps_for hp hc (pi_range3 hg hm (trA _) hs1 hpl) (pg_name (i := n) hN hi hx hf) (trSs body) hs) fun σ H f => he.go f (Ex.refl H) fun vs H1 e1 q1 => by
    have : vs = [.int i, .int j, .int k] := rpa_intsV (ns := [i, j, k]) q1
    subst this
    refine ⟨i, j, k, m, rfl, hr, for_rangeC (fun t σ' H' => ∃ z, P t z ∧ Ex H1 H' ∧ Fr H' σ' (F z)) ⟨a0, h0, Ex.refl H1, (f.mono e1).le l0⟩ (fun t σ' H' ht ⟨z, pz, e2, f2⟩ => ?_) (fun σ' H' ⟨z, pz, e2, f2⟩ => ?_)⟩
    · obtain ⟨z', ds', p', hb, l'⟩ := hB t z ht pz
      exact tSs_mono (hb.run _ H' (f2.set n (.int _))) ⟨fun _ _ ⟨e3, f3⟩ => ⟨z', p', e2.trans e3, f3.le l'⟩, fun _ _ h => h.elim, fun _ _ h => h.elim, fun _ _ h => h.elim⟩
    · exact (hC z pz).go f2 (e1.trans e2)
theorem sxs_forR2 {α : Type} {body : List Stmt} {x : Str} {p1 p2 p' : Pos} (n : Nat) (F : α → DF) (P : Nat → α → Prop) (a0 : α) (h0 : P 0 a0) (l0 : Le (F a0) ds) (hp : PassesOwn (model X.prog X.w) X.A X.env X.xe) (hc : X.calm = true) (hN : X.N.Nodup) (hi : X.N[n]? = some x) (hx : Loc X.env.scope x)
    (hg : Gl X "range") (hm : X.mg "range" = none) (he : EA X [a, b] ds [.int i, .int j]) (hr : -(2 ^ 62) ≤ i ∧ i < 2 ^ 62 ∧ -(2 ^ 62) ≤ j ∧ j < 2 ^ 62)
    (hB : ∀ t z, t < (j - i).toNat → P t z → (∃ z' ds', P (t + 1) z' ∧ SXs X body ((F z).set n (some (.int (i + (t : Nat))))) (.nx ds') ∧ Le (F z') ds'))
    (hC : ∀ z, P (j - i).toNat z → SXs X sts (F z) o) (hf : X.fn x = true ∨ X.env.scope.names.lookup x = some .local := by first | exact .inl rfl | exact .inr rfl | assumption)
    (hs1 : starEach [a, b] X.env = [(false, eval a X.env), (false, eval b X.env)] := by rfl) (hs2 : starEach [b] X.env = [(false, eval b X.env)] := by rfl)
    (hs : ∀ y, foldedSetIterable (.Call (.Name "range" p1) [a, b] [] p2) X.env y = pure y := by intro _; rfl) : SXs X (.For (.Name x p') (.Call (.Name "range" p1) [a, b] [] p2) body [] pos :: sts) ds o :=
  sxs_ps (ps_for hp hc (pi_range2 hg hm (trA _) hs1 hs2) (pg_name (i := n) hN hi hx hf) (trSs body) hs) fun σ H f => he.go f (Ex.refl H) fun vs H1 e1 q1 => by
    have : vs = [.int i, .int j] := rpa_intsV (ns := [i, j]) q1
    subst this
    refine ⟨i, j, rfl, hr, for_range (fun t σ' H' => ∃ z, P t z ∧ Ex H1 H' ∧ Fr H' σ' (F z)) ⟨a0, h0, Ex.refl H1, (f.mono e1).le l0⟩ (fun t σ' H' ht ⟨z, pz, e2, f2⟩ => ?_) (fun σ' H' ⟨z, pz, e2, f2⟩ => ?_)⟩
    · obtain ⟨z', ds', p', hb, l'⟩ := hB t z ht pz
      exact tSs_mono (hb.run _ H' (f2.set n (.int _))) ⟨fun _ _ ⟨e3, f3⟩ => ⟨z', p', e2.trans e3, f3.le l'⟩, fun _ _ h => h.elim, fun _ _ h => h.elim, fun _ _ h => h.elim⟩
    · exact (hC z pz).go f2 (e1.trans e2)
theorem sxs_forR1 {α : Type} {body : List Stmt} {x : Str} {p1 p2 p' : Pos} (n : Nat) (F : α → DF) (P : Nat → α → Prop) (a0 : α) (h0 : P 0 a0) (l0 : Le (F a0) ds) (hp : PassesOwn (model X.prog X.w) X.A X.env X.xe) (hc : X.calm = true) (hN : X.N.Nodup) (hi : X.N[n]? = some x) (hx : Loc X.env.scope x)
    (hg : Gl X "range") (hm : X.mg "range" = none) (he : EA X [a] ds [.int j]) (hr : -(2 ^ 62) ≤ j ∧ j < 2 ^ 62)
    (hB : ∀ t z, t < j.toNat → P t z → (∃ z' ds', P (t + 1) z' ∧ SXs X body ((F z).set n (some (.int (0 + (t : Nat))))) (.nx ds') ∧ Le (F z') ds'))
    (hC : ∀ z, P j.toNat z → SXs X sts (F z) o) (hf : X.fn x = true ∨ X.env.scope.names.lookup x = some .local := by first | exact .inl rfl | exact .inr rfl | assumption)
    (hs1 : starEach [a] X.env = [(false, eval a X.env)] := by rfl)
    (hs : ∀ y, foldedSetIterable (.Call (.Name "range" p1) [a] [] p2) X.env y = pure y := by intro _; rfl) : SXs X (.For (.Name x p') (.Call (.Name "range" p1) [a] [] p2) body [] pos :: sts) ds o :=
  sxs_ps (ps_for hp hc (pi_range1 hg hm (trA _) hs1) (pg_name (i := n) hN hi hx hf) (trSs body) hs) fun σ H f => he.go f (Ex.refl H) fun vs H1 e1 q1 => by
    have : vs = [.int j] := rpa_intsV (ns := [j]) q1
    subst this
    refine ⟨j, rfl, hr.1, hr.2, for_range (fun t σ' H' => ∃ z, P t z ∧ Ex H1 H' ∧ Fr H' σ' (F z)) ⟨a0, h0, Ex.refl H1, (f.mono e1).le l0⟩ (fun t σ' H' ht ⟨z, pz, e2, f2⟩ => ?_) (fun σ' H' ⟨z, pz, e2, f2⟩ => ?_)⟩
    · obtain ⟨z', ds', p', hb, l'⟩ := hB t z ht pz
      exact tSs_mono (hb.run _ H' (f2.set n (.int _))) ⟨fun _ _ ⟨e3, f3⟩ => ⟨z', p', e2.trans e3, f3.le l'⟩, fun _ _ h => h.elim, fun _ _ h => h.elim, fun _ _ h => h.elim⟩
    · exact (hC z pz).go f2 (e1.trans e2)
theorem ps_setLcT {i : Nat} {y : Str} {py : Pos} {elt tg iter : Expr} {scope : Scope} {own : List (Str × Nat)} {pos spos : Pos} {wi : TI} {g : TG} (hc : X.calm = true) (hN : X.N.Nodup) (hy : X.N[i]? = some y) (hyl : X.env.scope.names.lookup y = some .local)
    (hsw : swapsWith (.ListComp elt [⟨tg, iter, [], 0⟩] scope pos) (some (.Name y py)) spos.line X.env = pure true) (hi : PI X tg iter wi) (ok : BlkOk X.N X.env.scope scope own)
    (hg : ∀ (s : Shared) (H : Hp) (C : Addr) (cl : List (Str × Addr)) (fp : List Addr), PG (X.blk s H scope (compEnvC scope cl C X.env) fp) tg g) (hs : ∀ x, foldedSetIterable iter X.env x = pure x := by intro _; rfl) :
    PS X (.Assign [.Name y py] (.ListComp elt [⟨tg, iter, [], 0⟩] scope pos) spos) (tAsg (tLc wi g tYes (fun σ H Q => ∀ s0 H0 C cl fp, tE (X.blk s0 H0 scope (compEnvC scope cl C X.env) fp) elt σ H Q) (own.map (·.2))) (gName i)) :=
  ps_setLc hc hN hy hyl hsw hi ok hg (fun _ _ _ _ _ => pts_nil) (fun s0 H0 C cl fp => ⟨fun pins s σ H Q I h => h s0 H0 C cl fp pins s I⟩) hs
/-! ### a def -/
structure Def (K : KF) (mg : Str → Option Value) (x : Str) (st : Stmt) (ps : List Str) : Prop where
  ex : ∃ (f : Addr) (fd : FuncData), L2.Fun K x x st f fd ∧ mg x = some (.ref f) ∧ Binds K fd ps []
theorem cal_sp {P : Program} {w : World} {K : KF} {mg : Str → Option Value} {base : Heap} {x : Str} {st : Stmt} {N ps : List Str} {k : Nat} {sp : Sp} (F : Def K mg x st ps) (S : FnScope N ps (defScope st)) (len : ∀ vs H Q E, sp vs H Q E → vs.length = ps.length)
    (hb : ∀ (f : Addr) (cdv : Value) (A : Around) (outer : List Env) (s : Shared) (H0 : Hp) (E : XK) (H : Hp) (vs : List V) (Q : VK), Room k (A.deeper (envOfC x (defScope st) s.heap.objs.size f cdv)) → sp vs H Q E →
      tSs (cxOf CX0 P w K mg base N x (defScope st) f cdv A outer s H E).nox (defBody st) { nx := fun _ H' => Q .non H', rt := Q } (L2.start N vs) H) : Cal P w K mg base (k + 1) x sp := by
  obtain ⟨f, fd, F1, hm, b⟩ := F.ex
  exact ⟨f, fd, ps, F1.ok S len fun cdv A outer s H vs Q E hr h => ⟨_, trSs _, hb f cdv A outer s H E H vs Q hr h⟩, hm, F1.kp, b⟩
theorem cal_of {P : Program} {w : World} {K : KF} {mg : Str → Option Value} {base : Heap} {x : Str} {st : Stmt} {N ps : List Str} {k : Nat} {R : List D → D → Prop} (F : Def K mg x st ps) (S : FnScope N ps (defScope st)) (len : ∀ ds d, R ds d → ds.length = ps.length)
    (hb : ∀ (f : Addr) (cdv : Value) (A : Around) (outer : List Env) (s : Shared) (H : Hp) (E : XK) (ds : List D) (d : D), Room k (A.deeper (envOfC x (defScope st) s.heap.objs.size f cdv)) → R ds d →
      SXs (cxOf CX0 P w K mg base N x (defScope st) f cdv A outer s H E).nox (defBody st) (startD N ds) (.rt d)) : CalR P w K mg base (k + 1) x R := by
  refine cal_sp F S (fun vs H Q E ⟨ds, d, h1, h2, _⟩ => (rpa_len h1).trans (len ds d h2)) fun f cdv A outer s H0 E H vs Q hr ⟨ds, d, h1, h2, q⟩ => ?_
  refine tSs_mono ((hb f cdv A outer s H E ds d hr h2).run (L2.start N vs) H (fr_start N h1)) ⟨fun _ _ h => h.elim, fun v H' ⟨e, r⟩ => q v H' e r, fun _ _ h => h.elim, fun _ _ h => h.elim⟩
theorem cal_ofN {P : Program} {w : World} {K : KF} {mg : Str → Option Value} {base : Heap} {x : Str} {st : Stmt} {N ps : List Str} {k : Nat} {R : List D → Prop} (F : Def K mg x st ps) (S : FnScope N ps (defScope st)) (len : ∀ ds, R ds → ds.length = ps.length)
    (hb : ∀ (f : Addr) (cdv : Value) (A : Around) (outer : List Env) (s : Shared) (H : Hp) (E : XK) (ds : List D), Room k (A.deeper (envOfC x (defScope st) s.heap.objs.size f cdv)) → R ds →
      ∃ ds', SXs (cxOf CX0 P w K mg base N x (defScope st) f cdv A outer s H E).nox (defBody st) (startD N ds) (.nx ds')) : CalR P w K mg base (k + 1) x (fun ds d => R ds ∧ d = .none) := by
  refine cal_sp F S (fun vs H Q E ⟨ds, d, h1, h2, _⟩ => (rpa_len h1).trans (len ds h2.1)) fun f cdv A outer s H0 E H vs Q hr ⟨ds, d, h1, ⟨h2, hd⟩, q⟩ => ?_
  obtain ⟨ds', h⟩ := hb f cdv A outer s H E ds hr h2
  refine tSs_mono (h.run (L2.start N vs) H (fr_start N h1)) ⟨fun _ H' z => q _ _ z.1 (by rw [hd]; exact .non), fun _ _ z => z.elim, fun _ _ z => z.elim, fun _ _ z => z.elim⟩
theorem et_between {l : Int} (ha : EX X a ds (.int l)) (hb : EX X b ds (.int i)) (hc : EX X c ds (.int j)) (hm : lastMarks [.LtE, .Lt] [b, c] = false := by with_unfolding_all rfl) (he : ∀ whole, isTrue (.Compare a [.LtE, .Lt] [b, c] pos) X.env whole = (do let v ← whole; standAt pos; holding [v] (truthy v)) := by intro _; rfl) : ET X (.Compare a [.LtE, .Lt] [b, c] pos) ds (decide (l ≤ i) && decide (i < j)) := et_val (ex_between ha hb hc hm) he
/-! ### a class -/
/-- its __init__ stands -/
structure MkD (K : KF) (mg : Str → Option Value) (x qual : Str) (C : Addr) (st : Stmt) (ps : List Str) : Prop where
  ex : ∃ (f : Addr) (fd : FuncData), Mk K C f ∧ L2.Fun K "__init__" qual st f fd ∧ Binds K fd ps []
  mgC : mg x = some (.ref C)
/-- a method stands -/
structure MeD (K : KF) (m qual : Str) (C : Addr) (st : Stmt) (ps : List Str) : Prop where
  ex : ∃ (f : Addr) (fd : FuncData), Meth K C m f ∧ L2.Fun K m qual st f fd ∧ Binds K fd ps []
theorem met_of {P : Program} {w : World} {K : KF} {mg : Str → Option Value} {base : Heap} {m qual : Str} {C : Addr} {st : Stmt} {N ps : List Str} {k : Nat} {R : List D → D → Prop} (hc : Cls K C) (F : MeD K m qual C st ps) (S : FnScope N ps (defScope st)) (len : ∀ ds d, R ds d → ds.length = ps.length)
    (hb : ∀ (f : Addr) (cdv : Value) (A : Around) (outer : List Env) (s : Shared) (H : Hp) (E : XK) (ds : List D) (d : D), Room k (A.deeper (envOfC qual (defScope st) s.heap.objs.size f cdv)) → R ds d →
      SXs (cxOf CX0 P w K mg base N qual (defScope st) f cdv A outer s H E).nox (defBody st) (startD N ds) (.rt d)) : Met P w K mg base (k + 1) C m (spR R) := by
  obtain ⟨f, fd, hm, F1, b⟩ := F.ex
  refine ⟨f, fd, ps, hc, hm, F1.ok S (fun vs H Q E ⟨ds, d, h1, h2, _⟩ => (rpa_len h1).trans (len ds d h2)) fun cdv A outer s H vs Q E hr ⟨ds, d, h1, h2, q⟩ => ⟨_, trSs _, ?_⟩, b⟩
  exact tSs_mono ((hb f cdv A outer s H E ds d hr h2).run (L2.start N vs) H (fr_start N h1)) ⟨fun _ _ h => h.elim, fun v H' ⟨e, r⟩ => q v H' e r, fun _ _ h => h.elim, fun _ _ h => h.elim⟩
/-- what __init__ with one list, copied into the field f, promises: l is the field's own list -/
def spInL (C : Addr) (f : Str) : Sp := fun vs H Q _ => ∃ (x dx : Addr) (v : V) (ds : List D), vs = [.ref x, v] ∧ H x = some (.ins C dx []) ∧ Rp H v (.list ds) ∧ noLs ds = true ∧
  ∀ (H' : Hp) (l : Addr) (us : List V), H l = none → (∀ b o, b ≠ x → H b = some o → H' b = some o) → H' x = some (.ins C dx [(f, .ref l)]) → H' l = some (.lst us) → RpA H' us ds → Q .non H'
/-- .. with one datum, kept in the field f -/
def spInV (C : Addr) (f : Str) : Sp := fun vs H Q _ => ∃ (x dx : Addr) (v : V) (d : D), vs = [.ref x, v] ∧ H x = some (.ins C dx []) ∧ Rp H v d ∧ noL d = true ∧
  ∀ H', (∀ b o, b ≠ x → H b = some o → H' b = some o) → H' x = some (.ins C dx [(f, v)]) → Rp H' v d → Q .non H'
structure Mak (P : Program) (w : World) (K : KF) (mg : Str → Option Value) (base : Heap) (k : Nat) (x : Str) (C : Addr) (sp : Sp) : Prop where
  ex : ∃ (f : Addr) (fd : FuncData) (ps : List Str), Mk K C f ∧ FnOk P w K mg base CX0 k f fd ps sp ∧ mg x = some (.ref C) ∧ Binds K fd ps []
theorem pe_mak {sp : Sp} {k j : Nat} {x : Str} {C : Addr} {p : Pos} {t : TA} (c : Mak X.prog X.w X.K X.mg X.base k x C sp) (hr : Room j X.A) (hk : k + 1 ≤ j) (hg : Gl X x) (ha : PA X (e :: es) t)
    (hdb : (x == ("__debug__" : Str)) = false := by decide) (he : starEach (e :: es) X.env = (false, eval e X.env) :: starEach es X.env := by rfl) (hpl : (backTo pos (starEach es X.env)).any (·.1) = false := by rfl) :
    PE X (.Call (.Name x p) (e :: es) [] pos) (tMake C sp [] E0 t) := by
  obtain ⟨f, fd, ps, M, F, hm, b⟩ := c.ex
  exact pe_make M F (hr.mono hk) hg hm b .nil pass0 ha hdb he hpl
/-- an object made of a list: x the object, l its field's list, both new -/
theorem mk_go {C : Addr} {f : Str} {σ : L2.St} {H0 H : Hp} {xs : List D} {Q : VK} {ar : Expr} (f0 : Fr H0 σ ds) (e0 : Ex H0 H) (he : EX X ar ds (.list xs)) (hn : noLs xs = true) (h1 : starEach [ar] X.env = (false, eval ar X.env) :: starEach [] X.env)
    (q : ∀ (H' : Hp) (x dx l : Addr) (us : List V), Ex H H' → H x = none → H l = none → H' x = some (.ins C dx [(f, .ref l)]) → H' l = some (.lst us) → RpA H' us xs → Q (.ref x) H') : tMake C (spInL C f) [] E0 (tA X [ar]) σ H Q := by
  refine EA.go (ea_cons he ea_nil h1) f0 e0 fun vs H1 e1 q1 => ?_
  obtain ⟨v, rfl, rv⟩ := rpa_one q1
  refine fun x dx nx ndx ne => ?_
  have ex1 : Ex H1 (upd (upd H1 dx (.own x)) x (.ins C dx [])) := (Ex.new ndx).mut nx
  refine ⟨x, dx, v, xs, rfl, upd_same, rp_mono ex1 rv, hn, fun H' l us hl hk hx hll hu => ⟨rfl, ?_⟩⟩
  have e2 : Ex H1 H' := fun b o hb => hk b o (ne_of_none hb nx) (ex1 b o hb)
  have nl : H1 l = none := fresh_back ex1 hl
  exact q H' x dx l us (e1.trans e2) (fresh_back e1 nx) (fresh_back e1 nl) hx hll hu
theorem ex_mkL {C : Addr} {f : Str} {k j : Nat} {x : Str} {xs : List D} {p : Pos} {ar : Expr} (c : Mak X.prog X.w X.K X.mg X.base k x C (spInL C f)) (hr : Room j X.A) (hk : k + 1 ≤ j) (hg : Gl X x) (he : EX X ar ds (.list xs)) (hn : noLs xs = true) (h1 : starEach [ar] X.env = (false, eval ar X.env) :: starEach [] X.env := by rfl) (hpl : (backTo pos (starEach [] X.env)).any (·.1) = false := by rfl)
    (hdb : (x == ("__debug__" : Str)) = false := by decide) : EX X (.Call (.Name x p) [ar] [] pos) ds (obD C f (.list xs)) :=
  ex_pe (pe_mak c hr hk hg (trA _) hdb h1 hpl) fun _ _ f0 => mk_go f0 (Ex.refl _) he hn h1 fun H' x dx l us e1 _ _ hx hl hu => ⟨e1, .ob hx (.lst hl hu)⟩
theorem ex_mkV {C : Addr} {f : Str} {k j : Nat} {x : Str} {p : Pos} {ar : Expr} (c : Mak X.prog X.w X.K X.mg X.base k x C (spInV C f)) (hr : Room j X.A) (hk : k + 1 ≤ j) (hg : Gl X x) (he : EX X ar ds d) (hn : noL d = true) (h1 : starEach [ar] X.env = (false, eval ar X.env) :: starEach [] X.env := by rfl) (hpl : (backTo pos (starEach [] X.env)).any (·.1) = false := by rfl)
    (hdb : (x == ("__debug__" : Str)) = false := by decide) : EX X (.Call (.Name x p) [ar] [] pos) ds (obD C f d) :=
  ex_pe (pe_mak c hr hk hg (trA _) hdb h1 hpl) fun _ _ f0 => EA.go (ea_cons he ea_nil h1) f0 (Ex.refl _) fun vs H1 e1 q1 => by
    obtain ⟨v, rfl, rv⟩ := rpa_one q1
    refine fun x dx nx ndx ne => ?_
    have ex1 : Ex H1 (upd (upd H1 dx (.own x)) x (.ins C dx [])) := (Ex.new ndx).mut nx
    refine ⟨x, dx, v, d, rfl, upd_same, rp_mono ex1 rv, hn, fun H' hk hx hu => ⟨rfl, ?_⟩⟩
    exact ⟨e1.trans fun b o hb => hk b o (ne_of_none hb nx) (ex1 b o hb), .ob hx hu⟩
/-! ### blocks step by step -/
theorem tSs_ps {D : Ends} {t : TS} {σ : L2.St} {H : Hp} (h : PS X st t) (r : t { D with nx := fun σ' H' => tSs X sts D σ' H' } σ H) : tSs X (st :: sts) D σ H := fun pins s I => (pss_cons h (trSs sts)).run pins s σ H D I r
theorem tSs_nil {D : Ends} {σ : L2.St} {H : Hp} (r : D.nx σ H) : tSs X [] D σ H := fun pins s I => pss_nil.run pins s σ H D I r
theorem tSs_ifF {D : Ends} {σ : L2.St} {H0 H : Hp} {body : List Stmt} (h : ET X c ds false) (f : Fr H0 σ ds) (e : Ex H0 H) (k : ∀ H', Ex H H' → tSs X sts D σ H') : tSs X (.If c body [] pos :: sts) D σ H :=
  tSs_ps (ps_if (trT c) (trSs body) pss_nil) (ET.go h f e fun H' e' => iteF (k H' e'))
theorem tSs_if2 {D : Ends} {σ : L2.St} {H0 H : Hp} {body : List Stmt} {q : Bool} (J : Hp → Prop) (h : ET X c ds q) (f : Fr H0 σ ds) (e : Ex H0 H) (kT : q = true → ∀ H', Ex H H' → tSs X body { D with nx := fun σ' H' => σ' = σ ∧ J H' } σ H') (kF : q = false → ∀ H', Ex H H' → J H') (k : ∀ H', J H' → tSs X sts D σ H') :
    tSs X (.If c body [] pos :: sts) D σ H :=
  tSs_ps (ps_if (trT c) (trSs body) pss_nil) (ET.go h f e fun H' e' => by
    cases q with
    | true => exact iteT (tSs_mono (kT rfl H' e') ⟨fun σ' H2 z => by obtain ⟨rfl, z⟩ := z; exact k H2 z, fun _ _ z => z, fun _ _ z => z, fun _ _ z => z⟩)
    | false => exact iteF (k H' (kF rfl H' e')))
theorem tSs_cons {D : Ends} {σ : L2.St} {H : Hp} (h : SX X st ds (.nx ds1)) (f : Fr H σ ds) (k : ∀ σ' H', Ex H H' → Fr H' σ' ds1 → tSs X sts D σ' H') : tSs X (st :: sts) D σ H :=
  tSs_ps (trS st) (tS_mono (h.run σ H f) ⟨fun σ' H' z => k σ' H' z.1 z.2, fun _ _ z => z.elim, fun _ _ z => z.elim, fun _ _ z => z.elim⟩)
theorem tSs_par {a b : Expr} {d1 d2 : D} {D : Ends} {σ : L2.St} {H0 H : Hp} {x y : Str} {px py pt : Pos} {kt k2 : Nat} {pt2 : Pos} (n m : Nat) (ha : EX X a ds d1) (hb : EX X b ds d2) (f : Fr H0 σ ds) (e0 : Ex H0 H) (hc : X.calm = true) (hN : X.N.Nodup) (hi : X.N[n]? = some x) (hj : X.N[m]? = some y) (hij : n ≠ m)
    (hx : X.env.scope.names.lookup x = some .local) (hy : X.env.scope.names.lookup y = some .local) (k : ∀ v u H', Ex H H' → Rp H' v d1 → Rp H' u d2 → tSs X sts D ((σ.set n (some v)).set m (some u)) H')
    (hw : swappedStores [.Tuple [.Name x px, .Name y py] kt pt] (.Tuple [a, b] k2 pt2) X.env = pure (some [x, y]) := by rfl)
    (hs : swapsWithSole [.Tuple [.Name x px, .Name y py] kt pt] (.Tuple [a, b] k2 pt2) pos.line X.env = pure false := by rfl)
    (h1 : starEach [a, b] X.env = (false, eval a X.env) :: starEach [b] X.env := by rfl) (h2 : starEach [b] X.env = (false, eval b X.env) :: starEach [] X.env := by rfl) :
    tSs X (.Assign [.Tuple [.Name x px, .Name y py] kt pt] (.Tuple [a, b] k2 pt2) pos :: sts) D σ H :=
  tSs_ps (ps_par hc hN hi hj hij hx hy (trA _) hw hs) ((ea_cons ha (ea_cons hb ea_nil h2) h1).go f e0 fun vs _ e1 q1 => by
    obtain ⟨v, u, rfl, r1, r2⟩ := rpa_two q1
    exact ⟨v, u, rfl, k v u _ e1 r1 r2⟩)
theorem tSs_set {D : Ends} {σ : L2.St} {H0 H : Hp} {x : Str} {p1 : Pos} (n : Nat) (he : EX X e ds d) (f : Fr H0 σ ds) (e0 : Ex H0 H) (hN : X.N.Nodup) (hi : X.N[n]? = some x) (hx : Loc X.env.scope x) (k : ∀ v H', Ex H H' → Rp H' v d → tSs X sts D (σ.set n (some v)) H')
    (hs : swapsWith e (some (.Name x p1)) pos.line X.env = pure false := by rfl) (hf : X.fn x = true ∨ X.env.scope.names.lookup x = some .local := by first | exact .inl rfl | exact .inr rfl | assumption) : tSs X (.Assign [.Name x p1] e pos :: sts) D σ H :=
  tSs_ps (ps_set hN hi hx (trE e) hs hf) (EX.go he f e0 k)
theorem tSs_go {D : Ends} {σ : L2.St} {H : Hp} (h : SXs X sts ds (.rt d)) (f : Fr H σ ds) (k : ∀ v H', Ex H H' → Rp H' v d → D.rt v H') : tSs X sts D σ H := tSs_mono (h.run σ H f) ⟨fun _ _ h => h.elim, fun v H' h => k v H' h.1 h.2, fun _ _ h => h.elim, fun _ _ h => h.elim⟩
end
section
variable {X : Cx} {C : Addr} {x : Str} {p pos : Pos}
/-- what a class without __init__ of its own must have -/
structure Mk0 (K : KF) (C : Addr) : Prop where
  makes : PySem.W.makesIn K C = true
  init : PySem.W.findIn K (.ref C) "__init__" = some (some (.builtin "object.__init__"))
  top : PySem.W.mroIn K C (.type "object") = some true
  kp : PySem.W.keepIn K (.ref C) = true
theorem pe_mk0 (M : Mk0 X.K C) (hg : Gl X x) (hm : X.mg x = some (.ref C)) (hdb : (x == ("__debug__" : Str)) = false := by decide) :
    PE X (.Call (.Name x p) [] [] pos) (fun σ H Q => ∀ y dx, H y = none → H dx = none → dx ≠ y → Q (.ref y) (upd (upd H dx (.own y)) y (.ins C dx []))) := by
  refine ⟨fun pins s σ H Q I h => ?_⟩
  refine wpAny_Call_Name_kw (ld_glob I hg hm ?_ hdb)
  refine PySem.W.callWith_K0 I.kIn M.kp ?_
  have hq := h (s.heap.objs.size + 1) s.heap.objs.size (I.hok.fresh (Nat.le_succ _)) (I.hok.fresh (Nat.le_refl _)) (Nat.ne_of_lt (Nat.lt_succ_self _))
  have I2 := Inv.made (C := C) I
  refine wpAny_call (make_map0 I.kIn M.makes M.init (fun self => PySem.W.Looks.of_pure (PySem.W.oi_bind _)) ?_)
  have ho : ((s.heap.push PySem.W.emptyDict).push (PySem.W.instObj C s.heap.objs.size)).get? (s.heap.objs.size + 1) = some (PySem.W.instObj C s.heap.objs.size) := by
    have := Heap.get?_push_size (s.heap.push PySem.W.emptyDict) (o := PySem.W.instObj C s.heap.objs.size) rfl
    simpa using this
  have t1 : PySem.W.Looks (model X.prog X.w) ((s.heap.push PySem.W.emptyDict).push (PySem.W.instObj C s.heap.objs.size)) (typeOf (.ref (s.heap.objs.size + 1))) (.ref C) := NwA.type_at ho rfl
  have t2 : PySem.W.Looks (model X.prog X.w) ((s.heap.push PySem.W.emptyDict).push (PySem.W.instObj C s.heap.objs.size)) (isInstance (.ref (s.heap.objs.size + 1)) (.type "object")) true := t1.andThen (PySem.W.looks_mroIn I2.kIn M.top)
  refine codeAny_call_builtin PySem.W.oi_plain PySem.W.entry_oi (@PySem.W.check_slot (model X.prog X.w) _ _ _ "object.__init__" "object" "__init__" (.ref (s.heap.objs.size + 1)) [] [] _ PySem.W.oi_kind PySem.W.oi_split t2 (PySem.W.oi_args (.ref (s.heap.objs.size + 1))) ?_)
  rw [PySem.W.oi_run]
  exact wpAny_pure (And.intro rfl ⟨V.ref (s.heap.objs.size + 1), _, I2, rfl, hq⟩)
theorem ex_mk0 {ds : DF} (M : Mk0 X.K C) (hg : Gl X x) (hm : X.mg x = some (.ref C)) (hdb : (x == ("__debug__" : Str)) = false := by decide) : EX X (.Call (.Name x p) [] [] pos) ds (obN C) :=
  ex_pe (pe_mk0 M hg hm hdb) fun σ H f y dx hy hx hne => ⟨(Ex.new hx).mut hy, .obn upd_same⟩
end
end G

set_option Elab.async false
set_option linter.all false
set_option maxRecDepth 100000
set_option maxHeartbeats 4000000
/-! ## Errors of own classes: raised, let out, caught -/
namespace G
open PySem PySem.Spec PyProof.Rows L2 Evl
/-- what the written part says of an error's class -/
structure ErrF (K : KF) (mg : Str → Option Value) (x : Str) (C : Addr) : Prop where
  g : mg x = some (.ref C)
  xi : PySem.W.excIn K C [.type "ValueError", .type "Exception", .type "BaseException", .type "object"] "ValueError.__new__" = true
  kp : PySem.W.keepIn K (.ref C) = true
  b : PySem.W.subIn K (.ref C) (.type "BaseException") = some true
  t : PySem.W.typeIn K (.ref C) = some (.type "type")
  is : ExcC K C
/-- a def that raises: R tells by which class -/
def spE (R : List D → Addr → Prop) : Sp := fun vs H _ E => ∃ ds C, RpA H vs ds ∧ R ds C ∧ ∀ H', Ex H H' → E (.ref C) none H'
structure CalX (P : Program) (w : World) (K : KF) (mg : Str → Option Value) (base : Heap) (k : Nat) (x : Str) (R : List D → Addr → Prop) : Prop where
  ex : ∃ (f : Addr) (fd : FuncData) (ps : List Str), FnOk P w K mg base (L2N.CX P w) k f fd ps (spE R) ∧ mg x = some (.ref f) ∧ PySem.W.keepIn K (.ref f) = true ∧ Binds K fd ps []
/-- a def's own wish -/
abbrev wE (E : XK) : WX := fun cls d _ H => E cls d H
section
variable {X : Cx} {E : XK} {e a b c : Expr} {es : List Expr} {ds ds1 : DF} {d : D} {as : List D} {C : Addr} {pos : Pos} {st : Stmt} {sts : List Stmt}
/-- e raises an error of the class at C -/
structure EXr (X : Cx) (E : XK) (e : Expr) (ds : DF) (C : Addr) : Prop where
  run : ∀ (σ : L2.St) (H : Hp) (Q : VK), Fr H σ ds → (∀ H', Ex H H' → E (.ref C) none H') → tE X e σ H Q
structure SXr (X : Cx) (E : XK) (sts : List Stmt) (ds : DF) (C : Addr) : Prop where
  run : ∀ (σ : L2.St) (H : Hp) (D : Ends), Fr H σ ds → (∀ H', Ex H H' → E (.ref C) none H') → tSs X sts D σ H
theorem exr_call {R : List D → Addr → Prop} {k j : Nat} {x : Str} {p : Pos} (tk : L2N.Takes X (wE E)) (cl : CalX X.prog X.w X.K X.mg X.base k x R) (hr : Room j X.A) (hk : k ≤ j) (hg : Gl X x) (ha : EA X (e :: es) ds as) (hR : R as C)
    (hdb : (x == ("__debug__" : Str)) = false := by decide) (he : starEach (e :: es) X.env = (false, eval e X.env) :: starEach es X.env := by rfl) (hpl : (backTo pos (starEach es X.env)).any (·.1) = false := by rfl) :
    EXr X E (.Call (.Name x p) (e :: es) [] pos) ds C := by
  obtain ⟨f, fd, ps, F, hm, kp, b⟩ := cl.ex
  refine ⟨fun σ H Q f0 q pins s I => (pe_callS (E := WE (wE E)) F (hr.mono hk) hg hm kp b (fun σ => L2N.passAt tk σ) (trA (e :: es)) hdb he hpl).run pins s σ H Q I ?_⟩
  exact ha.go f0 (Ex.refl _) fun vs H1 e1 q1 => ⟨as, C, q1, hR, fun H' e2 => q H' (e1.trans e2)⟩
theorem exr_if {k : Bool} (hc : ET X c ds k) (ha : k = true → EXr X E a ds C) (hb : k = false → EXr X E b ds C) : EXr X E (.IfExp c a b pos) ds C := by
  refine ⟨fun σ H Q f q pins s I => (pe_ifExp (trT c) (trE a) (trE b)).run pins s σ H Q I (hc.go f (Ex.refl _) fun H' e1 => ?_)⟩
  cases k with
  | true => exact iteT ((ha rfl).run σ H' Q (f.mono e1) fun H2 e2 => q H2 (e1.trans e2))
  | false => exact iteF ((hb rfl).run σ H' Q (f.mono e1) fun H2 e2 => q H2 (e1.trans e2))
theorem exr_ifT (hc : ET X c ds true) (ha : EXr X E a ds C) : EXr X E (.IfExp c a b pos) ds C := exr_if hc (fun _ => ha) fun h => nomatch h
theorem exr_ifF (hc : ET X c ds false) (hb : EXr X E b ds C) : EXr X E (.IfExp c a b pos) ds C := exr_if hc (fun h => nomatch h) fun _ => hb
theorem sxr_raise {x m : Str} {j : Nat} {p p2 p3 : Pos} (tk : L2N.Takes X (wE E)) (F : ErrF X.K X.mg x C) (hc : X.calm = true) (hg : Gl X x) (hdb : (x == ("__debug__" : Str)) = false := by decide) :
    SXr X E (.Raise (some (.Call (.Name x p) [.Constant (.str m) j p2] [] p3)) none pos :: sts) ds C :=
  ⟨fun σ H D f q => tSs_ps (L2N.ps_raise hc tk (L2N.pmk_own PySem.F.excBase_ValueError F.xi F.g F.kp (raises_own F.b F.t) hg hdb)) (q H (Ex.refl H))⟩
theorem sxr_ifT {A : List Stmt} (hc : ET X c ds true) (ha : SXr X E A ds C) : SXr X E (.If c A [] pos :: sts) ds C :=
  ⟨fun σ H D f q => tSs_ps (ps_if (trT c) (trSs A) pss_nil) (hc.go f (Ex.refl _) fun H' e1 => iteT (ha.run σ H' _ (f.mono e1) fun H2 e2 => q H2 (e1.trans e2)))⟩
theorem sxr_ifF {A : List Stmt} (hc : ET X c ds false) (hb : SXr X E sts ds C) : SXr X E (.If c A [] pos :: sts) ds C :=
  ⟨fun σ H D f q => tSs_ifF hc f (Ex.refl _) fun H' e1 => hb.run σ H' D (f.mono e1) fun H2 e2 => q H2 (e1.trans e2)⟩
theorem sxr_cons (h1 : SX X st ds (.nx ds1)) (h2 : SXr X E sts ds1 C) : SXr X E (st :: sts) ds C :=
  ⟨fun σ H D f q => tSs_cons h1 f fun σ' H' e1 f1 => h2.run σ' H' D f1 fun H2 e2 => q H2 (e1.trans e2)⟩
theorem sxr_expr (h : EXr X E e ds C) (hs : swapsWith e none pos.line X.env = pure false := by rfl) : SXr X E (.Expr e pos :: sts) ds C :=
  ⟨fun σ H D f q => tSs_ps (ps_expr (trE e) hs) (h.run σ H _ f q)⟩
theorem sxr_ret (h : EXr X E e ds C) : SXr X E (.Return (some e) pos :: sts) ds C :=
  ⟨fun σ H D f q => tSs_ps (ps_ret (trE e)) (h.run σ H _ f q)⟩
end
theorem calX_of {P : Program} {w : World} {K : KF} {mg : Str → Option Value} {base : Heap} {x : Str} {st : Stmt} {N ps : List Str} {k : Nat} {R : List D → Addr → Prop} (F : Def K mg x st ps) (S : FnScope N ps (defScope st)) (len : ∀ ds C, R ds C → ds.length = ps.length)
    (hb : ∀ (f : Addr) (cdv : Value) (A : Around) (outer : List Env) (s : Shared) (H : Hp) (E : XK) (ds : List D) (C : Addr), Room k (A.deeper (envOfC x (defScope st) s.heap.objs.size f cdv)) → R ds C →
      L2N.Takes (cxOf (L2N.CX P w) P w K mg base N x (defScope st) f cdv A outer s H E) (wE E) → SXr (cxOf (L2N.CX P w) P w K mg base N x (defScope st) f cdv A outer s H E) E (defBody st) (startD N ds) C) : CalX P w K mg base (k + 1) x R := by
  obtain ⟨f, fd, F1, hm, b⟩ := F.ex
  have kp := F1.kp
  obtain ⟨oc, od, kV, doc, pm, an, cdv, ct, osl, rfl, lk, hcd⟩ := F1.ex
  refine ⟨f, _, ps, fn_of lk hcd S (fun vs H Q E ⟨ds, C, h1, h2, _⟩ => (rpa_len h1).trans (len ds C h2)) fun A outer s H vs Q E hr h => ?_, hm, kp, b⟩
  obtain ⟨ds, C, h1, h2, q⟩ := h
  exact ⟨_, trSs _, (hb f cdv A outer s H E ds C hr h2 (L2N.takes_of rfl rfl rfl rfl)).run _ _ _ (fr_start _ h1) q⟩
theorem CalX.imp {P : Program} {w : World} {K : KF} {mg : Str → Option Value} {base : Heap} {k : Nat} {x : Str} {R R' : List D → Addr → Prop} (c : CalX P w K mg base k x R) (h : ∀ ds d, R' ds d → R ds d) : CalX P w K mg base k x R' := by
  obtain ⟨f, fd, ps, F, h1, h2, h3⟩ := c.ex
  refine ⟨f, fd, ps, F.imp fun vs H Q E z => ?_, h1, h2, h3⟩
  obtain ⟨ds, d, a, b, q⟩ := z
  exact ⟨ds, d, a, h ds d b, q⟩
/-! ### a suite: the caught error in hand -/
theorem takesF {X : Cx} : L2N.Takes X (fun _ _ _ _ => False) := fun _ _ x => by
  obtain ⟨_, _, _, _, _, _, _, _, _, _, _, _, _, _, _, _, z⟩ := x
  exact z.elim
/-- the caught error p, of the class at C, stands by in X -/
structure Hold (X : Cx) (p : Addr × Obj) (C : Addr) : Prop where
  mem : p ∈ X.pn
  hot : L2H.Hot1 X.A p
  z : L2N.Zn (.ref C) none p.2
theorem hold_suite {X : Cx} {a C : Addr} {oe : Obj} {pn : List (Addr × Obj)} (hz : L2N.Zn (.ref C) none oe) (hf : ∃ vs, oe.data = .fields vs) : Hold (X.suite a ((a, oe) :: pn)) (a, oe) C := by
  obtain ⟨vs, e⟩ := hf
  exact ⟨List.mem_cons_self, ⟨rfl, vs, e, hz.2.2 vs e⟩, hz⟩
theorem Hold.hotc {X : Cx} {p : Addr × Obj} {C : Addr} (h : Hold X p C) : L2H.HotC X := ⟨p, h.hot, h.mem⟩
theorem call_isH {X : Cx} {p : Addr × Obj} {C : Addr} (F : ExcC X.K C) (hh : Hold X p C) : CallR X (.builtin "isinstance") (rIsE X.K C p.1) := fun pins s σ H xs us Q I r h => by
  obtain ⟨t, tv, k, rfl, htv, ek, q⟩ := h
  obtain ⟨ux, ut, rfl, rx, rt⟩ : ∃ ux ut, us = [ux, ut] ∧ RelV (.ref p.1) ux ∧ RelV t ut := by
    cases r with
    | cons r1 r2 => cases r2 with
      | cons r3 r4 => cases r4; exact ⟨_, _, rfl, r1, r3⟩
  have e2 := htv _ rt
  subst e2
  cases rx
  obtain ⟨⟨hh1, vs, hvs, _⟩, hz⟩ := And.intro hh.hot hh.z
  have hget := (I.pin p (List.mem_append_left _ hh.mem)).1
  have J : PySem.W.InstAt s.heap p.1 p.2 C none := by
    obtain ⟨pa, oc, od, oda, osl⟩ := p
    obtain ⟨h1, h2, _⟩ := hz
    dsimp only at h1 h2 hvs hget ⊢
    subst h1 h2 hvs
    exact ⟨hget, rfl, rfl, trivial⟩
  exact PySem.W.kia_one (PySem.W.handS_kitx_exc F.hg F.hk F.hs F.hd F.ha F.hn F.ht F.hm) I.kIn J ek (fun z => nomatch z) fun tk => ⟨.bl k, H, I.kept (t' := tk) fun _ _ z => z, rfl, q⟩
section
variable {X : Cx} {p : Addr × Obj} {C : Addr} {ds : DF} {a : Expr} {pos : Pos}
theorem ex_isE {C' : Addr} {x : Str} {k : Bool} {p1 p2 : Pos} (F : ExcC X.K C) (hh : Hold X p C) (hg : Gl X "isinstance") (hm : X.mg "isinstance" = none) (hg2 : Gl X x) (hm2 : X.mg x = some (.ref C')) (hk : PySem.W.kitOne X.K (.ref C) (.ref C') = some k) (ha : EX X a ds (rawD p.1))
    (hdb : (x == ("__debug__" : Str)) = false := by decide)
    (h1 : starEach [a, .Name x p2] X.env = (false, eval a X.env) :: starEach [.Name x p2] X.env := by rfl) (h2 : starEach [.Name x p2] X.env = (false, eval (.Name x p2) X.env) :: starEach [] X.env := by rfl) (hpl : (backTo pos (starEach [.Name x p2] X.env)).any (·.1) = false := by rfl) :
    EX X (.Call (.Name "isinstance" p1) [a, .Name x p2] [] pos) ds (.bool k) :=
  ex_pe (pe_callB (call_isH F hh) hg hm PyProof.Rows.boot_isinstance (pa_cons (trE a) (pa_cons (pe_glob (v := .ref C') hg2 hm2 rfl hdb) pa_nil h2) h1) (he := h1) (hpl := hpl)) fun _ _ f => ha.go f (Ex.refl _) fun v _ e1 q1 => by
    cases rp_raw q1
    exact ⟨.ref C', .ref C', k, rfl, fun u h => h, hk, e1, .bl _⟩
theorem ex_isEB {T : String} {x : Str} {k : Bool} {p1 p2 : Pos} (F : ExcC X.K C) (hh : Hold X p C) (hv : bootBuiltins x = some (.type T)) (hg : Gl X "isinstance") (hm : X.mg "isinstance" = none) (hg2 : Gl X x) (hm2 : X.mg x = none) (hk : PySem.W.kitOne X.K (.ref C) (.type T) = some k) (ha : EX X a ds (rawD p.1))
    (hn : x ≠ "__name__" := by decide) (hdb : (x == ("__debug__" : Str)) = false := by decide)
    (h1 : starEach [a, .Name x p2] X.env = (false, eval a X.env) :: starEach [.Name x p2] X.env := by rfl) (h2 : starEach [.Name x p2] X.env = (false, eval (.Name x p2) X.env) :: starEach [] X.env := by rfl) (hpl : (backTo pos (starEach [.Name x p2] X.env)).any (·.1) = false := by rfl) :
    EX X (.Call (.Name "isinstance" p1) [a, .Name x p2] [] pos) ds (.bool k) :=
  ex_pe (pe_callB (call_isH F hh) hg hm PyProof.Rows.boot_isinstance (pa_cons (trE a) (pa_cons (pe_bltn (v := .ty T) hg2 hm2 hv rfl hn hdb) pa_nil h2) h1) (he := h1) (hpl := hpl)) fun _ _ f => ha.go f (Ex.refl _) fun v _ e1 q1 => by
    cases rp_raw q1
    exact ⟨.ty T, .type T, k, rfl, fun u h => h, hk, e1, .bl _⟩
/-- a def as a value -/
theorem ex_fnv {f : Addr} {x : Str} (hg : Gl X x) (hm : X.mg x = some (.ref f)) (hdb : (x == ("__debug__" : Str)) = false := by decide) : EX X (.Name x pos) ds (rawD f) :=
  ex_pe (pe_glob (v := .ref f) hg hm rfl hdb) fun _ H _ => ⟨Ex.refl H, .raw f⟩
end
/-! ### any(list of truths) while an error is handled -/
theorem list_end_hot {prog : Program} {w : World} {A : Around} {E : Value → Shared → Prop} {s : Shared} {it l x1 : Addr} {i : Nat} {items : Array Value} {Q : Option Value → Shared → Prop} (hot : HotX.HotAt A x1 s.heap)
    (hit : s.heap.IsListIter it l i) (hl : s.heap.IsList l items) (hx : items[i]? = none) (nx : x1 ≠ it)
    (hQ : ∀ h', Heap.ExtBut it s.heap h' → Q none { s with heap := h' }) : wpAny (model prog w) A (pyNext (.ref it)) Q E s := by
  obtain ⟨hh, o1, vs1, g1, d1, c1⟩ := hot
  have ⟨oi, hoi, _, hdi⟩ := hit
  have ⟨ol, hol, _, nl, hdl⟩ := hl
  unfold pyNext
  refine wpAny_bind (wpAny_attempt (wpAny_callSpecial?_slot (name := Str.ofString "__next__") hit.typeIs slot_listiter_next (wpAny_call_entry slot_listiter_next hit.typeIs entry_listiter_next ?_ (args_listiter_next _))))
  show wpAny _ _ (field (.ref it) 0 >>= _) _ _ s
  refine wpAny_bind (wpAny_field hoi hdi (x := Value.ref l) rfl ?_)
  show wpAny _ _ (if (Value.ref l == Value.none) = true then _ else _) _ _ s
  rw [if_neg (show ¬ ((Value.ref l == Value.none) = true) by simp)]
  show wpAny _ _ (field (.ref it) 1 >>= _) _ _ s
  refine wpAny_bind (wpAny_field hoi hdi (x := Value.int i 0) rfl ?_)
  show wpAny _ _ (seqItems? (.ref l) >>= _) _ _ s
  refine wpAny_bind (wpAny_seqItems hol hdl ?_)
  simp only [Int.toNat_natCast, hx]
  refine wpAny_bind (wpAny_rule (wpAny_bind (wpAny_setField hoi hdi (by simp) ?_)))
  show wpAny _ _ (newExc (.type "StopIteration") [] >>= _) _ _ _
  refine wpAny_bind ?_
  simp only [newExc, newTuple]
  refine wpAny_bind (wpAny_newObj_type ?_ (by size_fits))
  refine wpAny_bind (m := firstArgMember _ _) (wpAny_of_eq (a := Value.none) (by first | rfl | (simp only [firstArgMember]; rfl)) ?_)
  refine wpAny_newObj_type ?_ (by size_fits)
  have g2 := (Heap.get?_update_other s.heap (Obj.mapFields (·.setIfInBounds 0 Value.none)) (Ne.symm nx)).trans g1
  refine HotX.raiseNew_hot ⟨hh, o1, vs1, Heap.get?_push_of_some _ (Heap.get?_push_of_some _ g2), d1, c1⟩ (Nat.ne_of_lt (Heap.lt_size (Heap.get?_push_of_some _ g2))) (Heap.get?_push_size _ rfl) rfl (by first | (simp; done) | (simp; omega) | (simp only [Array.size_append]; simp; omega)) ?_
  refine wpAny_bind (wpAny_isInstance (T := "StopIteration") (b := true) ⟨_, Heap.get?_update_self _ (Heap.get?_push_size _ rfl) rfl, rfl⟩ isSubtype_stop ?_)
  refine wpAny_pure (hQ _ fun b o hb e => ?_)
  have e2 := (Heap.get?_update_other s.heap (Obj.mapFields (·.setIfInBounds 0 Value.none)) (Ne.symm hb)).trans e
  rw [Heap.get?_update_other _ _ (Nat.ne_of_gt (Heap.lt_size (Heap.get?_push_of_some _ e2)))]
  exact Heap.get?_push_of_some _ (Heap.get?_push_of_some _ e2)
theorem walks_hot {prog : Program} {w : World} {A : Around} {I ax x1 : Addr} {o1 : Obj} {vs1 : Array Value} (hh : A.handled = some (.ref x1)) (d1 : o1.data = .fields vs1) (c1 : vs1[2]? = some .none) (ne : ax ≠ I) (nx : x1 ≠ I) (items : Array Value) :
    Walks prog w A I [I, ax, x1] [I] items.size (fun i v => items[i]? = some v) (fun i h => (h.IsListIter I ax i ∧ h.IsList ax items) ∧ h.get? x1 = some o1) where
  sub := fun b hb => by rw [List.mem_singleton.mp hb]; exact List.mem_cons_self
  frame := fun i h h' st k => ⟨⟨st.1.1.at fun o e => k I List.mem_cons_self o e, st.1.2.at fun o e => k ax (List.mem_cons_of_mem _ List.mem_cons_self) o e⟩, k x1 (List.mem_cons_of_mem _ (List.mem_cons_of_mem _ List.mem_cons_self)) _ st.2⟩
  item := fun i s Q E hi st k => wpAny_pyNext_list_item st.1.1 st.1.2 (x := items[i]) (by simp [hi]) fun h' it' sb =>
    k _ h' s.toks (by simp [hi]) ⟨⟨it', st.1.2.extBut sb.extBut ne⟩, (sb.2 x1 nx).trans st.2⟩ fun b o hb e => sb.extBut b o (fun z => hb (by simp [z])) e
  done := fun s Q E st k => list_end_hot ⟨hh, o1, vs1, st.2, d1, c1⟩ st.1.1 st.1.2 (by simp) nx fun h' eb => k h' s.toks fun b o hb e => eb b o (fun z => hb (by simp [z])) e
  self := fun i s Q E st k => wpAny_pyIter_listiter st.1.1 k
theorem any_hot {X : Cx} (hot : L2H.HotC X) : CallR X (.builtin "any") (rAny X.K) := fun pins s σ H vs us Q I r h => by
  obtain ⟨p, ⟨hh, vs1, d1, c1⟩, hp⟩ := hot
  obtain ⟨a, bs, rfl, hs, q⟩ := h
  obtain ⟨its, rv, hl, _⟩ := I.list hs
  have hget := (I.pin p (List.mem_append_left _ hp)).1
  have hb := rv.bls
  rw [Vals.ref1 r]
  refine call_any_walk (iter_any hl.isList fun s₂ e2 st hne => ?_)
  subst e2
  have nx : p.1 ≠ s.heap.objs.size := Nat.ne_of_lt (Heap.lt_size hget)
  refine ⟨_, _, _, _, _, _, _, rfl, walks_hot (A := X.A.in1) (o1 := p.2) hh d1 c1 hne nx its.toArray, ⟨st, Heap.get?_push_of_some _ hget⟩, truth_bools hb, fun h' tk hk => ⟨.bl _, H, I.kept fun b o eo => hk b o (fun hm => ?_) (Heap.get?_push_of_some _ eo), ?_, q⟩⟩
  · rw [List.mem_singleton.mp hm] at eo
    exact absurd (Heap.lt_size eo) (Nat.lt_irrefl _)
  · show Value.bool _ = Value.bool _
    rw [← L2.any_range, hb, List.size_toArray, List.length_map]
theorem ex_anyH {X : Cx} {a : Expr} {ds : DF} {pos : Pos} {bs : List Bool} {p : Pos} (hc : L2H.HotC X) (hg : Gl X "any") (hm : X.mg "any" = none) (ha : EX X a ds (.list (bs.map PyData.bool))) (he : starEach [a] X.env = (false, eval a X.env) :: starEach [] X.env := by rfl) (hpl : (backTo pos (starEach [] X.env)).any (·.1) = false := by rfl) : EX X (.Call (.Name "any" p) [a] [] pos) ds (.bool (bs.any id)) :=
  ex_B (any_hot hc) PyProof.Rows.boot_any hg hm (fun H vs Q h k => by
    obtain ⟨v, rfl, q⟩ := rpa_one h
    obtain ⟨p, ys, rfl, hp, qa⟩ := rp_lst q
    exact ⟨p, bs, rfl, .of (by rw [← rpa_blsV qa]; exact hp), k _ H (Ex.refl H) (.bl _)⟩) (ea_cons ha ea_nil he) (he := he) (hpl := hpl)
/-! ### a def called with the caught error in hand -/
structure FnP (P : Program) (w : World) (K : KF) (mg : Str → Option Value) (base : Heap) (k : Nat) (p : Addr × Obj) (f : Addr) (fd : FuncData) (ps : List Str) (sp : Sp) : Prop where
  len : ∀ vs H Q E, sp vs H Q E → vs.length = ps.length
  run : ∀ (A : Around) (outer : List Env) (s : Shared) (H : Hp) (args : Args) (us : List Value) (vs : List V) (Q : VK) (E : XK), L2H.RoomH k A → L2H.Hot1 A p → L2H.PinOk outer H s p → Env0 P w K mg base A outer s H → BindsTo s fd args (ps.zip us) → Vals vs us → sp vs H Q E →
    codeAny (model P w) A (.call (.ref f) args) (CR CX0 outer P w H s Q E) s
theorem fnP_of {P : Program} {w : World} {K : KF} {mg : Str → Option Value} {base : Heap} {p : Addr × Obj} {x : Str} {st : Stmt} {f : Addr} {fd : FuncData} {N ps : List Str} {k : Nat} {sp : Sp} (F : L2.Fun K x x st f fd) (S : FnScope N ps (defScope st)) (len : ∀ vs H Q E, sp vs H Q E → vs.length = ps.length)
    (hb : ∀ (cdv : Value) (A : Around) (outer : List Env) (s : Shared) (H : Hp) (vs : List V) (Q : VK) (E : XK), L2H.Hot1 A p → L2H.RoomH k (A.deeper (envOfC x (defScope st) s.heap.objs.size f cdv)) → sp vs H Q E →
      tSs (L2H.cxH CX0 P w K mg base N x (defScope st) f cdv A outer s H E p) (defBody st) { nx := fun _ H' => Q .non H', rt := Q } (L2.start N vs) H) : FnP P w K mg base (k + 1) p f fd ps sp := by
  obtain ⟨oc, od, kV, doc, pm, an, cdv, ct, osl, rfl, lk, hcd⟩ := F.ex
  refine ⟨len, fun A outer s H args us vs Q E hr hot pin e0 bt r z => ?_⟩
  have lv := len _ _ _ _ z
  have kin : K.In s.heap := e0.mod.kin.keeps fun b o e => (e0.bs b o e).1
  refine codeAny_call_function hr.depth (kin _ _ lk) rfl S.co S.gen rfl (PySem.W.codeRec_of kin hcd) (bt _ _ _ _ (wpAny_newFunctionEnv_cells S.kind (fun y hy => ?_) fun env he s1 ic => ?_))
  · rcases S.par y.1 (List.of_mem_zip (show (y.1, y.2) ∈ ps.zip us from hy)).1 with q | q
    · exact .inl q
    · exact .inr ⟨q, PySem.W.cellsFrom_some _ _ _ (.inl q)⟩
  subst he
  refine ⟨(e0.mod.nolimit.keeps fun b o e => (e0.bs b o e).1).keeps ic.toInCall.keep, codeAny_func ?_⟩
  have I := L2H.inv_startH (CX := CX0) (cd := cdv) (f := f) (E := E) S pin e0 lv r ic
  refine wpAny_mono (hb cdv A outer s H vs Q E hot (hr.deeper _) z [] s1 I) (fun fl s' hs => ?_) fun _ _ h => h
  cases fl with
  | next =>
    obtain ⟨σ', H', J, q⟩ := hs
    exact ⟨V.non, H', J.os, J.bare, J.base, J.hok, rfl, q⟩
  | ret u =>
    obtain ⟨v, σ', H', J, rv, q⟩ := hs
    exact ⟨v, H', J.os, J.bare, J.base, J.hok, rv, q⟩
  | brk => exact (hs.choose_spec.choose_spec.2 : False).elim
  | cont => exact (hs.choose_spec.choose_spec.2 : False).elim
section
variable {X : Cx} {k : Nat} {f : Addr} {fd : FuncData} {ps : List Str} {sp : Sp} {x : Str} {q pos : Pos} {e : Expr} {es : List Expr} {t : TA}
theorem pe_callP {p : Addr × Obj} (F : FnP X.prog X.w X.K X.mg X.base k p f fd ps sp) (hr : L2H.RoomH k X.A) (hot : L2H.Hot1 X.A p) (hp : p ∈ X.pn) (hg : Gl X x) (hm : X.mg x = some (.ref f)) (hk : PySem.W.keepIn X.K (.ref f) = true) (hb : Binds X.K fd ps [])
    (ha : PA X (e :: es) t) (hdb : (x == ("__debug__" : Str)) = false := by decide) (he : starEach (e :: es) X.env = (false, eval e X.env) :: starEach es X.env := by rfl) (hpl : (backTo pos (starEach es X.env)).any (·.1) = false := by rfl) :
    PE X (.Call (.Name x q) (e :: es) [] pos) (tCallS sp (fun _ _ _ _ => False) t) :=
  ⟨fun pins s σ H Q I h => wpAny_Call_Name_kw (ld_glob I hg hm (PySem.W.callWith_K (h₀ := X.base) I.ok.mod.kin hk (thn (ha.run pos pins s σ H _ I h) fun us s1 ⟨vs, H1, I1, r, z⟩ => ⟨I1.kIn, by
    have hl : us.length = ps.length := r.length.symm.trans (F.len _ _ _ _ z)
    have b := hb s1 us I1.kIn (by rw [List.append_nil]; exact hl)
    rw [List.append_nil] at b
    have P1 := I1.pin p (List.mem_append_left _ hp)
    refine wpAny_call (codeAny_mono (F.run X.A X.stack s1 H1 ⟨us, []⟩ us vs Q _ hr hot ⟨P1.1, P1.2.1, fun m => (List.mem_cons.mp (I1.stkSub p.1 m)).elim P1.2.2.1 P1.2.2.2.1, P1.2.2.2.2⟩ I1.env0 b r z) fun res s' hq => ?_)
    cases res with
    | error e => exact (show False from hq).elim
    | ok fl =>
      cases fl with
      | ret u => exact I1.after hq
      | next => exact (show False from hq).elim
      | brk => exact (show False from hq).elim
      | cont => exact (show False from hq).elim⟩) he hpl) hdb)⟩
/-- a local name that holds a def, which may raise -/
def tCallLS (i : Nat) (f : Addr) (sp : Sp) (E : L2.St → XK) (t : TA) : TE := fun σ H Q => σ[i]? = some (some (.ref f)) ∧ t σ H fun vs H1 => sp vs H1 Q (E σ)
theorem pe_callLS {CX : CXT} {i : Nat} {E : L2.St → XK} (F : FnOk X.prog X.w X.K X.mg X.base CX k f fd ps sp) (hr : Room k X.A) (hN : X.N[i]? = some x) (hv : Vis X.env.scope x) (hk : PySem.W.keepIn X.K (.ref f) = true) (hb : Binds X.K fd ps []) (hx : ∀ σ, PassesAt CX X σ (E σ)) (ha : PA X (e :: es) t)
    (hdb : (x == ("__debug__" : Str)) = false := by decide) (hcd : (x == ("__classdict__" : Str)) = false := by decide)
    (he : starEach (e :: es) X.env = (false, eval e X.env) :: starEach es X.env := by rfl) (hpl : (backTo pos (starEach es X.env)).any (·.1) = false := by rfl) : PE X (.Call (.Name x q) (e :: es) [] pos) (tCallLS i f sp E t) :=
  ⟨fun pins s σ H Q I ⟨hs, ht⟩ => wpAny_Call_Name_kw (thn ((pe_var (pos := q) hN hv hdb hcd).run pins s σ H (fun v H1 => v = .ref f ∧ H1 = H) I ⟨.ref f, hs, rfl, rfl⟩) fun u s1 ⟨v, H1, I1, r1, z1, z2⟩ => by
    subst z1 z2
    cases r1
    exact PySem.W.callWith_K (h₀ := X.base) I.ok.mod.kin hk (thn (ha.run pos pins s1 σ _ _ I1 ht) fun us s2 ⟨vs, H2, I2, r, z⟩ => ⟨I2.kIn, run_fnS F hr hb (hx σ) I2 r z⟩) he hpl)⟩
end
/-! ### len(set(pairs)) -/
section
variable {X : Cx}
theorem call_lenT : CallR X (.builtin "len") (fun vs H Q => ∃ a L, vs = [V.ref a] ∧ H a = some (SetTO X.prog X.w a L) ∧ ((L.map (·.2)).Nodup → Q (.int (L.length : Nat)) H)) := fun pins s σ H vs us Q I r h => by
  obtain ⟨a, L, rfl, ha, q⟩ := h
  rw [Vals.ref1 r]
  obtain ⟨⟨es, ep, t, ⟨o, ho, hex, hd⟩, rows, tab, nd, pl, led, room, few⟩, _⟩ := I.hok a _ ha
  have hn : es.size = L.length := by
    have z := congrArg List.length rows
    unfold rowsOf at z
    rw [Array.length_toList, List.length_map] at z
    exact z
  have hf : t.fits es.size = true := by
    have h1 := tab.sz
    rw [List.length_map] at h1
    unfold SetTable.fits SetTable.fill
    rw [tab.dm, Bool.and_eq_true, beq_iff_eq, decide_eq_true_eq]
    show t.place.size = es.size ∧ t.place.size + 0 ≤ t.mask
    omega
  exact call_len_set ho hex hd hf (by omega) ⟨.int (L.length : Nat), H, I.tok _, ⟨_, by rw [hn]⟩, q nd⟩
theorem refs_pairs {H : Hp} : ∀ {ps : List P2} {vs : List V}, RpA H vs (ps.map dP) → ∃ ks : List (Addr × List Int), vs = ks.map (fun p => V.ref p.1) ∧ ks.map (·.2) = ps.map (fun p => [p.1, p.2]) ∧ ∀ p ∈ ks, H p.1 = some (.tup (p.2.map V.int))
  | [], _, .nil => ⟨[], rfl, rfl, fun _ h => nomatch h⟩
  | q :: ps, _, .cons h a => by
    obtain ⟨ks, rfl, e2, e3⟩ := refs_pairs a
    obtain ⟨b, us, rfl, hb, qa⟩ := rp_tup h
    have e4 := rpa_intsV (ns := [q.1, q.2]) qa
    subst e4
    refine ⟨(b, [q.1, q.2]) :: ks, rfl, by rw [List.map_cons, List.map_cons, e2], fun p hp => ?_⟩
    rcases List.mem_cons.mp hp with rfl | hp
    · exact hb
    · exact e3 p hp
theorem ex_lenSetP {ds : DF} {a : Expr} {pos : Pos} {ps : List P2} {p p2 q : Pos} {k : Nat} (hr : Room k X.A) (hc : X.calm = true) (hg : Gl X "len") (hm : X.mg "len" = none) (hg2 : Gl X "set") (hm2 : X.mg "set" = none) (nd : ps.Nodup) (hl : ps.length < 64) (ha : EX X a ds (.list (ps.map dP)))
    (h1 : starEach [a] X.env = (false, eval a X.env) :: starEach [] X.env := by rfl) (h2 : starEach [.Call (.Name "set" p2) [a] [] q] X.env = (false, eval (.Call (.Name "set" p2) [a] [] q) X.env) :: starEach [] X.env := by rfl) (hpl : (backTo q (starEach [] X.env)).any (·.1) = false := by rfl) (hpl2 : (backTo pos (starEach [] X.env)).any (·.1) = false := by rfl) :
    EX X (.Call (.Name "len" p) [.Call (.Name "set" p2) [a] [] q] [] pos) ds (.int (ps.length : Nat)) :=
  ex_pe (pe_callB call_lenT hg hm PySem.boot_len (pa_cons (pe_callTy (cr_setOfT hc (hu64 hr)) hg2 hm2 PyProof.Rows.boot_set (pa_cons (trE a) pa_nil h1) (he := h1) (hpl := hpl)) pa_nil h2) (he := h2) (hpl := hpl2)) fun σ H f => by
    change tE _ _ _ _ _
    refine ha.go f (Ex.refl _) fun v H1 e1 q1 => ?_
    obtain ⟨l, vs, rfl, hl1, qa⟩ := rp_lst q1
    obtain ⟨ks, rfl, e2, e3⟩ := refs_pairs qa
    have hkl : ks.length = ps.length := by have := congrArg List.length e2; simpa using this
    have ndk : (ks.map (·.2)).Nodup := by
      rw [e2]
      exact List.Pairwise.map _ (fun x y hne e => hne (by
        have e' := List.cons.inj e
        have e'' := (List.cons.inj e'.2).1
        exact Prod.ext e'.1 e'')) nd
    refine ⟨l, ks, rfl, .of hl1, fun p hp => .of (e3 p hp), by omega, fun b L nb hs ha2 => ⟨b, L, rfl, upd_same, fun ndL => ⟨e1.trans (Ex.new nb), ?_⟩⟩⟩
    have pm : (L.map (·.2)).Perm (ks.map (·.2)) := (List.perm_ext_iff_of_nodup ndL ndk).mpr fun x => ⟨fun hx => by
      obtain ⟨z, hz, rfl⟩ := List.mem_map.mp hx
      exact List.mem_map_of_mem (hs z hz), fun hx => by
      obtain ⟨z, hz, rfl⟩ := List.mem_map.mp hx
      exact ha2 z hz⟩
    have : L.length = ps.length := by have := pm.length_eq; rw [List.length_map, List.length_map] at this; omega
    rw [this]
    exact .int _
end
/-! ### list(range(n)), a comprehension over range(n) -/
section
variable {X : Cx} {ds ds1 : DF} {a b c e : Expr} {pos : Pos} {st : Stmt} {sts : List Stmt} {o : Out}
theorem ex_listRg {n : Nat} {p p1 p2 : Pos} (hc : X.calm = true) (hg : Gl X "list") (hm : X.mg "list" = none) (hg2 : Gl X "range") (hm2 : X.mg "range" = none) (hn : n ≤ 16777216) (ha : EX X a ds (.int (n : Nat))) (h1 : starEach [a] X.env = (false, eval a X.env) :: starEach [] X.env := by rfl)
    (h2 : starEach [.Call (.Name "range" p1) [a] [] p2] X.env = (false, eval (.Call (.Name "range" p1) [a] [] p2) X.env) :: starEach [] X.env := by rfl) :
    EX X (.Call (.Name "list" p) [.Call (.Name "range" p1) [a] [] p2] [] pos) ds (.list ((List.range n).map fun i => PyData.int (i : Nat))) :=
  ex_pe (pe_listRg hc hg hm (prg_1 hg2 hm2 (trE a) h1) h2) fun σ H f => by
    change tE _ _ _ _ _
    refine ha.go f (Ex.refl _) fun v H1 e1 q1 => ?_
    refine ⟨(n : Int), rp_int q1, .of_le (by omega) (by omega) (by omega) (by omega), fun l hl => ⟨e1.trans (Ex.new hl), .lst upd_same ?_⟩⟩
    have e : rgV 0 (n : Int) = ((List.range n).map fun i : Nat => (i : Int)).map V.int := by
      unfold rgV
      rw [List.map_map, show ((n : Int) - 0).toNat = n by omega]
      exact List.map_congr_left fun i _ => by simp
    have e2 : ((List.range n).map fun i => PyData.int (i : Nat)) = ((List.range n).map fun i : Nat => (i : Int)).map PyData.int := by rw [List.map_map]; rfl
    rw [e, e2]
    exact rpa_ints _
theorem lcR_go {ta : TA} {te : TE} {σ : L2.St} {H0 H : Hp} {n j : Nat} (fx : Nat → D) (f : Fr H0 σ ds) (e0 : Ex H0 H) (hz : n < sizeLine) (hz2 : n < 2 ^ 62)
    (hl : ∀ Q : List V → Hp → Prop, (∀ H', Ex H H' → Q [.int (n : Nat)] H') → ta σ H Q)
    (he : ∀ i, i < n → ∀ σ' H', Fr H' σ' ((wipeD ds [j]).set j (some (.int (i : Nat)))) → ∀ Q : VK, (∀ v H2, Ex H' H2 → Rp H2 v (fx i) → Q v H2) → te σ' H' Q)
    (hn : ∀ i, noL (fx i) = true)
    {Q : VK} (q : ∀ L us H', Ex H H' → H L = none → H' L = some (.lst us) → RpA H' us ((List.range n).map fx) → Q (.ref L) H') : tLc (iRng1 ta) (gName j) tYes te [j] σ H Q := by
  refine hl _ fun H1 e1 => ?_
  refine ⟨(n : Int), rfl, by omega, by omega, fun L hL => ?_⟩
  have nn : ∀ i, noLs ((List.range i).map fx) = true := fun i => noLs_of fun d hd => by
    obtain ⟨z, hz, rfl⟩ := List.mem_map.mp hd
    exact hn z
  show ∃ W : Nat → Nat → Hp → Prop, _
  refine lc_range (lo := 0) (n := n) (fun i H' => Ex H1 H' ∧ ∃ ys, H' L = some (.lst ys) ∧ RpA H' ys ((List.range i).map fx)) ⟨Ex.new hL, [], upd_same, .nil⟩ (fun i H' hi p => ?_) (fun H' p => ?_)
  · obtain ⟨e2, ys, hL', r⟩ := p
    refine ⟨wipe_set1, ?_⟩
    dsimp only [tYes]
    rw [if_pos rfl]
    have f' : Fr H' ((wipe σ [j]).set j (some (.int (0 + (i : Nat))))) ((wipeD ds [j]).set j (some (.int (i : Nat)))) := by
      rw [Int.zero_add]
      exact (fr_wipe (f.mono ((e0.trans e1).trans e2)) [j]).set j (.int _)
    refine he i hi _ H' f' _ fun y H4 e4 hy => ⟨ys, e4 _ _ hL', ?_, ?_⟩
    · have h1 := rpa_len r
      rw [List.length_map, List.length_range] at h1
      omega
    · have m := lc_more hL (e2.trans e4) (e4 _ _ hL') (rpa_mono e4 r) hy (nn i) (hn i)
      rw [List.range_succ, List.map_append]
      exact m
  · obtain ⟨e2, ys, hL', r⟩ := p
    exact q _ _ _ (e1.trans e2) (fresh_back e1 hL) hL' r
theorem SXs.ofLe {ds2 : DF} (h : SXs X sts ds (.nx ds1)) (l : Le ds2 ds1) : SXs X sts ds (.nx ds2) := ⟨fun σ H f => tSs_mono (h.run σ H f) ⟨fun _ _ ⟨e, g⟩ => ⟨e, g.le l⟩, fun _ _ h => h, fun _ _ h => h, fun _ _ h => h⟩⟩
/-- for x in a tuple -/
theorem sxs_forT {α : Type} {body : List Stmt} {xs : List D} {x : Str} {p' : Pos} (n : Nat) (F : α → DF) (P : Nat → α → Prop) (a0 : α) (h0 : P 0 a0) (l0 : Le (F a0) ds) (hp : PassesOwn (model X.prog X.w) X.A X.env X.xe) (hc : X.calm = true) (hN : X.N.Nodup) (hi : X.N[n]? = some x) (hx : Loc X.env.scope x)
    (he : EX X e ds (.tuple xs)) (hB : ∀ i a d, xs[i]? = some d → P i a → (∃ a' ds', P (i + 1) a' ∧ SXs X body ((F a).set n (some d)) (.nx ds') ∧ Le (F a') ds'))
    (hC : ∀ a, P xs.length a → SXs X sts (F a) o) (hf : X.fn x = true ∨ X.env.scope.names.lookup x = some .local := by first | exact .inl rfl | exact .inr rfl | assumption)
    (hs : ∀ y, foldedSetIterable e X.env y = pure y := by intro _; rfl) : SXs X (.For (.Name x p') e body [] pos :: sts) ds o :=
  sxs_ps (ps_for hp hc (pi_tup (trE e)) (pg_name (i := n) hN hi hx hf) (trSs body) hs) fun σ H f => he.go f (Ex.refl H) fun v H1 e1 q1 => by
    obtain ⟨a, vs, rfl, ha, qa⟩ := rp_tup q1
    refine ⟨a, rfl, ⟨vs, .of ha⟩, for_tup (K := X.K) (a := a) (xs := vs) (fun i σ' H' => ∃ z, P i z ∧ Ex H1 H' ∧ Fr H' σ' (F z)) ⟨a0, h0, Ex.refl H1, (f.mono e1).le l0⟩ (fun i σ' H' _ ⟨_, _, e2, _⟩ => .of (e2 _ _ ha)) (fun i y σ' H' hi ⟨z, pz, e2, f2⟩ => ?_) (fun σ' H' ⟨z, pz, e2, f2⟩ => ?_)⟩
    · obtain ⟨d, hd, hy⟩ := rpa_getV qa hi
      obtain ⟨z', ds', p', hb, l'⟩ := hB i z d hd pz
      exact tSs_mono (hb.run _ H' (f2.set n (rp_mono e2 hy))) ⟨fun _ _ ⟨e3, f3⟩ => ⟨z', p', e2.trans e3, f3.le l'⟩, fun _ _ h => h.elim, fun _ _ h => h.elim, fun _ _ h => h.elim⟩
    · rw [rpa_len qa] at pz
      exact (hC z pz).go f2 (e1.trans e2)
/-- {} -/
theorem ex_dct : EX X (.Dict [] [] pos) ds (.dict []) := ex_pe pe_dnewK fun _ _ _ d hd => ⟨Ex.new hd, .dct upd_same⟩
end
end G

set_option Elab.async false
set_option linter.all false
set_option maxRecDepth 100000
set_option maxHeartbeats 4000000
namespace G
open PySem PySem.Spec PyProof.Rows L2 Evl M
local macro_rules | `(tactic| walk_at "od") => `(tactic| first | exact .inl ⟨_, _, rfl⟩ | exact .inr rfl)
local macro_rules | `(tactic| walk_at "fc") => `(tactic| first | with_reducible assumption | assumption | rfl | decide | omega | (refine ⟨?_, ?_⟩ <;> walk_at "fc"))
local macro_rules | `(tactic| walk_at "ob") => `(tactic| first | exact .inl ⟨_, _, rfl, by decide +kernel⟩ | exact .inr rfl)
local macro_rules | `(tactic| walk_at "nl") => `(tactic| first | with_reducible assumption | exact noLs_ints _ | exact noLs_dPs _ | exact noL_dP _ | assumption)
local macro_rules | `(tactic| walk_at "sd") => `(tactic| first | with_reducible assumption | assumption | rfl | omega | decide | (simp only [List.length_cons, List.length_nil, List.length_append, List.length_map, List.length_reverse]; omega))
local macro_rules | `(tactic| walk_at "rr") => `(tactic| first | (refine ⟨_, rfl, rfl⟩; done) | (refine ⟨⟨_, rfl⟩, rfl⟩; done) | (refine ⟨⟨_, rfl, ?_⟩, rfl⟩; assumption) | (refine ⟨_, _, rfl, rfl⟩; done) | (refine ⟨_, rfl, rfl, ?_⟩; walk_at "fc") | (refine ⟨_, _, rfl, rfl, ?_⟩; walk_at "fc") | (refine ⟨_, _, _, rfl, rfl, ?_⟩; walk_at "fc"))
local macro_rules | `(tactic| walk_at "sh") => `(tactic| first | exact sh_dP _ | exact sh_step _ _ | exact sh_ints _ | exact sh_pairs _ | assumption)
def topS (i : Nat) : Stmt := PySem.Challenge.pw_pairbase_k05_refused.main.body.getD i (.Pass ⟨0, 0, 0, 0⟩)
abbrev s_is_whole : Stmt := topS 10
abbrev s_is_pair : Stmt := topS 11
abbrev s_check_pair : Stmt := topS 12
abbrev s_common : Stmt := topS 13
abbrev s_size_of : Stmt := topS 14
abbrev s_check_base : Stmt := topS 15
abbrev s_product : Stmt := topS 16
abbrev s_times : Stmt := topS 17
abbrev s_size : Stmt := topS 18
abbrev s_weight_of : Stmt := topS 19
abbrev s_next_by : Stmt := topS 20
abbrev s_step : Stmt := topS 21
abbrev s_read_by : Stmt := topS 24
abbrev s_told_by : Stmt := topS 25
abbrev s_lost_by : Stmt := topS 26
abbrev s_Told___init__ : Stmt := inClass (topS 27) 0
abbrev s_Round___init__ : Stmt := inClass (topS 28) 0
abbrev s_Lost___init__ : Stmt := inClass (topS 30) 0
abbrev s_pair_by : Stmt := topS 32
abbrev s_number_of : Stmt := topS 33
abbrev s_is_row : Stmt := topS 35
abbrev s_read : Stmt := topS 36
abbrev s_told : Stmt := topS 37
abbrev s_all_told : Stmt := topS 38
abbrev s__law_cell_at : Stmt := topS 40
abbrev s__law_draw : Stmt := topS 41
abbrev s__law_value : Stmt := topS 42
abbrev s__law_common : Stmt := topS 43
abbrev s__law_base : Stmt := topS 44
abbrev s__law_size : Stmt := topS 45
abbrev s__law_kinds : Stmt := topS 46
abbrev s__law_with_base : Stmt := topS 47
abbrev s__law_with_pair : Stmt := topS 48
abbrev s__law_with_row : Stmt := topS 49
abbrev s__law_with_number : Stmt := topS 50
abbrev s__law_told : Stmt := topS 51
abbrev s_law : Stmt := topS 52
/-! ### data of the program -/
abbrev dI (ns : List Int) : D := .list (ns.map PyData.int)
abbrev dPs (ps : List P2) : D := .list (ps.map dP)
/-- small enough for a product -/
def Sm (i : Int) : Prop := -(2 ^ 64) < i ∧ i < 2 ^ 64
theorem Sm.l {i j : Int} (h : Sm i) : IntMulOk i j := .of_left (intBits_le_64 h.1 h.2)
theorem Sm.r {i j : Int} (h : Sm j) : IntMulOk i j := .of_right (intBits_le_64 h.1 h.2)
theorem sm30 {i : Int} (h1 : -2000 ≤ i) (h2 : i ≤ 2000) : Sm i := by unfold Sm; omega
theorem eqv_dP (p q : P2) : PyData.eqv (dP p) (dP q) = decide (p = q) := by
  have e : PyData.eqv (dP p) (dP q) = ((p.1 == q.1) && ((p.2 == q.2) && true)) := by simp only [dP, PyData.eqv, PyData.eqvAll]
  rw [e, Bool.and_true, Bool.eq_iff_iff]
  simp [Prod.ext_iff]
theorem eqvAll_ints : ∀ a b : List Int, PyData.eqvAll (a.map PyData.int) (b.map PyData.int) = decide (a = b)
  | [], [] => by simp [PyData.eqvAll]
  | [], _ :: _ => by simp [PyData.eqvAll]
  | _ :: _, [] => by simp [PyData.eqvAll]
  | x :: a, y :: b => by
    have ih := eqvAll_ints a b
    simp only [List.map_cons, PyData.eqvAll, PyData.eqv, ih]
    rw [Bool.eq_iff_iff]
    simp
theorem eqvAll_pairs : ∀ a b : List P2, PyData.eqvAll (a.map dP) (b.map dP) = decide (a = b)
  | [], [] => by simp [PyData.eqvAll]
  | [], _ :: _ => by simp [PyData.eqvAll]
  | _ :: _, [] => by simp [PyData.eqvAll]
  | x :: a, y :: b => by
    have ih := eqvAll_pairs a b
    have e := eqv_dP x y
    simp only [List.map_cons, PyData.eqvAll] at *
    rw [e, ih, Bool.eq_iff_iff]
    simp
theorem eqv_dI (a b : List Int) : PyData.eqv (dI a) (dI b) = decide (a = b) := by
  have e : PyData.eqv (dI a) (dI b) = PyData.eqvAll (a.map PyData.int) (b.map PyData.int) := by simp only [dI, PyData.eqv]
  rw [e, eqvAll_ints]
theorem eqv_dPs (a b : List P2) : PyData.eqv (dPs a) (dPs b) = decide (a = b) := by
  have e : PyData.eqv (dPs a) (dPs b) = PyData.eqvAll (a.map dP) (b.map dP) := by simp only [dPs, PyData.eqv]
  rw [e, eqvAll_pairs]
theorem sh_of {d : D} (h1 : d.canLay0 = true) (h2 : d.depth ≤ 64) : SeqAt.shaped d = true := by
  show (d.canLay0 && decide (d.depth ≤ 64)) = true
  rw [h1, decide_eq_true h2]
  rfl
theorem lay_ints : ∀ a : List Int, PyData.canLayAll0 (a.map PyData.int) = true ∧ PyData.depthAll (a.map PyData.int) ≤ 2
  | [] => by simp [PyData.canLayAll0, PyData.depthAll]
  | x :: a => by
    have ih := lay_ints a
    simp only [List.map_cons, PyData.canLayAll0, PyData.canLay0, PyData.depthAll, PyData.depth]
    exact ⟨by rw [ih.1]; rfl, by have := ih.2; omega⟩
theorem lay_pairs : ∀ a : List P2, PyData.canLayAll0 (a.map dP) = true ∧ PyData.depthAll (a.map dP) ≤ 3
  | [] => by simp [PyData.canLayAll0, PyData.depthAll]
  | x :: a => by
    have ih := lay_pairs a
    simp only [List.map_cons, PyData.canLayAll0, PyData.canLay0, PyData.depthAll, PyData.depth]
    exact ⟨by rw [ih.1]; rfl, by have := ih.2; omega⟩
theorem sh_dP (p : P2) : SeqAt.shaped (dP p) = true := sh_of (by simp [PyData.canLay0, PyData.canLayAll0]) (by simp [PyData.depth, PyData.depthAll])
theorem sh_ints (a : List Int) : SeqAt.shaped (dI a) = true := sh_of (by simp only [PyData.canLay0]; exact (lay_ints a).1) (by simp only [PyData.depth]; have := (lay_ints a).2; omega)
theorem sh_pairs (a : List P2) : SeqAt.shaped (dPs a) = true := sh_of (by simp only [PyData.canLay0]; exact (lay_pairs a).1) (by simp only [PyData.depth]; have := (lay_pairs a).2; omega)
theorem sh_step (f : Int) (p : P2) : SeqAt.shaped (.tuple [.int f, dP p]) = true := sh_of (by simp [PyData.canLay0, PyData.canLayAll0]) (by simp [PyData.depth, PyData.depthAll])
theorem eqv_step (f : Int) (p : P2) : PyData.eqv (.tuple [.int f, dP p]) (.tuple [.int f, dP p]) = true := by
  have e := eqv_dP p p
  rw [decide_eq_true rfl] at e
  simp only [PyData.eqv, PyData.eqvAll] at e ⊢
  simpa using e
theorem any_dP (q : P2) : ∀ ps : List P2, ((ps.map dP).any fun z => PyData.eqv z (dP q)) = decide (q ∈ ps)
  | [] => by simp
  | p :: ps => by
    rw [List.map_cons, List.any_cons, eqv_dP, any_dP q ps, Bool.eq_iff_iff]
    simp only [Bool.or_eq_true, decide_eq_true_eq, List.mem_cons]
    exact or_congr ⟨fun h => h.symm, fun h => h.symm⟩ Iff.rfl
section
variable {X : Cx} {a e : Expr} {ds : DF} {pos p : Pos}
theorem ex_index {k : Nat} {ps : List P2} {q : P2} (hr : Room k X.A) (hq : q ∈ ps) (ha : EX X a ds (dPs ps)) (hb : EX X e ds (dP q)) (hbase : attributeBase a "index" X.env (eval a X.env) = eval a X.env := by rfl)
    (hfew : ((backTo pos (starEach [e] X.env)).all (fun x => !x.1) && (backToKw pos (keywordEach [] X.env)).all (fun x => x.1.isSome)
      && decide ([e].length + ([] : List Keyword).length + (if ([] : List Keyword).isEmpty then 0 else 1) < 30)) = true := by rfl)
    (hline : (p.endLine == pos.line) = true := by rfl) (h1 : starEach [e] X.env = (false, eval e X.env) :: starEach [] X.env := by rfl) (hpl : (backTo pos (starEach [] X.env)).any (·.1) = false := by rfl) :
    EX X (.Call (.Attribute a "index" p) [e] [] pos) ds (.int ((ps.idxOf q : Nat) : Int)) :=
  ex_pe (pe_bm PySem.F.plainAttrs_list PySem.F.slot_list_index PySem.F.type_list_index (mt_indexD (hu65 hr)) (trE a) (trA [e]) hbase hfew hline h1 hpl) fun _ _ f => ha.go f (Ex.refl _) fun v H1 e1 q1 => by
    obtain ⟨l, vs, rfl, hl, qa⟩ := rp_lst q1
    refine ⟨.inl ⟨rfl, _, .inl (.of hl)⟩, (ea_cons hb ea_nil h1).go f e1 fun us H2 e2 q2 => ?_⟩
    obtain ⟨u, rfl, ru⟩ := rpa_one q2
    have hlt := List.idxOf_lt_length_iff.mpr hq
    refine ⟨l, u, dP q, ps.map dP, ps.idxOf q, dP q, rfl, rfl, rp_sh (rp_mono e2 q1) (sh_pairs ps), rp_sh ru (sh_dP q), sh_pairs ps, sh_dP q, ?_, ?_, fun m z hm hz => ?_, e1.trans e2, .int _⟩
    · rw [List.getElem?_map, List.getElem?_eq_getElem hlt, List.getElem_idxOf]
      rfl
    · rw [eqv_dP]
      exact decide_eq_true rfl
    · rw [List.getElem?_map] at hz
      have hml : m < ps.length := by omega
      rw [List.getElem?_eq_getElem hml] at hz
      cases hz
      rw [eqv_dP]
      refine decide_eq_false fun z => ?_
      have := List.not_of_lt_findIdx (p := fun y => y == q) (xs := ps) (show m < ps.findIdx (fun y => y == q) from hm)
      simp [z] at this
end
theorem nothing : True := trivial
def isW : D → Bool
  | .int _ => true
  | _ => false
def isPr : D → Bool
  | .tuple [.int _, .int _] => true
  | _ => false
def isI : D → Bool
  | .bool _ => true
  | .int _ => true
  | _ => false
theorem kit_int : ∀ x : D, kitB (tyN x) "int" = some (isI x)
  | .none => (by decide +kernel : kitB "NoneType" "int" = some false)
  | .bool _ => (by decide +kernel : kitB "bool" "int" = some true)
  | .int _ => (by decide +kernel : kitB "int" "int" = some true)
  | .str _ => (by decide +kernel : kitB "str" "int" = some false)
  | .list _ => (by decide +kernel : kitB "list" "int" = some false)
  | .tuple _ => (by decide +kernel : kitB "tuple" "int" = some false)
  | .dict _ => (by decide +kernel : kitB "dict" "int" = some false)
def isBl : D → Bool
  | .bool _ => true
  | _ => false
theorem kit_bool : ∀ x : D, kitB (tyN x) "bool" = some (isBl x)
  | .none => (by decide +kernel : kitB "NoneType" "bool" = some false)
  | .bool _ => (by decide +kernel : kitB "bool" "bool" = some true)
  | .int _ => (by decide +kernel : kitB "int" "bool" = some false)
  | .str _ => (by decide +kernel : kitB "str" "bool" = some false)
  | .list _ => (by decide +kernel : kitB "list" "bool" = some false)
  | .tuple _ => (by decide +kernel : kitB "tuple" "bool" = some false)
  | .dict _ => (by decide +kernel : kitB "dict" "bool" = some false)
def isTu : D → Bool
  | .tuple _ => true
  | _ => false
theorem kit_tuple : ∀ x : D, kitB (tyN x) "tuple" = some (isTu x)
  | .none => (by decide +kernel : kitB "NoneType" "tuple" = some false)
  | .bool _ => (by decide +kernel : kitB "bool" "tuple" = some false)
  | .int _ => (by decide +kernel : kitB "int" "tuple" = some false)
  | .str _ => (by decide +kernel : kitB "str" "tuple" = some false)
  | .list _ => (by decide +kernel : kitB "list" "tuple" = some false)
  | .tuple _ => (by decide +kernel : kitB "tuple" "tuple" = some true)
  | .dict _ => (by decide +kernel : kitB "dict" "tuple" = some false)
def isLi : D → Bool
  | .list _ => true
  | _ => false
theorem kit_list : ∀ x : D, kitB (tyN x) "list" = some (isLi x)
  | .none => (by decide +kernel : kitB "NoneType" "list" = some false)
  | .bool _ => (by decide +kernel : kitB "bool" "list" = some false)
  | .int _ => (by decide +kernel : kitB "int" "list" = some false)
  | .str _ => (by decide +kernel : kitB "str" "list" = some false)
  | .list _ => (by decide +kernel : kitB "list" "list" = some true)
  | .tuple _ => (by decide +kernel : kitB "tuple" "list" = some false)
  | .dict _ => (by decide +kernel : kitB "dict" "list" = some false)

structure Cs where
  Answer : Addr
  Told : Addr
  Round : Addr
  All : Addr
  Lost : Addr
structure Txt (K : KF) (mg : Str → Option Value) (cs : Cs) : Prop where
  d_is_whole : Def K mg "is_whole" s_is_whole ["thing"]
  d_is_pair : Def K mg "is_pair" s_is_pair ["thing"]
  d_check_pair : Def K mg "check_pair" s_check_pair ["pair"]
  d_common : Def K mg "common" s_common ["one", "other"]
  d_size_of : Def K mg "size_of" s_size_of ["base"]
  d_check_base : Def K mg "check_base" s_check_base ["base"]
  d_product : Def K mg "product" s_product ["one", "other"]
  d_times : Def K mg "times" s_times ["one", "other"]
  d_size : Def K mg "size" s_size ["base"]
  d_weight_of : Def K mg "weight_of" s_weight_of ["base"]
  d_next_by : Def K mg "next_by" s_next_by ["base", "weight", "pair"]
  d_step : Def K mg "step" s_step ["base", "pair"]
  d_read_by : Def K mg "read_by" s_read_by ["base", "row"]
  d_told_by : Def K mg "told_by" s_told_by ["base", "pair"]
  d_lost_by : Def K mg "lost_by" s_lost_by ["base"]
  mk_Told : MkD K mg "Told" "Told.__init__" cs.Told s_Told___init__ ["self", "row"]
  mk_Round : MkD K mg "Round" "Round.__init__" cs.Round s_Round___init__ ["self", "pairs"]
  mk_Lost : MkD K mg "Lost" "Lost.__init__" cs.Lost s_Lost___init__ ["self", "pair"]
  d_pair_by : Def K mg "pair_by" s_pair_by ["base", "number"]
  d_number_of : Def K mg "number_of" s_number_of ["base", "pair"]
  d_is_row : Def K mg "is_row" s_is_row ["base", "thing"]
  d_read : Def K mg "read" s_read ["base", "row"]
  d_told : Def K mg "told" s_told ["base", "pair"]
  d_all_told : Def K mg "all_told" s_all_told ["base"]
  d__law_cell_at : Def K mg "_law_cell_at" s__law_cell_at ["_law_script", "_law_k"]
  d__law_draw : Def K mg "_law_draw" s__law_draw ["_law_cell", "_law_k", "_law_many"]
  d__law_value : Def K mg "_law_value" s__law_value ["_law_cell", "_law_k", "_law_limit"]
  d__law_common : Def K mg "_law_common" s__law_common ["_law_one", "_law_other"]
  d__law_base : Def K mg "_law_base" s__law_base ["_law_script", "_law_k"]
  d__law_size : Def K mg "_law_size" s__law_size ["_law_base_here"]
  d__law_kinds : Def K mg "_law_kinds" s__law_kinds ["_law_error"]
  d__law_with_base : Def K mg "_law_with_base" s__law_with_base ["_law_door", "_law_base_here"]
  d__law_with_pair : Def K mg "_law_with_pair" s__law_with_pair ["_law_where", "_law_pair"]
  d__law_with_row : Def K mg "_law_with_row" s__law_with_row ["_law_base_here", "_law_row"]
  d__law_with_number : Def K mg "_law_with_number" s__law_with_number ["_law_base_here", "_law_number"]
  d__law_told : Def K mg "_law_told" s__law_told ["_law_ask", "_law_one", "_law_other"]
  d_law : Def K mg "law" s_law ["_law_script"]
  b_len : mg "len" = none
  b_abs : mg "abs" = none
  b_all : mg "all" = none
  b_any : mg "any" = none
  b_list : mg "list" = none
  b_isinstance : mg "isinstance" = none
  b_int : mg "int" = none
  b_bool : mg "bool" = none
  b_tuple : mg "tuple" = none
  b_max : mg "max" = none
  b_min : mg "min" = none
  b_range : mg "range" = none
  b_set : mg "set" = none
  b_enumerate : mg "enumerate" = none
  b_ValueError : mg "ValueError" = none
  m_MOST : ∃ t, mg "MOST" = some (.int 30 t)
  ic_Told : InsC K cs.Told
  na_Told : NoAttr K cs.Told "row"
  ic_Round : InsC K cs.Round
  na_Round : NoAttr K cs.Round "pairs"
  ic_All : InsC K cs.All
  mk0_All : Mk0 K cs.All
  ic_Lost : InsC K cs.Lost
  na_Lost : NoAttr K cs.Lost "pair"
  g_All : mg "All" = some (.ref cs.All)
theorem Txt.cl_Told {K : KF} {mg : Str → Option Value} {cs : Cs} (T : Txt K mg cs) : Cls K cs.Told := T.ic_Told.cl
theorem Txt.cl_Round {K : KF} {mg : Str → Option Value} {cs : Cs} (T : Txt K mg cs) : Cls K cs.Round := T.ic_Round.cl
theorem Txt.cl_All {K : KF} {mg : Str → Option Value} {cs : Cs} (T : Txt K mg cs) : Cls K cs.All := T.ic_All.cl
theorem Txt.cl_Lost {K : KF} {mg : Str → Option Value} {cs : Cs} (T : Txt K mg cs) : Cls K cs.Lost := T.ic_Lost.cl
section
variable {P : Program} {w : World} {K : PySem.W.Frag} {mg : Str → Option Value} {base : Heap} {cs : Cs}
/-! ### bases and pairs -/
structure Bd (b : P2) : Prop where
  a1 : -30 ≤ b.1
  a2 : b.1 ≤ 30
  a3 : -30 ≤ b.2
  a4 : b.2 ≤ 30
theorem bd_of {b : P2} (h : IsB b) : Bd b := ⟨h.lo1, h.hi1, h.lo2, h.hi2⟩
def SmP (p : P2) : Prop := Sm p.1 ∧ Sm p.2
theorem Bd.sm {b : P2} (h : Bd b) : SmP b := ⟨sm30 (by have := h.a1; omega) (by have := h.a2; omega), sm30 (by have := h.a3; omega) (by have := h.a4; omega)⟩
theorem IsB.szb {b : P2} (h : IsB b) : 0 < sz b ∧ sz b < 1073741824 := ⟨h.pos, by have := h.sz_le; omega⟩
def R_size_of (ds : List D) (d : D) : Prop := ∃ b : P2, ds = [dP b] ∧ d = .int (sz b) ∧ Bd b
theorem sc_size_of : FnScope ["base"] ["base"] (defScope s_size_of) := ⟨rfl, rfl, rfl, by decide +kernel, rfl, by decide +kernel, by decide +kernel⟩
theorem ok_size_of (T : Txt K mg cs) : CalR P w K mg base 1 "size_of" R_size_of := by
  refine cal_of T.d_size_of sc_size_of (fun ds d h => ?_) (fun f cdv A outer s H E ds d hr h => ?_)
  · obtain ⟨b, rfl, _⟩ := h
    rfl
  · obtain ⟨b, rfl, rfl, hb⟩ := h
    have h1 := hb.sm.1.l (j := b.1)
    have h2 := hb.sm.2.l (j := b.2)
    exact (sxs_ret (sx_ret (ex_add (ex_mul (by walk_at "sd") (ex_fst (ex_var 0 rfl)) (ex_fst (ex_var 0 rfl))) (ex_mul (by walk_at "sd") (ex_snd (ex_var 0 rfl)) (ex_snd (ex_var 0 rfl))))))
def R_product (ds : List D) (d : D) : Prop := ∃ p q : P2, ds = [dP p, dP q] ∧ d = dP (mul p q) ∧ (SmP p ∨ SmP q)
theorem sc_product : FnScope ["one", "other"] ["one", "other"] (defScope s_product) := ⟨rfl, rfl, rfl, by decide +kernel, rfl, by decide +kernel, by decide +kernel⟩
theorem ok_product (T : Txt K mg cs) : CalR P w K mg base 1 "product" R_product := by
  refine cal_of T.d_product sc_product (fun ds d h => ?_) (fun f cdv A outer s H E ds d hr h => ?_)
  · obtain ⟨p, q, rfl, _⟩ := h
    rfl
  · obtain ⟨p, q, rfl, rfl, h⟩ := h
    have h1 : IntMulOk p.1 q.1 := h.elim (fun z => z.1.l) fun z => z.1.r
    have h2 : IntMulOk p.2 q.2 := h.elim (fun z => z.2.l) fun z => z.2.r
    have h3 : IntMulOk p.1 q.2 := h.elim (fun z => z.1.l) fun z => z.2.r
    have h4 : IntMulOk p.2 q.1 := h.elim (fun z => z.2.l) fun z => z.1.r
    exact (sxs_ret (sx_ret (ex_pair (ex_sub (ex_mul (by walk_at "sd") (ex_fst (ex_var 0 rfl)) (ex_fst (ex_var 1 rfl))) (ex_mul (by walk_at "sd") (ex_snd (ex_var 0 rfl)) (ex_snd (ex_var 1 rfl)))) (ex_add (ex_mul (by walk_at "sd") (ex_fst (ex_var 0 rfl)) (ex_snd (ex_var 1 rfl))) (ex_mul (by walk_at "sd") (ex_snd (ex_var 0 rfl)) (ex_fst (ex_var 1 rfl)))))))
def R_weight_of (ds : List D) (d : D) : Prop := ∃ b : P2, ds = [dP b] ∧ d = .int (wt b) ∧ IsB b
theorem sc_weight_of : FnScope ["base", "many", "one", "other", "mine", "theirs", "often"] ["base"] (defScope s_weight_of) := ⟨rfl, rfl, rfl, by decide +kernel, rfl, by decide +kernel, by decide +kernel⟩
theorem ok_weight_of (T : Txt K mg cs) : CalR P w K mg base 2 "weight_of" R_weight_of := by
  refine cal_of T.d_weight_of sc_weight_of (fun ds d h => ?_) (fun f cdv A outer s H E ds d hr h => ?_)
  · obtain ⟨b, rfl, _⟩ := h
    rfl
  · obtain ⟨b, rfl, rfl, hb⟩ := h
    have hB := bd_of hb
    have hp := hb.pos
    refine sxs_cons (sx_set 1 (ex_call (ok_size_of T) hr (by decide) (by rfl) (ea_cons (ex_var 0 rfl) ea_nil) (by walk_at "rr")) sc_weight_of.nd rfl (.inl rfl)) (sxs_cons (sx_par (ex_mod (by walk_at "sd") (ex_snd (ex_var 0 rfl)) (ex_var 1 rfl)) (ex_var 1 rfl) rfl sc_weight_of.nd (n := 2) (m := 3) rfl rfl (by decide) rfl rfl (by rfl)) (sxs_cons (sx_unpack [4, 5] (ex_tup (ea_cons ex_int (ea_cons ex_int ea_nil))) rfl rfl (pgs_cons (pg_name (i := 4) sc_weight_of.nd rfl (.inl rfl)) (pgs_cons (pg_name (i := 5) sc_weight_of.nd rfl (.inl rfl)) pgs_nil)) rfl) ?_))
    refine sxs_while (fun z : Int × Int × Int × Int => [some (dP b), some (.int (sz b)), some (.int z.1), some (.int z.2.1), some (.int z.2.2.1), some (.int z.2.2.2), none])
      (fun z => EgI b z.1 z.2.1 z.2.2.1 z.2.2.2) (fun z => z.2.1.toNat) (fun z => decide (0 < z.2.1)) (b.2 % sz b, sz b, 1, 0) (EgI.start hb) ⟨rfl, rfl, rfl, rfl, rfl, rfl, trivial⟩ PassesOwn.never (fun z _ => (et_gt (ex_var 3 rfl) ex_int)) (fun z g hk => ?_) (fun z g hk => ?_)
    · have hk := of_decide_eq_true hk
      have g1 := g.lo1
      have g2 := g.hi1
      have g3 := g.hi2
      have q0 := Int.ediv_nonneg g1 (Int.le_of_lt hk)
      have q1 : z.1 / z.2.1 ≤ z.1 := Int.ediv_le_self _ g1
      have sm : Sm (z.1 / z.2.1) := sm30 (by omega) (by omega)
      have h1 := sm.l (j := z.2.1)
      have h2 := sm.l (j := z.2.2.2)
      have h3 : 0 < z.2.1 ∧ z.2.1 < 1073741824 := ⟨hk, by omega⟩
      obtain ⟨g', l'⟩ := g.turn hk
      exact ⟨(z.2.1, z.1 - z.1 / z.2.1 * z.2.1, z.2.2.2, z.2.2.1 - z.1 / z.2.1 * z.2.2.2), _, g', l',
        (sxs_cons (sx_set 6 (ex_fdiv (by walk_at "sd") (ex_var 2 rfl) (ex_var 3 rfl)) sc_weight_of.nd rfl (.inl rfl))
      (sxs_cons (sx_par (ex_var 3 rfl) (ex_sub (ex_var 2 rfl) (ex_mul (by walk_at "sd") (ex_var 6 rfl) (ex_var 3 rfl))) rfl sc_weight_of.nd (n := 2) (m := 3) rfl rfl (by decide) rfl rfl (by rfl))
      (sxs_cons (sx_par (ex_var 5 rfl) (ex_sub (ex_var 4 rfl) (ex_mul (by walk_at "sd") (ex_var 6 rfl) (ex_var 5 rfl))) rfl sc_weight_of.nd (n := 4) (m := 5) rfl rfl (by decide) rfl rfl (by rfl))
      sxs_nil))), ⟨rfl, rfl, rfl, rfl, rfl, rfl, trivial⟩⟩
    · have hk := of_decide_eq_false hk
      have e := (g.done hb hk).1
      have sm : Sm (-b.1) := sm30 (by have := hB.a2; omega) (by have := hB.a1; omega)
      have h1 := sm.l (j := z.2.2.1)
      rw [← e]
      exact (sxs_ret (sx_ret (ex_mod (by walk_at "sd") (ex_mul (by walk_at "sd") (ex_neg (ex_fst (ex_var 0 rfl))) (ex_var 4 rfl)) (ex_var 1 rfl))))
def R_next_by (ds : List D) (d : D) : Prop := ∃ b p : P2, ds = [dP b, .int (wt b), dP p] ∧ d = .tuple [.int (fig b p), dP (nxt b p)] ∧ IsB b
theorem sc_next_by : FnScope ["base", "weight", "pair", "many", "figure", "left"] ["base", "weight", "pair"] (defScope s_next_by) := ⟨rfl, rfl, rfl, by decide +kernel, rfl, by decide +kernel, by decide +kernel⟩
theorem ok_next_by (T : Txt K mg cs) : CalR P w K mg base 2 "next_by" R_next_by := by
  refine cal_of T.d_next_by sc_next_by (fun ds d h => ?_) (fun f cdv A outer s H E ds d hr h => ?_)
  · obtain ⟨b, p, rfl, _⟩ := h
    rfl
  · obtain ⟨b, p, rfl, rfl, hb⟩ := h
    have hB := bd_of hb
    have hp := hb.pos
    have hz := IsB.szb hb
    have ww := wt_wt hb
    have sm : Sm (wt b) := sm30 (by have := ww.lo; omega) (by have := ww.hi; have := hb.sz_le; omega)
    have h1 := sm.l (j := p.2)
    have h2 : SmP (p.1 - fig b p, p.2) ∨ SmP (b.1, -b.2) := .inr ⟨hB.sm.1, sm30 (by have := hB.a4; show -2000 ≤ -b.2; omega) (by have := hB.a3; show -b.2 ≤ 2000; omega)⟩
    exact (sxs_cons (sx_set 3 (ex_call (ok_size_of T) hr (by decide) (by rfl) (ea_cons (ex_var 0 rfl) ea_nil) (by walk_at "rr")) sc_next_by.nd rfl (.inl rfl))
      (sxs_cons (sx_set 4 (ex_mod (by walk_at "sd") (ex_add (ex_fst (ex_var 2 rfl)) (ex_mul (by walk_at "sd") (ex_var 1 rfl) (ex_snd (ex_var 2 rfl)))) (ex_var 3 rfl)) sc_next_by.nd rfl (.inl rfl))
      (sxs_cons (sx_set 5 (ex_call (ok_product T) hr (by decide) (by rfl) (ea_cons (ex_pair (ex_sub (ex_fst (ex_var 2 rfl)) (ex_var 4 rfl)) (ex_snd (ex_var 2 rfl))) (ea_cons (ex_pair (ex_fst (ex_var 0 rfl)) (ex_neg (ex_snd (ex_var 0 rfl)))) ea_nil)) (by walk_at "rr")) sc_next_by.nd rfl (.inl rfl))
      (sxs_ret (sx_ret (ex_tup (ea_cons (ex_var 4 rfl) (ea_cons (ex_pair (ex_fdiv (by walk_at "sd") (ex_fst (ex_var 5 rfl)) (ex_var 3 rfl)) (ex_fdiv (by walk_at "sd") (ex_snd (ex_var 5 rfl)) (ex_var 3 rfl))) ea_nil))))))))
def R_read_by (ds : List D) (d : D) : Prop := ∃ (b : P2) (r : List Int), ds = [dP b, dI r] ∧ d = dP (rd b r) ∧ Bd b
theorem rd_drop (b : P2) {r : List Int} {i : Nat} {f : Int} (h : r.reverse[i]? = some f) : rd b (r.drop (r.length - (i + 1))) = ((mul b (rd b (r.drop (r.length - i)))).1 + f, (mul b (rd b (r.drop (r.length - i)))).2) := by
  have hi : i < r.length := by
    have := (List.getElem?_eq_some_iff.mp h).1
    simpa using this
  have e : r[r.length - 1 - i]? = some f := by
    rw [List.getElem?_reverse hi] at h
    exact h
  have hl : r.length - 1 - i < r.length := by omega
  have e2 : r[r.length - 1 - i] = f := by
    rw [List.getElem?_eq_getElem hl] at e
    exact Option.some.inj e
  have d1 : r.drop (r.length - (i + 1)) = f :: r.drop (r.length - i) := by
    rw [show r.length - (i + 1) = r.length - 1 - i by omega, List.drop_eq_getElem_cons hl, e2, show r.length - 1 - i + 1 = r.length - i by omega]
  rw [d1]
  rfl
theorem sc_read_by : FnScope ["base", "row", "found", "figure"] ["base", "row"] (defScope s_read_by) := ⟨rfl, rfl, rfl, by decide +kernel, rfl, by decide +kernel, by decide +kernel⟩
theorem ok_read_by (T : Txt K mg cs) : CalR P w K mg base 2 "read_by" R_read_by := by
  refine cal_of T.d_read_by sc_read_by (fun ds d h => ?_) (fun f cdv A outer s H E ds d hr h => ?_)
  · obtain ⟨b, r, rfl, _⟩ := h
    rfl
  · obtain ⟨b, r, rfl, rfl, hB⟩ := h
    refine sxs_cons (sx_set 2 (ex_pair ex_int ex_int) sc_read_by.nd rfl (.inl rfl)) ?_
    refine sxs_forL 3 (fun z : P2 => [some (dP b), some (dI r), some (dP z), none]) (fun i z => z = rd b (r.drop (r.length - i))) (0, 0) (by show (0, 0) = rd b (r.drop (r.length - 0)); rw [Nat.sub_zero, List.drop_length]; rfl) ⟨rfl, rfl, rfl, trivial⟩ PassesOwn.never rfl sc_read_by.nd rfl (.inl rfl)
      (ex_rev (ex_var 1 rfl)) (fun i z d hd hz => ?_) (fun z hz => ?_)
    · rw [← List.map_reverse, List.getElem?_map] at hd
      cases q : r.reverse[i]? with
      | none => rw [q] at hd; cases hd
      | some f =>
        rw [q] at hd
        cases hd
        have h2 : SmP b ∨ SmP z := .inl hB.sm
        subst hz
        exact ⟨((mul b (rd b (r.drop (r.length - i)))).1 + f, (mul b (rd b (r.drop (r.length - i)))).2), _, (rd_drop b q).symm,
          (sxs_cons (sx_set 2 (ex_call (ok_product T) hr (by decide) (by rfl) (ea_cons (ex_var 0 rfl) (ea_cons (ex_var 2 rfl) ea_nil)) (by walk_at "rr")) sc_read_by.nd rfl (.inl rfl))
      (sxs_cons (sx_set 2 (ex_pair (ex_add (ex_fst (ex_var 2 rfl)) (ex_var 3 rfl)) (ex_snd (ex_var 2 rfl))) sc_read_by.nd rfl (.inl rfl))
      sxs_nil)), ⟨rfl, rfl, rfl, trivial⟩⟩
    · rw [List.length_reverse, List.length_map, Nat.sub_self] at hz
      rw [List.drop_zero] at hz
      subst hz
      exact (sxs_ret (sx_ret (ex_var 2 rfl)))
/-! ### the walk, its heap -/
def kP (p : P2) : List L2.Key := [Sum.inl p.1, Sum.inl p.2]
theorem kP_inj {p q : P2} (h : kP p = kP q) : p = q := by
  unfold kP at h
  simp only [List.cons.injEq, Sum.inl.injEq, and_true] at h
  exact Prod.ext h.1 h.2
def kvT (b p : P2) (n : Nat) : List (List L2.Key × V) := (List.range n).map fun i => (kP (orb b p i), V.int (i : Nat))
theorem kvT_succ (b p : P2) (n : Nat) : kvT b p (n + 1) = kvT b p n ++ [(kP (orb b p n), V.int (n : Nat))] := by unfold kvT; rw [List.range_succ, List.map_append]; rfl
theorem kvT_len (b p : P2) (n : Nat) : (kvT b p n).length = n := by unfold kvT; rw [List.length_map, List.length_range]
theorem valT (b p : P2) : ∀ (n : Nat), (met b p n).Nodup → ∀ q : P2, valV (kvT b p n) (kP q) = if q ∈ met b p n then some (V.int (((met b p n).idxOf q : Nat) : Int)) else none
  | 0, _, q => by
    have e : met b p 0 = [] := by unfold met; rfl
    rw [e, if_neg (by simp)]
    rfl
  | n + 1, hn, q => by
    rw [met_succ] at hn
    have h1 := (List.nodup_append.mp hn).1
    have nin : orb b p n ∉ met b p n := fun m => (List.nodup_append.mp hn).2.2 _ m _ (List.mem_singleton.mpr rfl) rfl
    have ih := valT b p n h1
    have no : valV (kvT b p n) (kP (orb b p n)) = none := by rw [ih, if_neg nin]
    rw [kvT_succ, valV_snoc _ _ _ _ no, met_succ]
    by_cases c : q = orb b p n
    · subst c
      rw [if_pos rfl, if_pos (List.mem_append_right _ (List.mem_singleton.mpr rfl)), List.idxOf_append, if_neg nin, met_len]
      simp
    · rw [if_neg (fun z => c (kP_inj z)), ih]
      by_cases m : q ∈ met b p n
      · rw [if_pos m, if_pos (List.mem_append_left _ m), List.idxOf_append, if_pos m]
      · rw [if_neg m, if_neg (fun z => (List.mem_append.mp z).elim m fun z => c (List.mem_singleton.mp z))]
theorem noL_dP (p : P2) : noL (dP p) = true := by simp [dP, noL, noLs]
theorem noLs_dPs : ∀ l : List P2, noLs (l.map dP) = true
  | [] => by simp [noLs]
  | p :: l => by simp [noLs, noL, noLs_dPs l]
theorem noLs_ints : ∀ l : List Int, noLs (l.map PyData.int) = true
  | [] => by simp [noLs]
  | p :: l => by simp [noLs, noL, noLs_ints l]
def noLF : DF → Bool
  | [] => true
  | none :: r => noLF r
  | some d :: r => noL d && noLF r
theorem noLF_at : ∀ {ds : DF}, noLF ds = true → ∀ (i : Nat) (d : D), ds[i]? = some (some d) → noL d = true
  | [], _, i, d, e => by simp at e
  | none :: r, h, 0, d, e => by simp at e
  | none :: r, h, i + 1, d, e => noLF_at (ds := r) h i d (by simpa using e)
  | some x :: r, h, 0, d, e => by
    simp only [noLF, Bool.and_eq_true] at h
    simp at e
    rw [← e]
    exact h.1
  | some x :: r, h, i + 1, d, e => by
    simp only [noLF, Bool.and_eq_true] at h
    exact noLF_at (ds := r) h.2 i d (by simpa using e)
theorem Fr.flat {H H' : Hp} {σ : L2.St} {ds : DF} (f : Fr H σ ds) (e : ExT H H') (n : noLF ds = true) : Fr H' σ ds :=
  ⟨f.len, fun i d h => let ⟨v, a, q⟩ := f.at_ i d h; ⟨v, a, rp_flat e q (noLF_at n i d h)⟩⟩
theorem ext_updD {H : Hp} {a : Addr} {x y : List (List L2.Key × V)} (h : H a = some (.dT x)) : ExT H (upd H a (.dT y)) := fun b zs hb => by
  rw [upd_ne (ne_of hb h (by intro z; cases z))]
  exact hb
/-- the loop's three objects ahead of its n-th turn -/
structure WI (b p : P2) (H0 : Hp) (R S M : Addr) (n : Nat) (H : Hp) : Prop where
  ex : Ex H0 H
  r0 : H0 R = none
  s0 : H0 S = none
  m0 : H0 M = none
  rm : R ≠ M
  hR : H R = some (.lst ((figs b p n).map V.int))
  hS : H S = some (.dT (kvT b p n))
  hM : ∃ ms, H M = some (.lst ms) ∧ RpA H ms ((met b p n).map dP)
theorem WI.start {b p : P2} {H0 : Hp} {R S M : Addr} (hR : H0 R = none) (hS : upd H0 R (.lst []) S = none) (hM : upd (upd H0 R (.lst [])) S (.dT []) M = none) : WI b p H0 R S M 0 (upd (upd (upd H0 R (.lst [])) S (.dT [])) M (.lst [])) := by
  have nSR : S ≠ R := fun z => by rw [z, upd_same] at hS; cases hS
  have nMS : M ≠ S := fun z => by rw [z, upd_same] at hM; cases hM
  rw [upd_ne nMS] at hM
  have nMR : M ≠ R := fun z => by rw [z, upd_same] at hM; cases hM
  rw [upd_ne nMR] at hM
  rw [upd_ne nSR] at hS
  refine ⟨?_, hR, hS, hM, fun z => nMR z.symm, ?_, ?_, ⟨[], upd_same, ?_⟩⟩
  · exact ((Ex.new hR).mut hS).mut hM
  · rw [upd_ne nMR.symm, upd_ne nSR.symm, upd_same]
    rfl
  · rw [upd_ne nMS.symm, upd_same]
    rfl
  · have e : met b p 0 = [] := by unfold met; rfl
    rw [e]
    exact .nil
theorem WI.mono {b p : P2} {H0 H H' : Hp} {R S M : Addr} {n : Nat} (w : WI b p H0 R S M n H) (e : Ex H H') : WI b p H0 R S M n H' :=
  ⟨w.ex.trans e, w.r0, w.s0, w.m0, w.rm, e _ _ w.hR, e _ _ w.hS, let ⟨ms, h1, h2⟩ := w.hM; ⟨ms, e _ _ h1, rpa_mono e h2⟩⟩
/-- the turn's stores, the call between them: now stands at vn -/
theorem WI.turn {b p : P2} {H0 H H2 : Hp} {R S M : Addr} {n : Nat} {vn : V} {ms : List V} (w : WI b p H0 R S M n H) (nd : (met b p (n + 1)).Nodup) (hm : H M = some (.lst ms)) (rm : RpA H ms ((met b p n).map dP)) (hv : Rp H vn (dP (orb b p n)))
    (e2 : Ex (upd (upd H S (.dT (putK (kvT b p n) (kP (orb b p n)) (.int (n : Nat))))) M (.lst (ms ++ [vn]))) H2) :
    H2 R = some (.lst ((figs b p n).map V.int)) ∧ WI b p H0 R S M (n + 1) (upd H2 R (.lst ((figs b p n).map V.int ++ [.int (fig b (orb b p n))]))) := by
  have nRS : R ≠ S := ne_of w.hR w.hS (by intro z; cases z)
  have nMS : M ≠ S := ne_of hm w.hS (by intro z; cases z)
  have hR2 : H2 R = some (.lst ((figs b p n).map V.int)) := e2 _ _ (by rw [upd_ne w.rm, upd_ne nRS]; exact w.hR)
  have hS2 : H2 S = some (.dT (kvT b p (n + 1))) := e2 _ _ (by
    rw [upd_ne nMS.symm, upd_same, kvT_succ, putK_new]
    rw [valT b p n (by rw [met_succ] at nd; exact (List.nodup_append.mp nd).1), if_neg]
    intro m
    rw [met_succ] at nd
    exact (List.nodup_append.mp nd).2.2 _ m _ (List.mem_singleton.mpr rfl) rfl)
  have hM1 : (upd (upd H S (.dT (putK (kvT b p n) (kP (orb b p n)) (.int (n : Nat))))) M (.lst (ms ++ [vn]))) M = some (.lst (ms ++ [vn])) := upd_same
  have t1 : ExT H (upd H S (.dT (putK (kvT b p n) (kP (orb b p n)) (.int (n : Nat))))) := ext_updD w.hS
  have hm1 : (upd H S (.dT (putK (kvT b p n) (kP (orb b p n)) (.int (n : Nat))))) M = some (.lst ms) := by rw [upd_ne nMS]; exact hm
  have t2 := ext_upd (ys := ms ++ [vn]) hm1
  have t3 : ExT H H2 := (t1.trans t2).trans (ext_of e2)
  refine ⟨hR2, ?_, w.r0, w.s0, w.m0, w.rm, ?_, ?_, ⟨ms ++ [vn], ?_, ?_⟩⟩
  · exact ((((w.ex.mut w.s0).mut w.m0).trans e2).mut w.r0)
  · rw [upd_same, figs_succ, List.map_append]
    rfl
  · rw [upd_ne nRS.symm]
    exact hS2
  · rw [upd_ne w.rm.symm]
    exact e2 _ _ hM1
  · have t4 := t3.trans (ext_upd (ys := (figs b p n).map V.int ++ [.int (fig b (orb b p n))]) hR2)
    rw [met_succ, List.map_append]
    exact rpa_app (rpa_flat t4 rm (noLs_dPs _)) (.cons (rp_flat t4 hv (noL_dP _)) .nil)
theorem cutV_from (xs : List V) {k : Nat} (h : k ≤ xs.length) : cutV xs (some (k : Int)) none = xs.drop k := by
  unfold cutV
  rw [HT.sIx_nat, HT.sIx_none, Nat.min_eq_left h]
  exact List.take_of_length_le (by rw [List.length_drop]; omega)
def R_told_by (ds : List D) (d : D) : Prop := ∃ b p : P2, ds = [dP b, dP p] ∧ d = .tuple [dI (row b p), dPs (aro b p)] ∧ IsB b ∧ norm p < 2 ^ 2000
theorem lst_small {b p : P2} (h : IsB b) (hp : norm p < 2 ^ 2000) : lst b p < 200000 := by have := lst_le h hp; omega
def fW (b p : P2) (n : Nat) : DF := [some (dP b), none, some (.int (wt b)), none, none, none, some (dP (orb b p n)), none]
theorem fW_flat (b p : P2) (n : Nat) : noLF (fW b p n) = true := by simp [fW, noLF, noL, noLs]
/-- an expression's slot, its object told -/
theorem sc_told_by : FnScope ["base", "pair", "weight", "row", "seen", "met", "now", "figure"] ["base", "pair"] (defScope s_told_by) := ⟨rfl, rfl, rfl, by decide +kernel, rfl, by decide +kernel, by decide +kernel⟩
theorem ok_told_by (T : Txt K mg cs) : CalR P w K mg base 3 "told_by" R_told_by := by
  refine cal_of T.d_told_by sc_told_by (fun ds d h => ?_) (fun f cdv A outer s H E ds d hr h => ?_)
  · obtain ⟨b, p, rfl, _⟩ := h
    rfl
  · obtain ⟨b, p, rfl, rfl, hb, hp⟩ := h
    have hu := hu_of hr
    obtain ⟨sp1, sp2⟩ := lst_spec hb p
    have sl := lst_small hb hp
    have nds : ∀ n, n ≤ lst b p → (met b p n).Nodup := fun n hn => nodup_of fun i hi => sp2 i (by omega)
    refine sxs_cons (sx_set 2 (ex_call (ok_weight_of T) hr (by decide) (by rfl) (ea_cons (ex_var 0 rfl) ea_nil) (by walk_at "rr")) sc_told_by.nd rfl (.inl rfl)) ?_
    refine sxs_pss (pss_cons (ps_set (i := 3) sc_told_by.nd rfl (.inl rfl) (pe_lst pa_nil)) (pss_cons (ps_set (i := 4) sc_told_by.nd rfl (.inl rfl) pe_dnewT) (pss_cons (ps_set (i := 5) sc_told_by.nd rfl (.inl rfl) (pe_lst pa_nil)) (pss_cons (ps_set (i := 6) sc_told_by.nd rfl (.inl rfl) (pv 1))
      (pss_cons (ps_while PassesOwn.never (trT _)
        (pss_cons (ps_if (pt_cmp (pc_din hu (pv 6) (pv 4)) rfl) (pss_one (ps_ret (pe_tup (pa_cons (pv 3) (pa_cons (pe_slice sl_list (pv 5) (po_some (pe_dget hu (pv 4) (pv 6) (fun _ _ => rfl))) po_none) pa_nil))))) pss_nil)
        (pss_cons (ps_dput hu (pv 4) (pv 6) (pe_callB call_len_seq (by rfl) T.b_len PySem.boot_len (pa_cons (pv 5) pa_nil)) rfl)
        (pss_cons (ps_expr (pe_bm PySem.F.plainAttrs_list PySem.F.slot_list_append PySem.F.type_list_append mt_append (pv 5) (pa_cons (pv 6) pa_nil)))
        (pss_cons (ps_asg (trE _) (pg_tup rfl (pgs_cons (pg_name (i := 7) sc_told_by.nd rfl (.inl rfl)) (pgs_cons (pg_name (i := 6) sc_told_by.nd rfl (.inl rfl)) pgs_nil))))
        (pss_one (ps_expr (pe_bm PySem.F.plainAttrs_list PySem.F.slot_list_append PySem.F.type_list_append mt_append (pv 3) (pa_cons (pv 7) pa_nil)))))))))
      (trSs _)))))) fun σ Hs fs => ?_
    refine ⟨Nat.zero_le _, fun R hR0 S hS0 => ⟨Nat.zero_le _, fun M hM0 => ?_⟩⟩
    have w0 : WI b p Hs R S M 0 _ := WI.start hR0 hS0 hM0
    obtain ⟨vp, hvp, rvp⟩ := fs.at_ 1 _ rfl
    have f0 : Fr _ ((((σ.set 3 (some (V.ref R))).set 4 (some (V.ref S))).set 5 (some (V.ref M))).set 6 (some vp)) (fW b p 0) :=
      (((((fs.mono w0.ex).hide 3).hide 4).hide 5).set 6 (rp_mono w0.ex rvp)).le ⟨rfl, rfl, rfl, trivial⟩
    have hl : σ.length = 8 := fs.len
    refine ⟨vp, by simpa [List.getElem?_set] using hvp, ?_⟩
    refine ⟨fun m σ' H' => ∃ n, n ≤ lst b p ∧ m = lst b p - n ∧ WI b p Hs R S M n H' ∧ Fr H' σ' (fW b p n) ∧ σ'[3]? = some (some (V.ref R)) ∧ σ'[4]? = some (some (V.ref S)) ∧ σ'[5]? = some (some (V.ref M)), ⟨lst b p, 0, Nat.zero_le _, (Nat.sub_zero _).symm, w0, f0, ?_, ?_, ?_⟩, ?_⟩
    · simp [List.getElem?_set, hl]
    · simp [List.getElem?_set, hl]
    · simp [List.getElem?_set, hl]
    rintro m σ' H' ⟨n, hn, rfl, wi, fr, h3, h4, h5⟩
    refine ET.go (ET.to (et_neD hr (sh_dP _) (sh_dP _) (ex_var 6 rfl) (ex_pair ex_int ex_int)) (by rw [eqv_dP])) fr (Ex.refl _) fun H1 e1 => ?_
    have wi := wi.mono e1
    have fr := fr.mono e1
    by_cases c0 : orb b p n = (0, 0)
    · -- the pair (0, 0): the loop ends
      have en : n = lst b p := by
        rcases Nat.lt_or_ge n (lst b p) with z | z
        · have := sp2 n z
          unfold stp at this
          rw [decide_eq_true c0] at this
          cases this
        · omega
      rw [decide_eq_true c0]
      refine iteF ?_
      have fr2 := fr.add h3 (.lst wi.hR (rpa_ints _))
      have ea : aro b p = [] := (aro_nil hb).mpr (by rw [← en]; exact c0)
      have er : row b p = figs b p n := by rw [en]; rfl
      rw [ea, er]
      exact SXs.go (sxs_ret (sx_ret (ex_tup (ea_cons (ex_var 3 rfl) (ea_cons (ex_lst ea_nil) ea_nil))))) fr2 wi.ex
    · rw [decide_eq_false c0]
      refine iteT ?_
      obtain ⟨vn, h6, rn⟩ := fr.at_ 6 _ rfl
      obtain ⟨an, vs, rfl, ha, qa⟩ := rp_tup rn
      obtain ⟨x1, x2, rfl, y1, y2⟩ := rpa_two qa
      cases rp_int y1
      cases rp_int y2
      obtain ⟨ms, hm, rm⟩ := wi.hM
      have hk : H1 an = some (.tup ((kP (orb b p n)).map kV)) := ha
      have hget := DGet.t wi.hS hk
      have hlm : ms.length = n := by rw [rpa_len rm, List.length_map, met_len]
      rw [valT b p n (nds n hn)] at hget
      refine ⟨fun σ2 H2 => ∃ n', n < n' ∧ n' ≤ lst b p ∧ WI b p Hs R S M n' H2 ∧ Fr H2 σ2 (fW b p n') ∧ σ2[3]? = some (some (V.ref R)) ∧ σ2[4]? = some (some (V.ref S)) ∧ σ2[5]? = some (some (V.ref M)), fun σ2 H2 ⟨n', l1, l2, q⟩ => ⟨lst b p - n', by omega, n', l2, rfl, q⟩, ?_⟩
      refine ⟨_, h6, _, h4, S, _, rfl, hget, _, rfl, ?_⟩
      by_cases cm : orb b p n ∈ met b p n
      · -- it was met: its round
        have en : n = lst b p := by
          rcases Nat.lt_or_ge n (lst b p) with z | z
          · have := sp2 n z
            unfold stp at this
            rw [decide_eq_true cm, Bool.or_true] at this
            cases this
          · omega
        rw [if_pos cm] at hget ⊢
        refine iteT ?_
        refine ⟨_, h3, _, h5, _, h4, _, h6, S, _, rfl, hget, _, rfl, M, ms, rfl, .of hm, fun q hq => ⟨by show 2 ≤ sizeLine; rw [sizeLine_eq]; decide, fun t ht => ?_⟩⟩
        refine ⟨(wi.ex.trans (Ex.new hq)).trans (Ex.new ht), rp_newT ht (.cons (.lst (Ex.new hq _ _ wi.hR) (rpa_mono (Ex.new hq) ?_)) (.cons (.lst upd_same (rpa_mono (Ex.new hq) ?_)) .nil))⟩
        · rw [show row b p = figs b p n by rw [en]; rfl]
          exact rpa_ints _
        · have hi := List.idxOf_lt_length_iff.mpr cm
          rw [met_len] at hi
          rw [cutV_from ms (by omega)]
          have ea : aro b p = (met b p n).drop ((met b p n).idxOf (orb b p n)) := by
            unfold aro
            rw [← en, if_neg c0]
          rw [ea, List.map_drop]
          exact rpa_drop _ rm
      · -- a new one: the stores, the step
        rw [if_neg cm]
        refine iteF ?_
        have nst : stp b p n = false := by
          unfold stp
          rw [decide_eq_false c0, decide_eq_false cm]
          rfl
        have hlt : n < lst b p := by
          rcases Nat.lt_or_ge n (lst b p) with z | z
          · exact z
          · have e : n = lst b p := by omega
            rw [e, sp1] at nst
            cases nst
        have hsz : sizeLine = 16777216 := sizeLine_eq
        have nMS : M ≠ S := ne_of hm wi.hS (by intro z; cases z)
        have hm1 : (upd H1 S (.dT (putK (kvT b p n) (kP (orb b p n)) (.int (n : Nat))))) M = some (.lst ms) := by rw [upd_ne nMS]; exact hm
        have t1 : ExT H1 (upd H1 S (.dT (putK (kvT b p n) (kP (orb b p n)) (.int (n : Nat))))) := ext_updD wi.hS
        have t2 : ExT _ _ := ext_upd (ys := ms ++ [V.ref an]) hm1
        refine ⟨_, h5, M, ms, rfl, .inl (.of hm), _, h4, _, h6, S, _, rfl, DPut.t wi.hS hk (by rw [kvT_len]; omega), ?_⟩
        rw [hlm]
        refine ⟨_, h5, .inl ⟨rfl, _, .inl (.of hm1)⟩, _, h6, M, ms, _, rfl, rfl, hm1, by omega, ?_⟩
        have fr3 := fr.flat (t1.trans t2) (fW_flat b p n)
        change tE _ _ _ _ _
        refine EX.go (ex_call (ok_next_by T) hr (by decide) (by rfl) (ea_cons (ex_var 0 rfl) (ea_cons (ex_var 2 rfl) (ea_cons (ex_var 6 rfl) ea_nil))) (by walk_at "rr")) fr3 (Ex.refl _) fun v H2 e2 r2 => ?_
        obtain ⟨a2, vs2, rfl, ha2, qa2⟩ := rp_tup r2
        obtain ⟨z1, z2, rfl, w1, w2⟩ := rpa_two qa2
        cases rp_int w1
        obtain ⟨hR2, wi'⟩ := wi.turn (nds (n + 1) (by omega)) hm rm rn e2
        have hl' : σ'.length = 8 := fr.len
        refine ⟨a2, _, rfl, .of ha2, rfl, _, _, rfl, _, _, rfl, rfl, ?_⟩
        refine ⟨.ref R, by simpa [List.getElem?_set] using h3, .inl ⟨rfl, _, .inl (.of hR2)⟩, .int (fig b (orb b p n)), by simp [List.getElem?_set, hl'], R, _, _, rfl, rfl, hR2, by rw [List.length_map, figs_len]; omega, ?_⟩
        have fr4 := ((fr3.mono e2).set 7 (d := .int (fig b (orb b p n))) (.int _)).set 6 w2
        refine ⟨n + 1, by omega, by omega, wi', (fr4.flat (ext_upd hR2) (by simp [fW, noLF, noL, noLs])).le ⟨rfl, rfl, rfl, trivial⟩, ?_, ?_, ?_⟩
        · simpa [List.getElem?_set] using h3
        · simpa [List.getElem?_set] using h4
        · simpa [List.getElem?_set] using h5
local macro_rules | `(tactic| walk_at "od") => `(tactic| first | exact .inl ⟨_, _, rfl⟩ | exact .inr rfl)
local macro_rules | `(tactic| walk_at "fc") => `(tactic| first | with_reducible assumption | assumption | rfl | decide | omega | (refine ⟨?_, ?_⟩ <;> walk_at "fc"))
local macro_rules | `(tactic| walk_at "ob") => `(tactic| first | exact .inl ⟨_, _, rfl, by decide +kernel⟩ | exact .inr rfl)
local macro_rules | `(tactic| walk_at "nl") => `(tactic| first | with_reducible assumption | exact noLs_ints _ | exact noLs_dPs _ | exact noL_dP _ | assumption)
local macro_rules | `(tactic| walk_at "sd") => `(tactic| first | with_reducible assumption | assumption | rfl | omega | decide | (simp only [List.length_cons, List.length_nil, List.length_append, List.length_map, List.length_reverse]; omega))
local macro_rules | `(tactic| walk_at "rr") => `(tactic| first | (refine ⟨_, rfl, rfl⟩; done) | (refine ⟨⟨_, rfl⟩, rfl⟩; done) | (refine ⟨⟨_, rfl, ?_⟩, rfl⟩; assumption) | (refine ⟨_, _, rfl, rfl⟩; done) | (refine ⟨_, rfl, rfl, ?_⟩; walk_at "fc") | (refine ⟨_, _, rfl, rfl, ?_⟩; walk_at "fc") | (refine ⟨_, _, _, rfl, rfl, ?_⟩; walk_at "fc"))
local macro_rules | `(tactic| walk_at "sh") => `(tactic| first | exact sh_dP _ | exact sh_step _ _ | exact sh_ints _ | exact sh_pairs _ | assumption)
def R_is_whole (ds : List D) (d : D) : Prop := ∃ x : D, ds = [x] ∧ d = .bool (isW x) ∧ noOb x = true
theorem isW_eq (x : D) : (isI x && !isBl x) = isW x := by cases x <;> rfl
theorem sc_is_whole : FnScope ["thing"] ["thing"] (defScope s_is_whole) := ⟨rfl, rfl, rfl, by decide +kernel, rfl, by decide +kernel, by decide +kernel⟩
theorem ok_is_whole (T : Txt K mg cs) : CalR P w K mg base 1 "is_whole" R_is_whole := by
  refine cal_of T.d_is_whole sc_is_whole (fun ds d h => ?_) (fun f cdv A outer s H E ds d hr h => ?_)
  · obtain ⟨x, rfl, _⟩ := h
    rfl
  · obtain ⟨x, rfl, rfl, ho⟩ := h
    rw [← isW_eq x]
    exact (sxs_ret (sx_ret (ex_andB (ex_isi PyProof.Rows.boot_int (by rfl) T.b_isinstance (by rfl) T.b_int (kit_int _) (by walk_at "sd") (ex_var 0 rfl)) fun _ => (ex_one (ex_not (ex_isi PyProof.Rows.boot_bool (by rfl) T.b_isinstance (by rfl) T.b_bool (kit_bool _) (by walk_at "sd") (ex_var 0 rfl)))))))
/-- no object within the two places -/
def flatT : D → Bool
  | .tuple [a, b] => noOb a && noOb b
  | x => noOb x
def R_is_pair (ds : List D) (d : D) : Prop := ∃ x : D, ds = [x] ∧ d = .bool (isPr x) ∧ flatT x = true
theorem isPr_two (a b : D) : isPr (.tuple [a, b]) = (isW a && isW b) := by cases a <;> cases b <;> rfl
theorem isPr_len {xs : List D} (h : xs.length ≠ 2) : isPr (.tuple xs) = false := by
  match xs, h with
  | [], _ => rfl
  | [a], _ => simp [isPr]
  | [_, _], h => exact absurd rfl h
  | _ :: _ :: _ :: _, _ => simp [isPr]
theorem isPr_not {x : D} (h : isTu x = false) : isPr x = false := by cases x <;> first | rfl | cases h
theorem two_of {xs : List D} (h : xs.length = 2) : ∃ a b, xs = [a, b] := by
  match xs, h with
  | [a, b], _ => exact ⟨a, b, rfl⟩
theorem sc_is_pair : FnScope ["thing"] ["thing"] (defScope s_is_pair) := ⟨rfl, rfl, rfl, by decide +kernel, rfl, by decide +kernel, by decide +kernel⟩
theorem ok_is_pair (T : Txt K mg cs) : CalR P w K mg base 2 "is_pair" R_is_pair := by
  refine cal_of T.d_is_pair sc_is_pair (fun ds d h => ?_) (fun f cdv A outer s H E ds d hr h => ?_)
  · obtain ⟨x, rfl, _⟩ := h
    rfl
  · obtain ⟨x, rfl, rfl, ho⟩ := h
    have ho1 : noOb x = true := by
      cases x with
      | dict l => cases l <;> first | rfl | (simp [flatT, noOb] at ho)
      | _ => rfl
    refine sxs_ret (sx_ret (ex_and (k := isTu x) (fun h => by rw [isPr_not h]) (ex_isi PyProof.Rows.boot_tuple (by rfl) T.b_isinstance (by rfl) T.b_tuple (kit_tuple _) (by walk_at "sd") (ex_var 0 rfl)) fun h1 => ?_))
    obtain ⟨xs, rfl⟩ : ∃ xs, x = .tuple xs := by cases x <;> first | exact ⟨_, rfl⟩ | cases h1
    refine ex_and (k := decide ((xs.length : Int) = 2)) (fun h => ?_) (ex_eqI (ex_lenT (by rfl) T.b_len (ex_var 0 rfl)) ex_int) fun h2 => ?_
    · have := of_decide_eq_false h
      rw [isPr_len (by omega)]
    · have h2 := of_decide_eq_true h2
      obtain ⟨a, b, rfl⟩ := two_of (xs := xs) (by omega)
      rw [isPr_two]
      have hoa : noOb a = true := by simp only [flatT, Bool.and_eq_true] at ho; exact ho.1
      have hob : noOb b = true := by simp only [flatT, Bool.and_eq_true] at ho; exact ho.2
      have h0 : atI [a, b] 0 = some a := rfl
      have h1 : atI [a, b] 1 = some b := rfl
      exact ex_andB (ex_call (ok_is_whole T) hr (by decide) (by rfl) (ea_cons (ex_ixT (ex_var 0 rfl) ex_int (by walk_at "sd")) ea_nil) (by walk_at "rr")) fun _ => ex_one (ex_call (ok_is_whole T) hr (by decide) (by rfl) (ea_cons (ex_ixT (ex_var 0 rfl) ex_int (by walk_at "sd")) ea_nil) (by walk_at "rr"))
def R_check_pair (ds : List D) : Prop := ∃ p : P2, ds = [dP p]
theorem sc_check_pair : FnScope ["pair"] ["pair"] (defScope s_check_pair) := ⟨rfl, rfl, rfl, by decide +kernel, rfl, by decide +kernel, by decide +kernel⟩
theorem ok_check_pair (T : Txt K mg cs) : CalR P w K mg base 3 "check_pair" (fun ds d => R_check_pair ds ∧ d = .none) := by
  refine cal_ofN T.d_check_pair sc_check_pair (fun ds h => ?_) (fun f cdv A outer s H E ds hr h => ?_)
  · obtain ⟨p, rfl⟩ := h
    rfl
  · obtain ⟨p, rfl⟩ := h
    exact ⟨_, sxs_cons (sx_ifF (ET.to (et_not (et_val (ex_call (ok_is_pair T) hr (by decide) (by rfl) (ea_cons (ex_var 0 rfl) ea_nil) (by walk_at "rr")))) rfl) sxs_nil) sxs_nil⟩
def R_common (ds : List D) (d : D) : Prop := ∃ a b : Int, ds = [.int a, .int b] ∧ d = .int (Int.gcd a b : Nat)
theorem gcd_abs (a b : Int) : Int.gcd (absZ a) (absZ b) = Int.gcd a b := by
  have h : ∀ x : Int, (absZ x).natAbs = x.natAbs := fun x => by unfold absZ; split <;> omega
  show Nat.gcd (absZ a).natAbs (absZ b).natAbs = Nat.gcd a.natAbs b.natAbs
  rw [h, h]
theorem abs_nn (a : Int) : 0 ≤ absZ a := by unfold absZ; split <;> omega
theorem gcd_turn {a b : Int} (ha : 0 ≤ a) (hb : 0 < b) : Int.gcd b (a % b) = Int.gcd a b := by
  have e : (a % b).natAbs = a.natAbs % b.natAbs := by
    have h1 := Int.emod_nonneg a (show b ≠ 0 by omega)
    obtain ⟨n, rfl⟩ := Int.eq_ofNat_of_zero_le ha
    obtain ⟨m, rfl⟩ := Int.eq_ofNat_of_zero_le (Int.le_of_lt hb)
    rfl
  show Nat.gcd b.natAbs (a % b).natAbs = Nat.gcd a.natAbs b.natAbs
  rw [e, Nat.gcd_comm b.natAbs, ← Nat.gcd_rec, Nat.gcd_comm]
theorem sc_common : FnScope ["one", "other"] ["one", "other"] (defScope s_common) := ⟨rfl, rfl, rfl, by decide +kernel, rfl, by decide +kernel, by decide +kernel⟩
theorem ok_common (T : Txt K mg cs) : CalR P w K mg base 1 "common" R_common := by
  refine cal_of T.d_common sc_common (fun ds d h => ?_) (fun f cdv A outer s H E ds d hr h => ?_)
  · obtain ⟨a, b, rfl, _⟩ := h
    rfl
  · obtain ⟨a, b, rfl, rfl⟩ := h
    refine sxs_cons (sx_par (ex_abs (by rfl) T.b_abs (ex_var 0 rfl)) (ex_abs (by rfl) T.b_abs (ex_var 1 rfl)) rfl sc_common.nd (n := 0) (m := 1) rfl rfl (by decide) rfl rfl (by rfl)) ?_
    refine sxs_while (fun z : Int × Int => [some (.int z.1), some (.int z.2)]) (fun z => 0 ≤ z.1 ∧ 0 ≤ z.2 ∧ Int.gcd z.1 z.2 = Int.gcd a b) (fun z => z.2.toNat) (fun z => decide (0 < z.2)) (absZ a, absZ b) ⟨abs_nn a, abs_nn b, gcd_abs a b⟩ ⟨rfl, rfl, trivial⟩ PassesOwn.never (fun z _ => (et_gt (ex_var 1 rfl) ex_int)) (fun z g hk => ?_) (fun z g hk => ?_)
    · have hk := of_decide_eq_true hk
      have h1 := Int.emod_nonneg z.1 (show z.2 ≠ 0 by omega)
      have h2 := Int.emod_lt_of_pos z.1 hk
      exact ⟨(z.2, z.1 % z.2), _, ⟨g.2.1, h1, by rw [gcd_turn g.1 hk]; exact g.2.2⟩, by show (z.1 % z.2).toNat < z.2.toNat; omega, (sxs_cons (sx_par (ex_var 1 rfl) (ex_mod (by walk_at "sd") (ex_var 0 rfl) (ex_var 1 rfl)) rfl sc_common.nd (n := 0) (m := 1) rfl rfl (by decide) rfl rfl (by rfl))
      sxs_nil), ⟨rfl, rfl, trivial⟩⟩
    · have hk := of_decide_eq_false hk
      have e : (Int.gcd a b : Int) = z.1 := by
        rw [← g.2.2, show z.2 = 0 by omega, Int.gcd_zero]
        omega
      rw [e]
      exact (sxs_ret (sx_ret (ex_var 0 rfl)))
def R_check_base (ds : List D) : Prop := ∃ b : P2, ds = [dP b] ∧ IsB b
theorem sc_check_base : FnScope ["base"] ["base"] (defScope s_check_base) := ⟨rfl, rfl, rfl, by decide +kernel, rfl, by decide +kernel, by decide +kernel⟩
theorem ok_check_base (T : Txt K mg cs) : CalR P w K mg base 3 "check_base" (fun ds d => R_check_base ds ∧ d = .none) := by
  refine cal_ofN T.d_check_base sc_check_base (fun ds h => ?_) (fun f cdv A outer s H E ds hr h => ?_)
  · obtain ⟨b, rfl, _⟩ := h
    rfl
  · obtain ⟨b, rfl, hb⟩ := h
    have hB := bd_of hb
    have h1 := hb.two
    have h2 : (Int.gcd b.1 b.2 : Int) = 1 := by rw [hb.co]; rfl
    refine ⟨_, sxs_cons (sx_ifF (ET.to (ew_et (ew_or (et_not (et_val (ex_call (ok_is_pair T) hr (by decide) (by rfl) (ea_cons (ex_var 0 rfl) ea_nil) (by walk_at "rr")))) fun _ => ew_or (et_gt (ex_maxP rfl hr (by rfl) T.b_max (ex_var 0 rfl)) (ex_globI (by rfl) T.m_MOST)) fun _ => ew_or1 (et_lt (ex_minP rfl hr (by rfl) T.b_min (ex_var 0 rfl)) (ex_neg (ex_globI (by rfl) T.m_MOST))))) ?_) sxs_nil) (sxs_cons (sx_ifF (ET.to (ew_et (ew_or (et_lt (ex_call (ok_size_of T) hr (by decide) (by rfl) (ea_cons (ex_var 0 rfl) ea_nil) (by walk_at "rr")) ex_int) fun _ => ew_or1 (et_neI (ex_call (ok_common T) hr (by decide) (by rfl) (ea_cons (ex_fst (ex_var 0 rfl)) (ea_cons (ex_snd (ex_var 0 rfl)) ea_nil)) (by walk_at "rr")) ex_int))) ?_) sxs_nil) sxs_nil)⟩
    · rw [show isPr (dP b) = true from rfl, decide_eq_false (by have := hB.a2; have := hB.a4; omega), decide_eq_false (by have := hB.a1; have := hB.a3; omega)]
      rfl
    · rw [decide_eq_false (by omega), decide_eq_true h2]
      rfl
def R_times (ds : List D) (d : D) : Prop := ∃ p q : P2, ds = [dP p, dP q] ∧ d = dP (mul p q) ∧ (SmP p ∨ SmP q)
theorem sc_times : FnScope ["one", "other"] ["one", "other"] (defScope s_times) := ⟨rfl, rfl, rfl, by decide +kernel, rfl, by decide +kernel, by decide +kernel⟩
theorem ok_times (T : Txt K mg cs) : CalR P w K mg base 4 "times" R_times := by
  refine cal_of T.d_times sc_times (fun ds d h => ?_) (fun f cdv A outer s H E ds d hr h => ?_)
  · obtain ⟨p, q, rfl, _⟩ := h
    rfl
  · obtain ⟨p, q, rfl, rfl, h⟩ := h
    exact (sxs_cons (sx_expr (ex_call (ok_check_pair T) hr (by decide) (by rfl) (ea_cons (ex_var 0 rfl) ea_nil) (by walk_at "rr")))
      (sxs_cons (sx_expr (ex_call (ok_check_pair T) hr (by decide) (by rfl) (ea_cons (ex_var 1 rfl) ea_nil) (by walk_at "rr")))
      (sxs_ret (sx_ret (ex_call (ok_product T) hr (by decide) (by rfl) (ea_cons (ex_var 0 rfl) (ea_cons (ex_var 1 rfl) ea_nil)) (by walk_at "rr"))))))
def R_size (ds : List D) (d : D) : Prop := ∃ b : P2, ds = [dP b] ∧ d = .int (sz b) ∧ IsB b
theorem sc_size : FnScope ["base"] ["base"] (defScope s_size) := ⟨rfl, rfl, rfl, by decide +kernel, rfl, by decide +kernel, by decide +kernel⟩
theorem ok_size (T : Txt K mg cs) : CalR P w K mg base 4 "size" R_size := by
  refine cal_of T.d_size sc_size (fun ds d h => ?_) (fun f cdv A outer s H E ds d hr h => ?_)
  · obtain ⟨p, rfl, _⟩ := h
    rfl
  · obtain ⟨b, rfl, rfl, hb⟩ := h
    have hB := bd_of hb
    exact (sxs_cons (sx_expr (ex_call (ok_check_base T) hr (by decide) (by rfl) (ea_cons (ex_var 0 rfl) ea_nil) (by walk_at "rr")))
      (sxs_ret (sx_ret (ex_call (ok_size_of T) hr (by decide) (by rfl) (ea_cons (ex_var 0 rfl) ea_nil) (by walk_at "rr")))))
def R_step (ds : List D) (d : D) : Prop := ∃ b p : P2, ds = [dP b, dP p] ∧ d = .tuple [.int (fig b p), dP (nxt b p)] ∧ IsB b
theorem sc_step : FnScope ["base", "pair"] ["base", "pair"] (defScope s_step) := ⟨rfl, rfl, rfl, by decide +kernel, rfl, by decide +kernel, by decide +kernel⟩
theorem ok_step (T : Txt K mg cs) : CalR P w K mg base 4 "step" R_step := by
  refine cal_of T.d_step sc_step (fun ds d h => ?_) (fun f cdv A outer s H E ds d hr h => ?_)
  · obtain ⟨b, p, rfl, _⟩ := h
    rfl
  · obtain ⟨b, p, rfl, rfl, hb⟩ := h
    exact (sxs_cons (sx_expr (ex_call (ok_check_base T) hr (by decide) (by rfl) (ea_cons (ex_var 0 rfl) ea_nil) (by walk_at "rr")))
      (sxs_cons (sx_expr (ex_call (ok_check_pair T) hr (by decide) (by rfl) (ea_cons (ex_var 1 rfl) ea_nil) (by walk_at "rr")))
      (sxs_ret (sx_ret (ex_call (ok_next_by T) hr (by decide) (by rfl) (ea_cons (ex_var 0 rfl) (ea_cons (ex_call (ok_weight_of T) hr (by decide) (by rfl) (ea_cons (ex_var 0 rfl) ea_nil) (by walk_at "rr")) (ea_cons (ex_var 1 rfl) ea_nil))) (by walk_at "rr"))))))
/-! ### the answers -/
theorem sc_Told___init__ : FnScope ["self", "row"] ["self", "row"] (defScope s_Told___init__) := ⟨rfl, rfl, rfl, by decide +kernel, rfl, by decide +kernel, by decide +kernel⟩
theorem mak_Told (T : Txt K mg cs) : Mak P w K mg base 1 "Told" cs.Told (spInL cs.Told "row") := by
  obtain ⟨f, fd, M, F, b⟩ := T.mk_Told.ex
  refine ⟨f, fd, _, M, F.ok sc_Told___init__ (fun vs H Q E h => ?_) (fun cdv A outer s H vs Q E hr h => ?_), T.mk_Told.mgC, b⟩
  · obtain ⟨x, dx, v, ds, rfl, _⟩ := h
    rfl
  · obtain ⟨x, dx, v, ds, rfl, hx, rv, hn, q⟩ := h
    refine ⟨_, pss_one (ps_fld (pv 0) (pe_callTy call_list_of (by rfl) T.b_list PyProof.Rows.boot_list (pa_cons (pv 1) pa_nil)) rfl), ?_⟩
    obtain ⟨p, ys, rfl, hp, qa⟩ := rp_lst rv
    refine ⟨_, rfl, p, ys, rfl, .inl (.of hp), fun l hl => ?_⟩
    have nxl : x ≠ l := ne_of_none hx hl
    refine ⟨_, rfl, x, cs.Told, dx, [], rfl, by rw [upd_ne nxl]; exact hx, T.cl_Told, T.na_Told, by show 0 < 1000; decide, ?_⟩
    have e : ExT H (upd (upd H l (.lst ys)) x (.ins cs.Told dx (putF "row" (V.ref l) []))) := fun b zs hb => by
      rw [upd_ne (ne_of hb hx (by intro z; cases z)), upd_ne (ne_of_none hb hl)]
      exact hb
    refine q _ l ys hl (fun b o hb ho => ?_) upd_same (by rw [upd_ne nxl.symm, upd_same]) (rpa_flat e qa hn)
    rw [upd_ne hb, upd_ne (ne_of_none ho hl)]
    exact ho
theorem sc_Round___init__ : FnScope ["self", "pairs"] ["self", "pairs"] (defScope s_Round___init__) := ⟨rfl, rfl, rfl, by decide +kernel, rfl, by decide +kernel, by decide +kernel⟩
theorem mak_Round (T : Txt K mg cs) : Mak P w K mg base 1 "Round" cs.Round (spInL cs.Round "pairs") := by
  obtain ⟨f, fd, M, F, b⟩ := T.mk_Round.ex
  refine ⟨f, fd, _, M, F.ok sc_Round___init__ (fun vs H Q E h => ?_) (fun cdv A outer s H vs Q E hr h => ?_), T.mk_Round.mgC, b⟩
  · obtain ⟨x, dx, v, ds, rfl, _⟩ := h
    rfl
  · obtain ⟨x, dx, v, ds, rfl, hx, rv, hn, q⟩ := h
    refine ⟨_, pss_one (ps_fld (pv 0) (pe_callTy call_list_of (by rfl) T.b_list PyProof.Rows.boot_list (pa_cons (pv 1) pa_nil)) rfl), ?_⟩
    obtain ⟨p, ys, rfl, hp, qa⟩ := rp_lst rv
    refine ⟨_, rfl, p, ys, rfl, .inl (.of hp), fun l hl => ?_⟩
    have nxl : x ≠ l := ne_of_none hx hl
    refine ⟨_, rfl, x, cs.Round, dx, [], rfl, by rw [upd_ne nxl]; exact hx, T.cl_Round, T.na_Round, by show 0 < 1000; decide, ?_⟩
    have e : ExT H (upd (upd H l (.lst ys)) x (.ins cs.Round dx (putF "pairs" (V.ref l) []))) := fun b zs hb => by
      rw [upd_ne (ne_of hb hx (by intro z; cases z)), upd_ne (ne_of_none hb hl)]
      exact hb
    refine q _ l ys hl (fun b o hb ho => ?_) upd_same (by rw [upd_ne nxl.symm, upd_same]) (rpa_flat e qa hn)
    rw [upd_ne hb, upd_ne (ne_of_none ho hl)]
    exact ho
def ansD (cs : Cs) (b p : P2) : D := if aro b p = [] then obD cs.Told "row" (dI (row b p)) else obD cs.Round "pairs" (dPs (aro b p))
/-- told's promise: the object x, its list l, both new -/
def spTold (cs : Cs) : Sp := fun vs H Q _ => ∃ b p : P2, RpA H vs [dP b, dP p] ∧ IsB b ∧ norm p < 2 ^ 2000 ∧ ∀ (H' : Hp) (x dx l : Addr) (us : List V), Ex H H' → H x = none → H l = none → H' l = some (.lst us) →
  ((aro b p = [] ∧ H' x = some (.ins cs.Told dx [("row", .ref l)]) ∧ RpA H' us ((row b p).map PyData.int)) ∨ (aro b p ≠ [] ∧ H' x = some (.ins cs.Round dx [("pairs", .ref l)]) ∧ RpA H' us ((aro b p).map dP))) → Q (.ref x) H'
def R_told (cs : Cs) (ds : List D) (d : D) : Prop := ∃ b p : P2, ds = [dP b, dP p] ∧ d = ansD cs b p ∧ IsB b ∧ norm p < 2 ^ 2000
theorem sc_told : FnScope ["base", "pair", "row", "around"] ["base", "pair"] (defScope s_told) := ⟨rfl, rfl, rfl, by decide +kernel, rfl, by decide +kernel, by decide +kernel⟩
theorem ok_toldF (T : Txt K mg cs) : Cal P w K mg base 6 "told" (spTold cs) := by
  refine cal_sp T.d_told sc_told (fun vs H Q E h => ?_) (fun f cdv A outer s H0 E H vs Q hr h => ?_)
  · obtain ⟨b, p, h, _⟩ := h
    exact rpa_len h
  · obtain ⟨b, p, h, hb, hp, q⟩ := h
    refine tSs_cons (sx_expr (ex_call (ok_check_base T) hr (by decide) (by rfl) (ea_cons (ex_var 0 rfl) ea_nil) (by walk_at "rr"))) (fr_start _ h) fun σ1 H1 e1 f1 => ?_
    refine tSs_cons (sx_expr (ex_call (ok_check_pair T) hr (by decide) (by rfl) (ea_cons (ex_var 1 rfl) ea_nil) (by walk_at "rr"))) f1 fun σ2 H2 e2 f2 => ?_
    refine tSs_cons (sx_unpack [2, 3] (ex_call (ok_told_by T) hr (by decide) (by rfl) (ea_cons (ex_var 0 rfl) (ea_cons (ex_var 1 rfl) ea_nil)) (by walk_at "rr")) rfl rfl (pgs_cons (pg_name (i := 2) sc_told.nd rfl (.inl rfl)) (pgs_cons (pg_name (i := 3) sc_told.nd rfl (.inl rfl)) pgs_nil)) rfl) f2 fun σ3 H3 e3 f3 => ?_
    have e := (e1.trans e2).trans e3
    refine tSs_ps (ps_ret (pe_ifExp (trT _) (pe_mak (mak_Told T) hr (by decide) (by rfl) (trA _)) (pe_mak (mak_Round T) hr (by decide) (by rfl) (trA _)))) ?_
    refine ET.go (ET.to (et_eqD hr (sh_pairs _) (sh_ints []) (ex_var 3 rfl) (ex_lst ea_nil)) (eqv_dPs _ [])) f3 (Ex.refl _) fun H4 e4 => ?_
    by_cases c : aro b p = []
    · rw [decide_eq_true c]
      refine iteT (mk_go f3 e4 (ex_var 2 rfl) (noLs_ints _) rfl fun H' x dx l us e5 hx hl h1 h2 h3 => ?_)
      have e6 := e.trans e4
      exact q H' x dx l us (e6.trans e5) (fresh_back e6 hx) (fresh_back e6 hl) h2 (.inl ⟨c, h1, h3⟩)
    · rw [decide_eq_false c]
      refine iteF (mk_go f3 e4 (ex_var 3 rfl) (noLs_dPs _) rfl fun H' x dx l us e5 hx hl h1 h2 h3 => ?_)
      have e6 := e.trans e4
      exact q H' x dx l us (e6.trans e5) (fresh_back e6 hx) (fresh_back e6 hl) h2 (.inr ⟨c, h1, h3⟩)
theorem ok_told (T : Txt K mg cs) : CalR P w K mg base 6 "told" (R_told cs) := by
  obtain ⟨f, fd, ps, F, h1, h2, h3⟩ := (ok_toldF (P := P) (w := w) (base := base) T).ex
  refine ⟨f, fd, ps, F.imp fun vs H Q E h => ?_, h1, h2, h3⟩
  obtain ⟨ds, d, h, ⟨b, p, rfl, rfl, hb, hp⟩, q⟩ := h
  refine ⟨b, p, h, hb, hp, fun H' x dx l us e _ _ hl z => q _ _ e ?_⟩
  unfold ansD
  rcases z with ⟨c, hx, r⟩ | ⟨c, hx, r⟩
  · rw [if_pos c]
    exact .ob hx (.lst hl r)
  · rw [if_neg c]
    exact .ob hx (.lst hl r)
/-! ### what the answers say -/
def inR (n : Int) : D → D
  | .int f => .bool (decide (0 ≤ f) && decide (f < n))
  | _ => .bool false
theorem inR_map (n : Int) (r : List Int) : (r.map PyData.int).map (inR n) = (r.map fun f => decide (0 ≤ f) && decide (f < n)).map PyData.bool := by
  rw [List.map_map, List.map_map]
  rfl
theorem inR_noL (n : Int) (d : D) : noL (inR n d) = true := by cases d <;> simp [inR, noL]
theorem all_id (bs : List Bool) : bs.all id = bs.all fun b => b := rfl
theorem all_inR (n : Int) (r : List Int) : (r.map fun f => decide (0 ≤ f) && decide (f < n)).all id = r.all fun f => decide (0 ≤ f) && decide (f < n) := by
  rw [List.all_map]
  rfl
theorem last_at {r : List Int} (h : r ≠ []) : atI (r.map PyData.int) (-1) = some (.int (r.getLastD 1)) := by
  obtain ⟨l, x, rfl⟩ : ∃ l x, r = l ++ [x] := ⟨r.dropLast, r.getLast h, (List.dropLast_concat_getLast h).symm⟩
  rw [List.map_append, List.map_singleton, atI_last, List.getLastD_eq_getLast?, List.getLast?_concat]
  rfl
/-- the last figure's test -/
theorem last_test (r : List Int) : (decide (r = []) || !decide (r.getLast? = some 0)) = (decide (r = []) || !decide (r.getLastD 1 = 0)) := by
  rw [List.getLastD_eq_getLast?]
  cases h : r.getLast? with
  | none =>
    have := List.getLast?_eq_none_iff.mp h
    rw [decide_eq_true this, Bool.true_or, Bool.true_or]
  | some x =>
    congr 2
    simp
theorem sz_small {b : P2} (h : Bd b) : sz b ≤ 1800 := by
  have h1 := sq_le h.a1 h.a2
  have h2 := sq_le h.a3 h.a4
  unfold sz
  omega
def isRound (ar ps : List P2) : Bool := !decide (ar = []) && (decide (ps.length = ar.length) && match ps with
  | [] => false
  | q :: _ => decide (q ∈ ar) && decide (ps = ar.drop (ar.idxOf q) ++ ar.take (ar.idxOf q)))
theorem cutD_from {α : Type} (xs : List α) {k : Nat} (h : k ≤ xs.length) : cutD xs (some (k : Int)) none = xs.drop k := by
  unfold cutD
  rw [HT.sIx_nat, HT.sIx_none, Nat.min_eq_left h]
  exact List.take_of_length_le (by rw [List.length_drop]; omega)
theorem cutD_to {α : Type} (xs : List α) {k : Nat} (h : k ≤ xs.length) : cutD xs none (some (k : Int)) = xs.take k := by
  unfold cutD
  rw [HT.sIx_nat, HT.sIx_none, Nat.min_eq_left h, List.drop_zero, Nat.sub_zero]
theorem eqv_nil (a : List P2) : PyData.eqv (dPs a) (dI []) = decide (a = []) := eqv_dPs a []
def prB (d : D) : D := .bool (isPr d)
theorem prB_map : ∀ ps : List P2, (ps.map dP).map prB = (ps.map fun _ => true).map PyData.bool
  | [] => rfl
  | p :: ps => by
    rw [List.map_cons, List.map_cons, List.map_cons, List.map_cons, prB_map ps]
    rfl
theorem all_true {α : Type} : ∀ ps : List α, (ps.map fun _ => true).all id = true
  | [] => rfl
  | p :: ps => by
    rw [List.map_cons, List.all_cons, all_true ps]
    rfl
def whB (d : D) : D := .bool (isW d)
theorem whB_map : ∀ r : List Int, (r.map PyData.int).map whB = (r.map fun _ => true).map PyData.bool
  | [] => rfl
  | p :: ps => by
    rw [List.map_cons, List.map_cons, List.map_cons, List.map_cons, whB_map ps]
    rfl
def R_is_row (ds : List D) (d : D) : Prop := ∃ (b : P2) (r : List Int), ds = [dP b, dI r] ∧ d = .bool (isRow b r) ∧ Bd b ∧ r.length < sizeLine
theorem sc_is_row : FnScope ["base", "thing", "figure"] ["base", "thing"] (defScope s_is_row) := ⟨rfl, rfl, rfl, by decide +kernel, rfl, by decide +kernel, by decide +kernel⟩
theorem ok_is_row (T : Txt K mg cs) : CalR P w K mg base 3 "is_row" R_is_row := by
  refine cal_of T.d_is_row sc_is_row (fun ds d h => ?_) (fun f cdv A outer s H E ds d hr h => ?_)
  · obtain ⟨b, r, rfl, _⟩ := h
    rfl
  · obtain ⟨b, r, rfl, rfl, hB, hz⟩ := h
    have hz2 : (r.map PyData.int).length < sizeLine := by rw [List.length_map]; exact hz
    refine sxs_cons (sx_ifF (ET.to (ew_et (ew_or (k := false) (ET.to (et_not (et_val (ex_isi PyProof.Rows.boot_list (by rfl) T.b_isinstance (by rfl) T.b_list (kit_list _) (by walk_at "sd") (ex_var 1 rfl)))) rfl) fun _ => ew_or1 (ET.to (et_not (et_val (ex_all rfl (by rfl) T.b_all (EX.to (ex_lc (j := 2) whB rfl sc_is_row.nd hz2 (fun d _ => by simp [whB, noL]) rfl (blkOk_by (own := [("figure", 2)]) (N := ["base", "thing", "figure"]) (sc := defScope s_is_row) (by decide +kernel)) (fun _ _ _ _ _ => .inl rfl) (fun _ _ _ _ _ => .inr rfl) (ex_var 1 rfl) fun _ _ _ _ _ d hd => ?_) (congrArg PyData.list (whB_map _)))))) (by rw [all_true]; rfl)))) rfl) sxs_nil) ?_
    · obtain ⟨f, _, rfl⟩ := List.mem_map.mp hd
      exact (ex_call (ok_is_whole T) hr (by decide) (by rfl) (ea_cons (ex_var 2 rfl) ea_nil) (by walk_at "rr"))
    · unfold isRow
      rw [last_test]
      refine sxs_ret (sx_ret (ex_andB (EX.to (ex_all rfl (by rfl) T.b_all (EX.to (ex_lc (j := 2) (inR (sz b)) rfl sc_is_row.nd hz2 (fun d _ => inR_noL _ d) rfl (blkOk_by (own := [("figure", 2)]) (N := ["base", "thing", "figure"]) (sc := defScope s_is_row) (by decide +kernel)) (fun _ _ _ _ _ => .inl rfl) (fun _ _ _ _ _ => .inr rfl) (ex_var 1 rfl) fun _ _ _ _ _ d hd => ?_) (congrArg PyData.list (inR_map _ _)))) (congrArg PyData.bool (all_inR (sz b) r))) fun _ => ex_one (ex_orB (k := decide (r = [])) (EX.to (ex_eqD hr (sh_ints _) (sh_ints []) (ex_var 1 rfl) (ex_lst ea_nil)) (congrArg PyData.bool (eqv_dI r []))) fun h => ?_)))
      · obtain ⟨f, _, rfl⟩ := List.mem_map.mp hd
        exact (ex_between ex_int (ex_var 2 rfl) (ex_call (ok_size_of T) hr (by decide) (by rfl) (ea_cons (ex_var 0 rfl) ea_nil) (by walk_at "rr")))
      · have hl := last_at (of_decide_eq_false h)
        exact ex_one (ex_neI (ex_ixL (ex_var 1 rfl) (ex_neg ex_int) (by walk_at "sd")) ex_int)
def R_read (ds : List D) (d : D) : Prop := ∃ (b : P2) (r : List Int), ds = [dP b, dI r] ∧ d = dP (rd b r) ∧ IsB b ∧ isRow b r = true ∧ r.length < sizeLine
theorem sc_read : FnScope ["base", "row"] ["base", "row"] (defScope s_read) := ⟨rfl, rfl, rfl, by decide +kernel, rfl, by decide +kernel, by decide +kernel⟩
theorem ok_read (T : Txt K mg cs) : CalR P w K mg base 4 "read" R_read := by
  refine cal_of T.d_read sc_read (fun ds d h => ?_) (fun f cdv A outer s H E ds d hr h => ?_)
  · obtain ⟨b, r, rfl, _⟩ := h
    rfl
  · obtain ⟨b, r, rfl, rfl, hb, hR, hz⟩ := h
    have hB := bd_of hb
    exact sxs_cons (sx_expr (ex_call (ok_check_base T) hr (by decide) (by rfl) (ea_cons (ex_var 0 rfl) ea_nil) (by walk_at "rr"))) (sxs_cons (sx_ifF (ET.to (et_not (et_val (ex_call (ok_is_row T) hr (by decide) (by rfl) (ea_cons (ex_var 0 rfl) (ea_cons (ex_var 1 rfl) ea_nil)) (by walk_at "rr")))) (by rw [hR]; rfl)) sxs_nil) (sxs_ret (sx_ret (ex_call (ok_read_by T) hr (by decide) (by rfl) (ea_cons (ex_var 0 rfl) (ea_cons (ex_var 1 rfl) ea_nil)) (by walk_at "rr")))))
def R_lost_by (ds : List D) (d : D) : Prop := ∃ b : P2, ds = [dP b] ∧ d = dP (lostP b) ∧ IsB b
theorem any_one (z : Int) : (([1, -1] : List Int).any fun n => decide (n = z)) = (decide (z = 1) || decide (z = -1)) := by
  simp only [List.any_cons, List.any_nil, Bool.or_false]
  rw [Bool.eq_iff_iff]
  simp only [Bool.or_eq_true, decide_eq_true_eq]
  omega
theorem norm01 : norm (0, 1) < 2 ^ 2000 := by
  have : norm (0, 1) = 1 := rfl
  rw [this]
  exact Int.lt_of_lt_of_le (by decide : (1 : Int) < 2 ^ 1) (by
    have := Int.ofNat_le.mpr (Nat.pow_le_pow_right (show 0 < 2 by decide) (show 1 ≤ 2000 by decide))
    exact_mod_cast this)
theorem sc_lost_by : FnScope ["base"] ["base"] (defScope s_lost_by) := ⟨rfl, rfl, rfl, by decide +kernel, rfl, by decide +kernel, by decide +kernel⟩
theorem ok_lost_by (T : Txt K mg cs) : CalR P w K mg base 4 "lost_by" R_lost_by := by
  refine cal_of T.d_lost_by sc_lost_by (fun ds d h => ?_) (fun f cdv A outer s H E ds d hr h => ?_)
  · obtain ⟨b, rfl, _⟩ := h
    rfl
  · obtain ⟨b, rfl, rfl, hb⟩ := h
    unfold lostP
    by_cases c : b.2 = 1 ∨ b.2 = -1
    · have e : (decide (b.2 = 1) || decide (b.2 = -1)) = true := by simpa using c
      rw [if_pos c]
      by_cases a : b.1 < 0
      · rw [if_pos a]
        exact sxs_ret (sx_ifT (ET.to (ew_et (ew_and (k := true) (ET.to (et_inT [1, -1] rfl (ex_snd (ex_var 0 rfl)) (ex_pair ex_int (ex_neg ex_int))) (by rw [any_one, e])) fun _ => ew_and1 (et_lt (ex_fst (ex_var 0 rfl)) ex_int))) (by rw [decide_eq_true a]; rfl)) (sxs_ret (sx_ret (ex_pair ex_int ex_int))))
      · rw [if_neg a]
        exact sxs_cons (sx_ifF (ET.to (ew_et (ew_and (k := true) (ET.to (et_inT [1, -1] rfl (ex_snd (ex_var 0 rfl)) (ex_pair ex_int (ex_neg ex_int))) (by rw [any_one, e])) fun _ => ew_and1 (et_lt (ex_fst (ex_var 0 rfl)) ex_int))) (by rw [decide_eq_false a]; rfl)) sxs_nil) (sxs_ret (sx_ifT (ET.to (et_inT [1, -1] rfl (ex_snd (ex_var 0 rfl)) (ex_pair ex_int (ex_neg ex_int))) (by rw [any_one, e])) (sxs_ret (sx_ret (ex_pair (ex_sub ex_int (ex_fst (ex_var 0 rfl))) (ex_snd (ex_var 0 rfl)))))))
    · have e : (decide (b.2 = 1) || decide (b.2 = -1)) = false := by
        rw [Bool.or_eq_false_iff]
        exact ⟨decide_eq_false fun z => c (.inl z), decide_eq_false fun z => c (.inr z)⟩
      rw [if_neg c]
      have n := lost_one hb (fun z => c (.inl z)) (fun z => c (.inr z))
      have h01 := norm01
      refine sxs_cons (sx_ifF (ET.to (ew_et (ew_andF (ET.to (et_inT [1, -1] rfl (ex_snd (ex_var 0 rfl)) (ex_pair ex_int (ex_neg ex_int))) (by rw [any_one, e])))) rfl) sxs_nil) (sxs_cons (sx_ifF (ET.to (et_inT [1, -1] rfl (ex_snd (ex_var 0 rfl)) (ex_pair ex_int (ex_neg ex_int))) (by rw [any_one, e])) sxs_nil) ?_)
      cases q : aro b (0, 1) with
      | nil => exact absurd q n
      | cons x r =>
        have h0 : atI ((aro b (0, 1)).map dP) 0 = some (dP x) := by rw [q]; exact atI_nat (j := 0) rfl
        exact (sxs_ret (sx_ret (ex_ixL (ex_ixT (ex_call (ok_told_by T) hr (by decide) (by rfl) (ea_cons (ex_var 0 rfl) (ea_cons (ex_pair ex_int ex_int) ea_nil)) (by walk_at "rr")) ex_int rfl) ex_int (by walk_at "sd"))))
theorem sc__law_common : FnScope ["_law_one", "_law_other"] ["_law_one", "_law_other"] (defScope s__law_common) := ⟨rfl, rfl, rfl, by decide +kernel, rfl, by decide +kernel, by decide +kernel⟩
theorem ok__law_common (T : Txt K mg cs) : CalR P w K mg base 1 "_law_common" R_common := by
  refine cal_of T.d__law_common sc__law_common (fun ds d h => ?_) (fun f cdv A outer s H E ds d hr h => ?_)
  · obtain ⟨a, b, rfl, _⟩ := h
    rfl
  · obtain ⟨a, b, rfl, rfl⟩ := h
    refine sxs_cons (sx_par (ex_abs (by rfl) T.b_abs (ex_var 0 rfl)) (ex_abs (by rfl) T.b_abs (ex_var 1 rfl)) rfl sc__law_common.nd (n := 0) (m := 1) rfl rfl (by decide) rfl rfl (by rfl)) ?_
    refine sxs_while (fun z : Int × Int => [some (.int z.1), some (.int z.2)]) (fun z => 0 ≤ z.1 ∧ 0 ≤ z.2 ∧ Int.gcd z.1 z.2 = Int.gcd a b) (fun z => z.2.toNat) (fun z => decide (0 < z.2)) (absZ a, absZ b) ⟨abs_nn a, abs_nn b, gcd_abs a b⟩ ⟨rfl, rfl, trivial⟩ PassesOwn.never (fun z _ => (et_gt (ex_var 1 rfl) ex_int)) (fun z g hk => ?_) (fun z g hk => ?_)
    · have hk := of_decide_eq_true hk
      have h1 := Int.emod_nonneg z.1 (show z.2 ≠ 0 by omega)
      have h2 := Int.emod_lt_of_pos z.1 hk
      exact ⟨(z.2, z.1 % z.2), _, ⟨g.2.1, h1, by rw [gcd_turn g.1 hk]; exact g.2.2⟩, by show (z.1 % z.2).toNat < z.2.toNat; omega, (sxs_cons (sx_par (ex_var 1 rfl) (ex_mod (by walk_at "sd") (ex_var 0 rfl) (ex_var 1 rfl)) rfl sc__law_common.nd (n := 0) (m := 1) rfl rfl (by decide) rfl rfl (by rfl))
      sxs_nil), ⟨rfl, rfl, trivial⟩⟩
    · have hk := of_decide_eq_false hk
      have e : (Int.gcd a b : Int) = z.1 := by
        rw [← g.2.2, show z.2 = 0 by omega, Int.gcd_zero]
        omega
      rw [e]
      exact (sxs_ret (sx_ret (ex_var 0 rfl)))
theorem sc__law_size : FnScope ["_law_base_here"] ["_law_base_here"] (defScope s__law_size) := ⟨rfl, rfl, rfl, by decide +kernel, rfl, by decide +kernel, by decide +kernel⟩
theorem ok__law_size (T : Txt K mg cs) : CalR P w K mg base 1 "_law_size" R_size_of := by
  refine cal_of T.d__law_size sc__law_size (fun ds d h => ?_) (fun f cdv A outer s H E ds d hr h => ?_)
  · obtain ⟨b, rfl, _⟩ := h
    rfl
  · obtain ⟨b, rfl, rfl, hb⟩ := h
    have h1 := hb.sm.1.l (j := b.1)
    have h2 := hb.sm.2.l (j := b.2)
    exact (sxs_ret (sx_ret (ex_add (ex_mul (by walk_at "sd") (ex_fst (ex_var 0 rfl)) (ex_fst (ex_var 0 rfl))) (ex_mul (by walk_at "sd") (ex_snd (ex_var 0 rfl)) (ex_snd (ex_var 0 rfl))))))
/-! ### the law's numbers -/
def cellA (ns : List Int) (k : Int) : Int := ns.getD k.toNat 0
theorem atI_ints (ns : List Int) {i : Int} (z : Int) (h0 : 0 ≤ i) (h1 : i < ns.length) : atI (ns.map PyData.int) i = some (.int (ns.getD i.toNat z)) := by
  obtain ⟨n, rfl⟩ := Int.eq_ofNat_of_zero_le h0
  have hn : n < ns.length := by omega
  refine atI_nat (j := n) ?_
  rw [List.getElem?_map, List.getElem?_eq_getElem hn]
  have e : ns.getD ((n : Int)).toNat z = ns[n] := by
    rw [Int.toNat_natCast, List.getD_eq_getElem?_getD, List.getElem?_eq_getElem hn]
    rfl
  rw [e]
  rfl
def R_cell_at (ds : List D) (d : D) : Prop := ∃ (ns : List Int) (k : Int), ds = [dI ns, .int k] ∧ d = .int (cellA ns k) ∧ 0 ≤ k
theorem sc__law_cell_at : FnScope ["_law_script", "_law_k"] ["_law_script", "_law_k"] (defScope s__law_cell_at) := ⟨rfl, rfl, rfl, by decide +kernel, rfl, by decide +kernel, by decide +kernel⟩
theorem ok__law_cell_at (T : Txt K mg cs) : CalR P w K mg base 1 "_law_cell_at" R_cell_at := by
  refine cal_of T.d__law_cell_at sc__law_cell_at (fun ds d h => ?_) (fun f cdv A outer s H E ds d hr h => ?_)
  · obtain ⟨ns, k, rfl, _⟩ := h
    rfl
  · obtain ⟨ns, k, rfl, rfl, h0⟩ := h
    have hl : ((ns.map PyData.int).length : Int) = ns.length := by rw [List.length_map]
    by_cases c : k < ns.length
    · have ha : atI (ns.map PyData.int) k = some (.int (cellA ns k)) := atI_ints ns 0 h0 c
      exact sxs_ret (sx_ifT (ET.to (et_lt (ex_var 1 rfl) (ex_lenL (by rfl) T.b_len (ex_var 0 rfl))) (by rw [hl]; exact decide_eq_true c)) (sxs_ret (sx_ret (ex_ixL (ex_var 0 rfl) (ex_var 1 rfl) (by walk_at "sd")))))
    · have e : cellA ns k = 0 := by
        unfold cellA
        rw [List.getD_eq_getElem?_getD, List.getElem?_eq_none (by omega)]
        rfl
      rw [e]
      exact sxs_cons (sx_ifF (ET.to (et_lt (ex_var 1 rfl) (ex_lenL (by rfl) T.b_len (ex_var 0 rfl))) (by rw [hl]; exact decide_eq_false c)) sxs_nil) (sxs_ret (sx_ret ex_int))
def prZ : List Int := [1000003, 1000033, 1000037, 1000039, 1000081, 1000099, 1000117, 1000121, 1000133, 1000151, 1000159, 1000171, 1000183, 1000187, 1000193, 1000199]
def drawZ (c k m : Int) : Int := (c * 48271 + k * 69621) % prZ.getD (k % 16).toNat 1 % m
theorem prZ_pos : ∀ n : Nat, 0 < prZ.getD n 1 := by
  intro n
  rw [List.getD_eq_getElem?_getD]
  cases h : prZ[n]? with
  | none => decide
  | some x =>
    have hm := List.mem_of_getElem? h
    have : ∀ x ∈ prZ, (0 : Int) < x := by decide
    exact this x hm
theorem drawZ_lo (c k : Int) {m : Int} (h : 0 < m) : 0 ≤ drawZ c k m := Int.emod_nonneg _ (by omega)
theorem drawZ_hi (c k : Int) {m : Int} (h : 0 < m) : drawZ c k m < m := Int.emod_lt_of_pos _ h
def R_draw (ds : List D) (d : D) : Prop := ∃ c k m : Int, ds = [.int c, .int k, .int m] ∧ d = .int (drawZ c k m) ∧ 0 < m
theorem sc__law_draw : FnScope ["_law_cell", "_law_k", "_law_many", "_law_primes"] ["_law_cell", "_law_k", "_law_many"] (defScope s__law_draw) := ⟨rfl, rfl, rfl, by decide +kernel, rfl, by decide +kernel, by decide +kernel⟩
theorem ok__law_draw (T : Txt K mg cs) : CalR P w K mg base 1 "_law_draw" R_draw := by
  refine cal_of T.d__law_draw sc__law_draw (fun ds d h => ?_) (fun f cdv A outer s H E ds d hr h => ?_)
  · obtain ⟨c, k, m, rfl, _⟩ := h
    rfl
  · obtain ⟨c, k, m, rfl, rfl, hm⟩ := h
    have h1 : IntMulOk c 48271 := Sm.r (by unfold Sm; omega)
    have h2 : IntMulOk k 69621 := Sm.r (by unfold Sm; omega)
    have k0 := Int.emod_nonneg k (show (16 : Int) ≠ 0 by decide)
    have k1 := Int.emod_lt_of_pos k (show (0 : Int) < 16 by decide)
    obtain ⟨z, e, ha, hp⟩ : ∃ z : Int, drawZ c k m = (c * 48271 + k * 69621) % z % m ∧ atI [PyData.int 1000003, .int 1000033, .int 1000037, .int 1000039, .int 1000081, .int 1000099, .int 1000117, .int 1000121, .int 1000133, .int 1000151, .int 1000159, .int 1000171, .int 1000183, .int 1000187, .int 1000193, .int 1000199] (k % 16) = some (.int z) ∧ 0 < z :=
      ⟨prZ.getD (k % 16).toNat 1, rfl, atI_ints prZ 1 k0 k1, prZ_pos (k % 16).toNat⟩
    rw [e]
    exact (sxs_cons (sx_set 3 (ex_tup (ea_cons ex_int (ea_cons ex_int (ea_cons ex_int (ea_cons ex_int (ea_cons ex_int (ea_cons ex_int (ea_cons ex_int (ea_cons ex_int (ea_cons ex_int (ea_cons ex_int (ea_cons ex_int (ea_cons ex_int (ea_cons ex_int (ea_cons ex_int (ea_cons ex_int (ea_cons ex_int ea_nil))))))))))))))))) sc__law_draw.nd rfl (.inl rfl))
      (sxs_ret (sx_ret (ex_mod (by walk_at "sd") (ex_mod (by walk_at "sd") (ex_add (ex_mul (by walk_at "sd") (ex_var 0 rfl) ex_int) (ex_mul (by walk_at "sd") (ex_var 1 rfl) ex_int)) (ex_ixT (ex_var 3 rfl) (ex_mod (by walk_at "sd") (ex_var 1 rfl) ex_int) (by walk_at "sd"))) (ex_var 2 rfl)))))
@[irreducible] def p10 (j : Int) : Int := 10 ^ j.toNat
theorem p10_pos (j : Int) : 0 < p10 j := by unfold p10; exact Int.pow_pos (by decide)
theorem p10_40 : p10 40 = 10 ^ 40 := by unfold p10; rfl
theorem ex_p10 {X : Cx} {ds : DF} {j : Int} {k1 k2 : Nat} {p1 p2 p3 : Pos} (h : (0 ≤ j ∧ j ≤ 1000000)) : EX X (.BinOp (.Constant (.int 10) k1 p1) .Pow (.Constant (.int j) k2 p2) p3) ds (.int (p10 j)) :=
  EX.to (ex_pow ⟨h.1, h.2, by decide⟩ ex_int ex_int) (by unfold p10; rfl)
def valZ (c k m : Int) : Int := if p10 18 ≤ c then (c - p10 18) % p10 40 else drawZ ((c + 977 * k) * (c + 31 * k + 5)) (k % 9 + 1) m
theorem p10_big : 900000 ≤ p10 40 := by rw [p10_40]; decide
theorem p40 : (0 : Int) < p10 40 := p10_pos 40
theorem valZ_lo (c k : Int) {m : Int} (h : 0 < m) : 0 ≤ valZ c k m := by
  unfold valZ
  split
  · exact Int.emod_nonneg _ (Int.ne_of_gt p40)
  · exact drawZ_lo _ _ h
theorem valZ_hi (c k : Int) {m : Int} (h : 0 < m) (h2 : m ≤ 900000) : valZ c k m < 10 ^ 40 := by
  rw [← p10_40]
  unfold valZ
  split
  · exact Int.emod_lt_of_pos _ p40
  · have := drawZ_hi ((c + 977 * k) * (c + 31 * k + 5)) (k % 9 + 1) h
    have := p10_big
    omega
def R_value (ds : List D) (d : D) : Prop := ∃ c k m : Int, ds = [.int c, .int k, .int m] ∧ d = .int (valZ c k m) ∧ 0 < m ∧ IntMulOk (c + 977 * k) (c + 31 * k + 5) ∧ Sm k
theorem sc__law_value : FnScope ["_law_cell", "_law_k", "_law_limit"] ["_law_cell", "_law_k", "_law_limit"] (defScope s__law_value) := ⟨rfl, rfl, rfl, by decide +kernel, rfl, by decide +kernel, by decide +kernel⟩
theorem ok__law_value (T : Txt K mg cs) : CalR P w K mg base 2 "_law_value" R_value := by
  refine cal_of T.d__law_value sc__law_value (fun ds d h => ?_) (fun f cdv A outer s H E ds d hr h => ?_)
  · obtain ⟨c, k, m, rfl, _⟩ := h
    rfl
  · obtain ⟨c, k, m, rfl, rfl, hm, hi, hk⟩ := h
    have h40 := p40
    have h1 : IntMulOk 977 k := hk.r
    have h2 : IntMulOk 31 k := hk.r
    by_cases c0 : p10 18 ≤ c
    · rw [show valZ c k m = (c - p10 18) % p10 40 from if_pos c0]
      exact sxs_ret (sx_ifT (ET.to (et_ge (ex_var 0 rfl) (ex_p10 (by decide))) (decide_eq_true c0)) (sxs_ret (sx_ret (ex_mod (by walk_at "sd") (ex_sub (ex_var 0 rfl) (ex_p10 (by decide))) (ex_p10 (by decide))))))
    · rw [show valZ c k m = _ from if_neg c0]
      exact sxs_cons (sx_ifF (ET.to (et_ge (ex_var 0 rfl) (ex_p10 (by decide))) (decide_eq_false c0)) sxs_nil) (sxs_ret (sx_ret (ex_call (ok__law_draw T) hr (by decide) (by rfl) (ea_cons (ex_mul (by walk_at "sd") (ex_add (ex_var 0 rfl) (ex_mul (by walk_at "sd") ex_int (ex_var 1 rfl))) (ex_add (ex_add (ex_var 0 rfl) (ex_mul (by walk_at "sd") ex_int (ex_var 1 rfl))) ex_int)) (ea_cons (ex_add (ex_mod (by walk_at "sd") (ex_var 1 rfl) ex_int) ex_int) (ea_cons (ex_var 2 rfl) ea_nil))) (by walk_at "rr"))))
/-! ### the law's bases and pairs -/
def okB (m t : Int) : Bool := decide (Int.gcd m t = 1) && decide (2 ≤ m * m + t * t)
def trB (t : Int) : Int := if t < 30 then t + 1 else -30
/-- how far it is to 1 -/
def msB (t : Int) : Nat := (if t ≤ 1 then 1 - t else 62 - t).toNat
def lpB (m : Int) : Nat → Int → Int
  | 0, t => t
  | n + 1, t => if okB m t = true then t else lpB m n (trB t)
theorem lpB_ok {m t : Int} (h : okB m t = true) : ∀ n, lpB m n t = t
  | 0 => rfl
  | n + 1 => if_pos h
theorem okB_one {m : Int} (h : m ≠ 0) : okB m 1 = true := by
  unfold okB
  have h1 : Int.gcd m 1 = 1 := by rw [Int.gcd_one_right]
  have h2 := sq_nn m
  have h3 : m * m ≠ 0 := Int.mul_ne_zero h h
  rw [decide_eq_true h1, decide_eq_true (by omega)]
  rfl
theorem msB_turn {m t : Int} (hm : m ≠ 0) (h1 : -30 ≤ t) (h2 : t ≤ 30) (h : okB m t = false) : msB t = msB (trB t) + 1 ∧ -30 ≤ trB t ∧ trB t ≤ 30 := by
  have n1 : t ≠ 1 := fun e => by rw [e, okB_one hm] at h; cases h
  unfold trB msB
  split <;> (split <;> omega)
theorem lpB_end {m : Int} (hm : m ≠ 0) : ∀ (n : Nat) (t : Int), msB t ≤ n → -30 ≤ t → t ≤ 30 → okB m (lpB m n t) = true ∧ -30 ≤ lpB m n t ∧ lpB m n t ≤ 30 := by
  intro n
  induction n with
  | zero =>
    intro t hn h1 h2
    have e : t = 1 := by unfold msB at hn; split at hn <;> omega
    subst e
    exact ⟨okB_one hm, by show (-30 : Int) ≤ 1; decide, by show (1 : Int) ≤ 30; decide⟩
  | succ n ih =>
    intro t hn h1 h2
    cases q : okB m t with
    | true =>
      rw [lpB_ok q]
      exact ⟨q, h1, h2⟩
    | false =>
      obtain ⟨a, b, c⟩ := msB_turn hm h1 h2 q
      have e : lpB m (n + 1) t = lpB m n (trB t) := by
        show (if okB m t = true then t else lpB m n (trB t)) = _
        rw [q]
        rfl
      rw [e]
      exact ih _ (by omega) b c
def mnB (ns : List Int) (k : Int) : Int := drawZ (cellA ns k % p10 18) (k % 7 + 2) 61 - 30
def thB (ns : List Int) (k : Int) : Int := drawZ (cellA ns k % p10 18) (k % 5 + 9) 61 - 30
def kdB (ns : List Int) (k : Int) : Int := drawZ (cellA ns k % p10 18 + 31 * k) 6 4
def mn1 (ns : List Int) (k : Int) : Int := if kdB ns k < 2 then (if kdB ns k = 0 then -1 - absZ (mnB ns k) % 30 else 1 + absZ (mnB ns k) % 30) else mnB ns k
def th1 (ns : List Int) (k : Int) : Int := if kdB ns k < 2 then (if absZ (thB ns k) % 2 = 0 then 1 else -1) else thB ns k
def mn2 (ns : List Int) (k : Int) : Int := if mn1 ns k ≠ 0 then mn1 ns k else 7
def baseZ (ns : List Int) (k : Int) : P2 := (mn2 ns k, lpB (mn2 ns k) (msB (th1 ns k)) (th1 ns k))
theorem mnB_b (ns : List Int) (k : Int) : -30 ≤ mnB ns k ∧ mnB ns k ≤ 30 := by
  unfold mnB
  have h1 := drawZ_lo (cellA ns k % p10 18) (k % 7 + 2) (m := 61) (by decide)
  have h2 := drawZ_hi (cellA ns k % p10 18) (k % 7 + 2) (m := 61) (by decide)
  omega
theorem thB_b (ns : List Int) (k : Int) : -30 ≤ thB ns k ∧ thB ns k ≤ 30 := by
  unfold thB
  have h1 := drawZ_lo (cellA ns k % p10 18) (k % 5 + 9) (m := 61) (by decide)
  have h2 := drawZ_hi (cellA ns k % p10 18) (k % 5 + 9) (m := 61) (by decide)
  omega
theorem mn1_b (ns : List Int) (k : Int) : -30 ≤ mn1 ns k ∧ mn1 ns k ≤ 30 := by
  have h := mnB_b ns k
  unfold mn1
  split
  · split <;> omega
  · exact h
theorem mn2_b (ns : List Int) (k : Int) : -30 ≤ mn2 ns k ∧ mn2 ns k ≤ 30 ∧ mn2 ns k ≠ 0 := by
  have h := mn1_b ns k
  unfold mn2
  split
  · exact ⟨h.1, h.2, by assumption⟩
  · decide
theorem th1_b (ns : List Int) (k : Int) : -30 ≤ th1 ns k ∧ th1 ns k ≤ 30 := by
  have h := thB_b ns k
  unfold th1
  split
  · split <;> omega
  · exact h
theorem baseZ_is (ns : List Int) (k : Int) : IsB (baseZ ns k) := by
  obtain ⟨a, b, c⟩ := mn2_b ns k
  obtain ⟨d, e⟩ := th1_b ns k
  obtain ⟨f, g, h⟩ := lpB_end c (msB (th1 ns k)) (th1 ns k) (Nat.le_refl _) d e
  unfold okB at f
  rw [Bool.and_eq_true] at f
  exact ⟨a, b, g, h, of_decide_eq_true f.1, of_decide_eq_true f.2⟩
def R_base (ds : List D) (d : D) : Prop := ∃ (ns : List Int) (k : Int), ds = [dI ns, .int k] ∧ d = dP (baseZ ns k) ∧ 0 ≤ k
theorem sc__law_base : FnScope ["_law_script", "_law_k", "_law_cell", "_law_kind", "_law_mine", "_law_theirs"] ["_law_script", "_law_k"] (defScope s__law_base) := ⟨rfl, rfl, rfl, by decide +kernel, rfl, by decide +kernel, by decide +kernel⟩
theorem base_rest (T : Txt K mg cs) {f : Addr} {cdv : Value} {A : Around} {outer : List Env} {s : Shared} {H : Hp} {E : XK} (hr : Room 1 (A.deeper (envOfC "_law_base" (defScope s__law_base) s.heap.objs.size f cdv))) {ns : List Int} {k : Int} (h0 : 0 ≤ k) :
    SXs (cxOf CX0 P w K mg base ["_law_script", "_law_k", "_law_cell", "_law_kind", "_law_mine", "_law_theirs"] "_law_base" (defScope s__law_base) f cdv A outer s H E).nox (defBody s__law_base).tail [none, some (.int k), some (.int (cellA ns k % p10 18)), none, none, none] (.rt (dP (baseZ ns k))) := by
  have e18 := p10_pos 18
  have h1 : IntMulOk 31 k := Sm.l (by unfold Sm; omega)
  refine sxs_cons (sx_set 3 (ex_call (ok__law_draw T) hr (by decide) (by rfl) (ea_cons (ex_add (ex_var 2 rfl) (ex_mul (by walk_at "sd") ex_int (ex_var 1 rfl))) (ea_cons ex_int (ea_cons ex_int ea_nil))) (by walk_at "rr")) sc__law_base.nd rfl (.inl rfl)) (sxs_cons (sx_par (ex_sub (ex_call (ok__law_draw T) hr (by decide) (by rfl) (ea_cons (ex_var 2 rfl) (ea_cons (ex_add (ex_mod (by walk_at "sd") (ex_var 1 rfl) ex_int) ex_int) (ea_cons ex_int ea_nil))) (by walk_at "rr")) ex_int) (ex_sub (ex_call (ok__law_draw T) hr (by decide) (by rfl) (ea_cons (ex_var 2 rfl) (ea_cons (ex_add (ex_mod (by walk_at "sd") (ex_var 1 rfl) ex_int) ex_int) (ea_cons ex_int ea_nil))) (by walk_at "rr")) ex_int) rfl sc__law_base.nd (n := 4) (m := 5) rfl rfl (by decide) rfl rfl (by rfl)) ?_)
  refine sxs_cons (ds1 := [none, some (.int k), some (.int (cellA ns k % p10 18)), some (.int (kdB ns k)), some (.int (mn1 ns k)), some (.int (th1 ns k))]) ?_ ?_
  · by_cases c : kdB ns k < 2
    · have k0 := drawZ_lo (cellA ns k % p10 18 + 31 * k) 6 (m := 4) (by decide)
      have a1 : atI [PyData.int (-1 - absZ (mnB ns k) % 30), .int (1 + absZ (mnB ns k) % 30)] (kdB ns k) = some (.int (mn1 ns k)) := by
        have e : kdB ns k = 0 ∨ kdB ns k = 1 := by unfold kdB at *; omega
        rcases e with e | e
        · rw [show mn1 ns k = -1 - absZ (mnB ns k) % 30 by unfold mn1; rw [if_pos c, if_pos e], e]
          rfl
        · rw [show mn1 ns k = 1 + absZ (mnB ns k) % 30 by unfold mn1; rw [if_pos c, if_neg (by omega)], e]
          rfl
      have a2 : atI [PyData.int 1, .int (-1)] (absZ (thB ns k) % 2) = some (.int (th1 ns k)) := by
        have e : absZ (thB ns k) % 2 = 0 ∨ absZ (thB ns k) % 2 = 1 := by omega
        rcases e with e | e
        · rw [show th1 ns k = 1 by unfold th1; rw [if_pos c, if_pos e], e]
          rfl
        · rw [show th1 ns k = -1 by unfold th1; rw [if_pos c, if_neg (by omega)], e]
          rfl
      exact sx_ifT (ET.to (et_lt (ex_var 3 rfl) ex_int) (decide_eq_true c)) (sxs_cons (sx_par (ex_ixT (ex_pair (ex_sub (ex_neg ex_int) (ex_mod (by walk_at "sd") (ex_abs (by rfl) T.b_abs (ex_var 4 rfl)) ex_int)) (ex_add ex_int (ex_mod (by walk_at "sd") (ex_abs (by rfl) T.b_abs (ex_var 4 rfl)) ex_int))) (ex_var 3 rfl) (by walk_at "sd")) (ex_ixT (ex_pair ex_int (ex_neg ex_int)) (ex_mod (by walk_at "sd") (ex_abs (by rfl) T.b_abs (ex_var 5 rfl)) ex_int) (by walk_at "sd")) rfl sc__law_base.nd (n := 4) (m := 5) rfl rfl (by decide) rfl rfl (by rfl)) sxs_nil)
    · rw [show mn1 ns k = mnB ns k from if_neg c, show th1 ns k = thB ns k from if_neg c]
      exact sx_ifF (ET.to (et_lt (ex_var 3 rfl) ex_int) (decide_eq_false c)) sxs_nil
  refine sxs_cons (ds1 := [none, some (.int k), some (.int (cellA ns k % p10 18)), some (.int (kdB ns k)), some (.int (mn2 ns k)), some (.int (th1 ns k))]) (sx_set 4 (ex_if (k := decide (mn1 ns k ≠ 0)) (ET.to (et_neI (ex_var 4 rfl) ex_int) (by simp)) (fun h => ?_) (fun h => ?_)) sc__law_base.nd rfl (.inl rfl)) ?_
  · rw [show mn2 ns k = mn1 ns k from if_pos (of_decide_eq_true h)]
    exact (ex_var 4 rfl)
  · rw [show mn2 ns k = 7 from if_neg (of_decide_eq_false h)]
    exact ex_int
  obtain ⟨b1, b2, b3⟩ := mn2_b ns k
  obtain ⟨b4, b5⟩ := th1_b ns k
  have sm : IntMulOk (mn2 ns k) (mn2 ns k) := (sm30 (by omega) (by omega)).l
  refine sxs_while (fun t : Int => [none, some (.int k), none, none, some (.int (mn2 ns k)), some (.int t)])
    (fun t => -30 ≤ t ∧ t ≤ 30 ∧ lpB (mn2 ns k) (msB t) t = lpB (mn2 ns k) (msB (th1 ns k)) (th1 ns k)) msB (fun t => !okB (mn2 ns k) t) (th1 ns k) ⟨b4, b5, rfl⟩ ⟨rfl, rfl, rfl, trivial⟩ PassesOwn.never (fun t g => ?_) (fun t g hk => ?_) (fun t g hk => ?_)
  · have st : IntMulOk t t := (sm30 (by omega) (by omega)).l
    refine ET.to (ew_et (ew_or (et_neI (ex_call (ok__law_common T) hr (by decide) (by rfl) (ea_cons (ex_var 4 rfl) (ea_cons (ex_var 5 rfl) ea_nil)) (by walk_at "rr")) ex_int) fun _ => (ew_or1 (et_lt (ex_add (ex_mul (by walk_at "sd") (ex_var 4 rfl) (ex_var 4 rfl)) (ex_mul (by walk_at "sd") (ex_var 5 rfl) (ex_var 5 rfl))) ex_int)))) ?_
    unfold okB
    rw [Bool.not_and]
    congr 1
    · congr 1
      rw [Bool.eq_iff_iff]
      simp only [decide_eq_true_eq]
      omega
    · rw [Bool.eq_iff_iff]
      simp only [decide_eq_true_eq, Bool.not_eq_true', decide_eq_false_iff_not]
      omega
  · have hk : okB (mn2 ns k) t = false := by simpa using hk
    obtain ⟨c1, c2, c3⟩ := msB_turn b3 g.1 g.2.1 hk
    have e : lpB (mn2 ns k) (msB t) t = lpB (mn2 ns k) (msB (trB t)) (trB t) := by
      rw [c1]
      show (if okB (mn2 ns k) t = true then t else _) = _
      rw [hk]
      rfl
    refine ⟨trB t, _, ⟨c2, c3, by rw [← e]; exact g.2.2⟩, by omega, sxs_cons (sx_set 5 (ex_if (k := decide (t < 30)) (et_lt (ex_var 5 rfl) ex_int) (fun h => ?_) (fun h => ?_)) sc__law_base.nd rfl (.inl rfl)) sxs_nil, ⟨rfl, rfl, rfl, trivial⟩⟩
    · rw [show trB t = t + 1 from if_pos (of_decide_eq_true h)]
      exact (ex_add (ex_var 5 rfl) ex_int)
    · rw [show trB t = -30 from if_neg (of_decide_eq_false h)]
      exact (ex_neg ex_int)
  · have hk : okB (mn2 ns k) t = true := by simpa using hk
    have e := g.2.2
    rw [lpB_ok hk] at e
    rw [show baseZ ns k = (mn2 ns k, t) by unfold baseZ; rw [← e]]
    exact (sxs_ret (sx_ret (ex_pair (ex_var 4 rfl) (ex_var 5 rfl))))
theorem ok__law_base (T : Txt K mg cs) : CalR P w K mg base 2 "_law_base" R_base := by
  refine cal_of T.d__law_base sc__law_base (fun ds d h => ?_) (fun f cdv A outer s H E ds d hr h => ?_)
  · obtain ⟨ns, k, rfl, _⟩ := h
    rfl
  · obtain ⟨ns, k, rfl, rfl, h0⟩ := h
    have e18 := p10_pos 18
    exact sxs_cons (sx_set 2 (ex_mod (by walk_at "sd") (ex_call (ok__law_cell_at T) hr (by decide) (by rfl) (ea_cons (ex_var 0 rfl) (ea_cons (ex_var 1 rfl) ea_nil)) (by walk_at "rr")) (ex_p10 (by decide))) sc__law_base.nd rfl (.inl rfl)) ((base_rest T hr h0).le ⟨rfl, rfl, trivial⟩)
/-! ### pairs, the walk of one's own -/
def SmB (ns : List Int) : Prop := ∀ z ∈ ns, Builtin.Int.intBits z ≤ 1048576
theorem cell_bits {ns : List Int} (h : SmB ns) (k : Int) : Builtin.Int.intBits (cellA ns k) ≤ 1048576 := by
  unfold cellA
  rw [List.getD_eq_getElem?_getD]
  cases q : ns[k.toNat]? with
  | none => decide
  | some z => exact h z (List.mem_of_getElem? q)
theorem val_ok {c k : Int} (h : Builtin.Int.intBits c ≤ 1048576) (h1 : 0 ≤ k) (h2 : k ≤ 1000) : IntMulOk (c + 977 * k) (c + 31 * k + 5) := by
  have a : Builtin.Int.intBits (977 * k) ≤ 64 := intBits_le_64 (by omega) (by omega)
  have b : Builtin.Int.intBits (31 * k) ≤ 64 := intBits_le_64 (by omega) (by omega)
  have d : Builtin.Int.intBits 5 ≤ 64 := intBits_le_64 (by omega) (by omega)
  exact IntMulOk.of_le (intBits_add_le h a) (intBits_add_le (intBits_add_le h b) d) (by decide)
def lim3 (i : Int) : Int := if i = 0 then 4 else if i = 1 then 60 else 900000
theorem lim3_b (i : Int) : 0 < lim3 i ∧ lim3 i ≤ 900000 := by
  unfold lim3
  split
  · decide
  · split <;> decide
def limP (ns : List Int) (k : Int) : Int := lim3 (drawZ (cellA ns k % p10 18 + k) 4 3)
def sgP (ns : List Int) (k : Int) : Int := drawZ (cellA ns k % p10 18) 8 4
def v1P (ns : List Int) (k : Int) : Int := valZ (cellA ns k) k (limP ns k)
def v2P (ns : List Int) (k : Int) : Int := valZ (cellA ns (k + 1)) (k + 3) (limP ns k)
def pairZ (ns : List Int) (k : Int) : P2 := (if sgP ns k % 2 = 0 then v1P ns k else -v1P ns k, if sgP ns k < 2 then v2P ns k else -v2P ns k)
theorem sq_lt {x n : Int} (h1 : -n < x) (h2 : x < n) : x * x ≤ n * n := sq_le (Int.le_of_lt h1) (Int.le_of_lt h2)
theorem norm_big {p : P2} (h1 : -(10 ^ 41) < p.1 ∧ p.1 < 10 ^ 41) (h2 : -(10 ^ 41) < p.2 ∧ p.2 < 10 ^ 41) : norm p < 2 ^ 2000 := by
  have a := sq_lt h1.1 h1.2
  have b := sq_lt h2.1 h2.2
  have e : (10 : Int) ^ 41 * 10 ^ 41 + 10 ^ 41 * 10 ^ 41 < 2 ^ 300 := by decide +kernel
  have g : (2 : Int) ^ 300 ≤ 2 ^ 2000 := by
    have := Int.ofNat_le.mpr (Nat.pow_le_pow_right (show 0 < 2 by decide) (show 300 ≤ 2000 by decide))
    exact_mod_cast this
  unfold norm
  generalize (2 : Int) ^ 2000 = z at *
  omega
theorem ite_b {x n : Int} (c : Prop) [Decidable c] (h1 : 0 ≤ x) (h2 : x < n) : -n < (if c then x else -x) ∧ (if c then x else -x) < n := by
  split <;> omega
theorem pairZ_b (ns : List Int) (k : Int) : (-(10 ^ 40) < (pairZ ns k).1 ∧ (pairZ ns k).1 < 10 ^ 40) ∧ (-(10 ^ 40) < (pairZ ns k).2 ∧ (pairZ ns k).2 < 10 ^ 40) := by
  obtain ⟨l1, l2⟩ : 0 < limP ns k ∧ limP ns k ≤ 900000 := lim3_b _
  have a1 := valZ_lo (cellA ns k) k l1
  have a2 := valZ_hi (cellA ns k) k l1 l2
  have b1 := valZ_lo (cellA ns (k + 1)) (k + 3) l1
  have b2 := valZ_hi (cellA ns (k + 1)) (k + 3) l1 l2
  exact ⟨ite_b _ a1 a2, ite_b _ b1 b2⟩
theorem pairZ_n (ns : List Int) (k : Int) : norm (pairZ ns k) < 2 ^ 2000 := by
  obtain ⟨a, b⟩ := pairZ_b ns k
  exact norm_big (by omega) (by omega)
theorem otherZ_n (ns : List Int) (k : Int) : norm ((pairZ ns k).2, (pairZ ns k).1 + 1) < 2 ^ 2000 := by
  obtain ⟨a, b⟩ := pairZ_b ns k
  exact norm_big (by show _ ∧ _; simp only; omega) (by show _ ∧ _; simp only; omega)
def R_pair (ds : List D) (d : D) : Prop := ∃ (ns : List Int) (k : Int), ds = [dI ns, .int k] ∧ d = dP (pairZ ns k) ∧ (0 ≤ k ∧ k ≤ 100) ∧ SmB ns
def R_is_round (ds : List D) (d : D) : Prop := ∃ ar ps : List P2, ds = [dPs ar, dPs ps] ∧ d = .bool (isRound ar ps) ∧ ar.length < 1000000
def R_says (ds : List D) (d : D) : Prop := ∃ a b : Bool, ds = [.bool a, .bool b] ∧ d = .bool (a == b)
/-! ### numbers -/
def R_pair_by (ds : List D) (d : D) : Prop := ∃ (b : P2) (n : Int), ds = [dP b, .int n] ∧ d = dP (prN b n) ∧ IsB b ∧ 0 ≤ n ∧ n < 2 ^ 150
theorem dgs_small {b : P2} (h : IsB b) {n : Int} (h0 : 0 ≤ n) (h1 : n < 2 ^ 150) : (dgs (sz b).toNat n.toNat).length ≤ 150 := by
  refine dgs_len (sz_nat h).1 150 n.toNat ?_
  have e : ((2 ^ 150 : Nat) : Int) = 2 ^ 150 := by norm_cast
  omega
theorem sc_pair_by : FnScope ["base", "number", "row"] ["base", "number"] (defScope s_pair_by) := ⟨rfl, rfl, rfl, by decide +kernel, rfl, by decide +kernel, by decide +kernel⟩
theorem ok_pair_by (T : Txt K mg cs) : CalR P w K mg base 4 "pair_by" R_pair_by := by
  refine cal_of T.d_pair_by sc_pair_by (fun ds d h => ?_) (fun f cdv A outer s H E ds d hr h => ?_)
  · obtain ⟨b, n, rfl, _⟩ := h
    rfl
  · obtain ⟨b, n, rfl, rfl, hb, hn, hn2⟩ := h
    have hB := bd_of hb
    have hz := IsB.szb hb
    have hsz : sizeLine = 16777216 := sizeLine_eq
    obtain ⟨s2, es⟩ := sz_nat hb
    have hln := dgs_small hb hn hn2
    refine sxs_cons (sx_expr (ex_call (ok_check_base T) hr (by decide) (by rfl) (ea_cons (ex_var 0 rfl) ea_nil) (by walk_at "rr"))) (sxs_cons (sx_ifF (ET.to (ew_et (ew_or (et_not (et_val (ex_call (ok_is_whole T) hr (by decide) (by rfl) (ea_cons (ex_var 1 rfl) ea_nil) (by walk_at "rr")))) fun _ => (ew_or1 (et_lt (ex_var 1 rfl) ex_int)))) (by rw [decide_eq_false (by omega)]; rfl)) sxs_nil) ?_)
    refine ⟨fun σ Hs fs => ?_⟩
    refine tSs_ps (ps_set (i := 2) sc_pair_by.nd rfl (.inl rfl) (pe_lst pa_nil)) ?_
    refine ⟨Nat.zero_le _, fun R hR => ?_⟩
    have hl : σ.length = 3 := fs.len
    have f0 : Fr (upd Hs R (.lst [])) (σ.set 2 (some (V.ref R))) [some (dP b), some (.int n), none] := ((fs.mono (Ex.new hR)).hide 2).le ⟨rfl, rfl, trivial⟩
    refine tSs_ps (ps_while PassesOwn.never (trT _) (trSs _)) ?_
    refine ⟨fun m σ' H' => ∃ (k : Nat) (dn : List Int), m = k ∧ dgs (sz b).toNat n.toNat = dn ++ dgs (sz b).toNat k ∧ Ex Hs H' ∧ H' R = some (.lst (dn.map V.int)) ∧ Fr H' σ' [some (dP b), some (.int (k : Nat)), none] ∧ σ'[2]? = some (some (V.ref R)), ⟨n.toNat, n.toNat, [], rfl, rfl, Ex.new hR, upd_same, by rw [Int.toNat_of_nonneg hn]; exact f0, by simp [List.getElem?_set, hl]⟩, ?_⟩
    rintro k σ' H' ⟨_, dn, rfl, ed, e0, hRl, fr, h2⟩
    refine ET.go (et_gt (ex_var 1 rfl) ex_int) fr (Ex.refl _) fun H1 e1 => ?_
    by_cases c : 0 < (k : Int)
    · rw [decide_eq_true c]
      refine iteT ?_
      have hd := dgs_pos s2 (n := k) (by omega)
      have hpos : 0 < sz b := hz.1
      rw [hd] at ed
      have ll : dn.length ≤ 150 := by have := congrArg List.length ed; rw [List.length_append] at this; omega
      refine ⟨fun σ2 H2 => ∃ (k2 : Nat) (dn : List Int), k2 < k ∧ dgs (sz b).toNat n.toNat = dn ++ dgs (sz b).toNat k2 ∧ Ex Hs H2 ∧ H2 R = some (.lst (dn.map V.int)) ∧ Fr H2 σ2 [some (dP b), some (.int (k2 : Nat)), none] ∧ σ2[2]? = some (some (V.ref R)), fun σ2 H2 ⟨k2, dn, hlt, q⟩ => ⟨k2, hlt, k2, dn, rfl, q⟩, ?_⟩
      refine tSs_ps (ps_expr (pe_bm PySem.F.plainAttrs_list PySem.F.slot_list_append PySem.F.type_list_append mt_append (pv 2) (pa_cons (trE _) pa_nil))) ?_
      have hR1 := e1 _ _ hRl
      refine ⟨_, h2, .inl ⟨rfl, _, .inl (.of hR1)⟩, ?_⟩
      change tE _ _ _ _ _
      have fr1 := fr.mono e1
      refine EX.go (ex_mod (by walk_at "sd") (ex_var 1 rfl) (ex_call (ok_size_of T) hr (by decide) (by rfl) (ea_cons (ex_var 0 rfl) ea_nil) (by walk_at "rr"))) fr1 (Ex.refl _) fun v H2 e2 r2 => ?_
      cases rp_int r2
      have hR2 := e2 _ _ hR1
      refine ⟨R, _, _, rfl, rfl, hR2, by rw [List.length_map]; omega, ?_⟩
      have e3 : Ex Hs (upd H2 R (.lst (dn.map V.int ++ [V.int ((k : Int) % sz b)]))) := ((e0.trans e1).trans e2).mut hR
      have fr3 := (fr1.mono e2).flat (ext_upd (ys := dn.map V.int ++ [V.int ((k : Int) % sz b)]) hR2) (by simp [noLF, noL, noLs])
      refine tSs_set 1 (ex_fdiv (by walk_at "sd") (ex_var 1 rfl) (ex_call (ok_size_of T) hr (by decide) (by rfl) (ea_cons (ex_var 0 rfl) ea_nil) (by walk_at "rr"))) fr3 (Ex.refl _) sc_pair_by.nd rfl (.inl rfl) fun v4 H4 e4 r4 => tSs_nil ?_
      have em : (k : Int) % sz b = ((k % (sz b).toNat : Nat) : Int) := by rw [es]; simp
      have ev : (k : Int) / sz b = ((k / (sz b).toNat : Nat) : Int) := by rw [es]; simp
      refine ⟨k / (sz b).toNat, dn ++ [(k : Int) % sz b], Nat.div_lt_self (by omega) (by omega), ?_, e3.trans e4, ?_, ?_, ?_⟩
      · rw [ed, em, List.append_assoc]
        rfl
      · rw [List.map_append]
        exact e4 _ _ upd_same
      · rw [← ev]
        exact ((fr3.mono e4).set 1 r4).le ⟨rfl, rfl, trivial⟩
      · rw [List.getElem?_set_ne (by decide)]
        exact h2
    · rw [decide_eq_false c]
      refine iteF ?_
      have k0 : k = 0 := by omega
      subst k0
      rw [dgs_zero, List.append_nil] at ed
      have fr2 := (fr.mono e1).add h2 (.lst (e1 _ _ hRl) (rpa_ints dn))
      have e : prN b n = rd b dn := by unfold prN; rw [ed]
      rw [e]
      exact SXs.go (sxs_ret (sx_ret (ex_call (ok_read_by T) hr (by decide) (by rfl) (ea_cons (ex_var 0 rfl) (ea_cons (ex_var 2 rfl) ea_nil)) (by walk_at "rr")))) fr2 (e0.trans e1)
/-! ### refusals -/
structure Es where
  BaseError : Addr
  BadBase : Addr
  BadPair : Addr
  BadRow : Addr
  BadNumber : Addr
  Never : Addr
structure Err (K : KF) (mg : Str → Option Value) (es : Es) : Prop where
  g_BaseError : mg "BaseError" = some (.ref es.BaseError)
  be_d : PySem.W.hasDictIn K es.BaseError = true
  be_t : PySem.W.typeIn K (.ref es.BaseError) = some (.type "type")
  be_s : PySem.W.subIn K (.ref es.BaseError) (.type "BaseException") = some true
  er_BadBase : ErrF K mg "BadBase" es.BadBase
  sub_BadBase : PySem.W.subIn K (.ref es.BadBase) (.ref es.BaseError) = some true
  kit_BadBase_BadBase : PySem.W.kitOne K (.ref es.BadBase) (.ref es.BadBase) = some true
  kit_BadBase_BadPair : PySem.W.kitOne K (.ref es.BadBase) (.ref es.BadPair) = some false
  kit_BadBase_BadRow : PySem.W.kitOne K (.ref es.BadBase) (.ref es.BadRow) = some false
  kit_BadBase_BadNumber : PySem.W.kitOne K (.ref es.BadBase) (.ref es.BadNumber) = some false
  kit_BadBase_Never : PySem.W.kitOne K (.ref es.BadBase) (.ref es.Never) = some false
  kit_BadBase_ValueError : PySem.W.kitOne K (.ref es.BadBase) (.type "ValueError") = some true
  er_BadPair : ErrF K mg "BadPair" es.BadPair
  sub_BadPair : PySem.W.subIn K (.ref es.BadPair) (.ref es.BaseError) = some true
  kit_BadPair_BadBase : PySem.W.kitOne K (.ref es.BadPair) (.ref es.BadBase) = some false
  kit_BadPair_BadPair : PySem.W.kitOne K (.ref es.BadPair) (.ref es.BadPair) = some true
  kit_BadPair_BadRow : PySem.W.kitOne K (.ref es.BadPair) (.ref es.BadRow) = some false
  kit_BadPair_BadNumber : PySem.W.kitOne K (.ref es.BadPair) (.ref es.BadNumber) = some false
  kit_BadPair_Never : PySem.W.kitOne K (.ref es.BadPair) (.ref es.Never) = some false
  kit_BadPair_ValueError : PySem.W.kitOne K (.ref es.BadPair) (.type "ValueError") = some true
  er_BadRow : ErrF K mg "BadRow" es.BadRow
  sub_BadRow : PySem.W.subIn K (.ref es.BadRow) (.ref es.BaseError) = some true
  kit_BadRow_BadBase : PySem.W.kitOne K (.ref es.BadRow) (.ref es.BadBase) = some false
  kit_BadRow_BadPair : PySem.W.kitOne K (.ref es.BadRow) (.ref es.BadPair) = some false
  kit_BadRow_BadRow : PySem.W.kitOne K (.ref es.BadRow) (.ref es.BadRow) = some true
  kit_BadRow_BadNumber : PySem.W.kitOne K (.ref es.BadRow) (.ref es.BadNumber) = some false
  kit_BadRow_Never : PySem.W.kitOne K (.ref es.BadRow) (.ref es.Never) = some false
  kit_BadRow_ValueError : PySem.W.kitOne K (.ref es.BadRow) (.type "ValueError") = some true
  er_BadNumber : ErrF K mg "BadNumber" es.BadNumber
  sub_BadNumber : PySem.W.subIn K (.ref es.BadNumber) (.ref es.BaseError) = some true
  kit_BadNumber_BadBase : PySem.W.kitOne K (.ref es.BadNumber) (.ref es.BadBase) = some false
  kit_BadNumber_BadPair : PySem.W.kitOne K (.ref es.BadNumber) (.ref es.BadPair) = some false
  kit_BadNumber_BadRow : PySem.W.kitOne K (.ref es.BadNumber) (.ref es.BadRow) = some false
  kit_BadNumber_BadNumber : PySem.W.kitOne K (.ref es.BadNumber) (.ref es.BadNumber) = some true
  kit_BadNumber_Never : PySem.W.kitOne K (.ref es.BadNumber) (.ref es.Never) = some false
  kit_BadNumber_ValueError : PySem.W.kitOne K (.ref es.BadNumber) (.type "ValueError") = some true
  er_Never : ErrF K mg "Never" es.Never
  sub_Never : PySem.W.subIn K (.ref es.Never) (.ref es.BaseError) = some true
  kit_Never_BadBase : PySem.W.kitOne K (.ref es.Never) (.ref es.BadBase) = some false
  kit_Never_BadPair : PySem.W.kitOne K (.ref es.Never) (.ref es.BadPair) = some false
  kit_Never_BadRow : PySem.W.kitOne K (.ref es.Never) (.ref es.BadRow) = some false
  kit_Never_BadNumber : PySem.W.kitOne K (.ref es.Never) (.ref es.BadNumber) = some false
  kit_Never_Never : PySem.W.kitOne K (.ref es.Never) (.ref es.Never) = some true
  kit_Never_ValueError : PySem.W.kitOne K (.ref es.Never) (.type "ValueError") = some true
theorem Err.g_BadBase {K : KF} {mg : Str → Option Value} {es : Es} (R : Err K mg es) : mg "BadBase" = some (.ref es.BadBase) := R.er_BadBase.g
theorem Err.g_BadPair {K : KF} {mg : Str → Option Value} {es : Es} (R : Err K mg es) : mg "BadPair" = some (.ref es.BadPair) := R.er_BadPair.g
theorem Err.g_BadRow {K : KF} {mg : Str → Option Value} {es : Es} (R : Err K mg es) : mg "BadRow" = some (.ref es.BadRow) := R.er_BadRow.g
theorem Err.g_BadNumber {K : KF} {mg : Str → Option Value} {es : Es} (R : Err K mg es) : mg "BadNumber" = some (.ref es.BadNumber) := R.er_BadNumber.g
theorem Err.g_Never {K : KF} {mg : Str → Option Value} {es : Es} (R : Err K mg es) : mg "Never" = some (.ref es.Never) := R.er_Never.g
theorem Err.catch {K : KF} {mg : Str → Option Value} {es : Es} (R : Err K mg es) {C : Addr} (h : PySem.W.subIn K (.ref C) (.ref es.BaseError) = some true) : PySem.W.exmOne K (.ref C) (.ref es.BaseError) = some true := PySem.W.exm_ref R.be_s R.be_d R.be_t h
variable {es : Es}
/-- what is no base, no pair, no number -/
def badB (x : D) : Prop := flatT x = true ∧ (isPr x = false ∨ ∃ b : P2, x = dP b ∧ ¬ IsB b)
def badP (x : D) : Prop := flatT x = true ∧ isPr x = false
def badN (x : D) : Prop := noOb x = true ∧ (isW x = false ∨ ∃ n : Int, x = .int n ∧ n < 0)
theorem not_isB {b : P2} (h : ¬ IsB b) (h1 : Bd b) : sz b < 2 ∨ Int.gcd b.1 b.2 ≠ 1 := by
  rcases Int.lt_or_le (sz b) 2 with c | c
  · exact .inl c
  · exact .inr fun e => h ⟨h1.a1, h1.a2, h1.a3, h1.a4, e, c⟩
def R_bB (es : Es) (ds : List D) (C : Addr) : Prop := ∃ x : D, ds = [x] ∧ C = es.BadBase ∧ badB x
theorem ok_check_base_bad (T : Txt K mg cs) (Z : Err K mg es) : CalX P w K mg base 3 "check_base" (R_bB es) := by
  refine calX_of T.d_check_base sc_check_base (fun ds C h => ?_) (fun f cdv A outer s H E ds C hr h tk => ?_)
  · obtain ⟨x, rfl, _⟩ := h
    rfl
  · obtain ⟨x, rfl, rfl, hf, h⟩ := h
    rcases h with h | ⟨b, rfl, hn⟩
    · exact sxr_ifT (ew_et (ew_orT (ET.to (et_not (et_val (ex_call (ok_is_pair T) hr (by decide) (by rfl) (ea_cons (ex_var 0 rfl) ea_nil) (by walk_at "rr")))) (by rw [h]; rfl)))) (sxr_raise tk Z.er_BadBase rfl (by rfl))
    · by_cases c : max b.1 b.2 > 30 ∨ min b.1 b.2 < -30
      · refine sxr_ifT (ET.to (ew_et (ew_or (et_not (et_val (ex_call (ok_is_pair T) hr (by decide) (by rfl) (ea_cons (ex_var 0 rfl) ea_nil) (by walk_at "rr")))) fun _ => ew_or (et_gt (ex_maxP rfl hr (by rfl) T.b_max (ex_var 0 rfl)) (ex_globI (by rfl) T.m_MOST)) fun _ => ew_or1 (et_lt (ex_minP rfl hr (by rfl) T.b_min (ex_var 0 rfl)) (ex_neg (ex_globI (by rfl) T.m_MOST))))) ?_) (sxr_raise tk Z.er_BadBase rfl (by rfl))
        rw [show isPr (dP b) = true from rfl]
        rcases c with c | c
        · rw [decide_eq_true c]
          rfl
        · rw [decide_eq_true c, Bool.or_true]
          rfl
      · have hB : Bd b := ⟨by omega, by omega, by omega, by omega⟩
        refine sxr_ifF (ET.to (ew_et (ew_or (et_not (et_val (ex_call (ok_is_pair T) hr (by decide) (by rfl) (ea_cons (ex_var 0 rfl) ea_nil) (by walk_at "rr")))) fun _ => ew_or (et_gt (ex_maxP rfl hr (by rfl) T.b_max (ex_var 0 rfl)) (ex_globI (by rfl) T.m_MOST)) fun _ => ew_or1 (et_lt (ex_minP rfl hr (by rfl) T.b_min (ex_var 0 rfl)) (ex_neg (ex_globI (by rfl) T.m_MOST))))) ?_) (sxr_ifT (ET.to (ew_et (ew_or (et_lt (ex_call (ok_size_of T) hr (by decide) (by rfl) (ea_cons (ex_var 0 rfl) ea_nil) (by walk_at "rr")) ex_int) fun _ => ew_or1 (et_neI (ex_call (ok_common T) hr (by decide) (by rfl) (ea_cons (ex_fst (ex_var 0 rfl)) (ea_cons (ex_snd (ex_var 0 rfl)) ea_nil)) (by walk_at "rr")) ex_int))) ?_) (sxr_raise tk Z.er_BadBase rfl (by rfl)))
        · rw [show isPr (dP b) = true from rfl, decide_eq_false (fun z => c (.inl z)), decide_eq_false (fun z => c (.inr z))]
          rfl
        · rcases not_isB hn hB with q | q
          · rw [decide_eq_true q]
            rfl
          · rw [decide_eq_false (show ¬ ((Int.gcd b.1 b.2 : Nat) : Int) = 1 by omega)]
            exact Bool.or_true _
def R_bP (es : Es) (ds : List D) (C : Addr) : Prop := ∃ x : D, ds = [x] ∧ C = es.BadPair ∧ badP x
theorem ok_check_pair_bad (T : Txt K mg cs) (Z : Err K mg es) : CalX P w K mg base 3 "check_pair" (R_bP es) := by
  refine calX_of T.d_check_pair sc_check_pair (fun ds C h => ?_) (fun f cdv A outer s H E ds C hr h tk => ?_)
  · obtain ⟨x, rfl, _⟩ := h
    rfl
  · obtain ⟨x, rfl, rfl, hf, h⟩ := h
    exact sxr_ifT (ET.to (et_not (et_val (ex_call (ok_is_pair T) hr (by decide) (by rfl) (ea_cons (ex_var 0 rfl) ea_nil) (by walk_at "rr")))) (by rw [h]; rfl)) (sxr_raise tk Z.er_BadPair rfl (by rfl))
theorem ok_size_bad (T : Txt K mg cs) (Z : Err K mg es) : CalX P w K mg base 4 "size" (R_bB es) := by
  refine calX_of T.d_size sc_size (fun ds C h => ?_) (fun f cdv A outer s H E ds C hr h tk => ?_)
  · obtain ⟨x, rfl, _⟩ := h
    rfl
  · obtain ⟨x, rfl, rfl, h⟩ := h
    exact sxr_expr (exr_call tk (ok_check_base_bad T Z) hr (by decide) (by rfl) (ea_cons (ex_var 0 rfl) ea_nil) ⟨_, rfl, rfl, h⟩)
theorem sc_all_told : FnScope ["base", "pair"] ["base"] (defScope s_all_told) := ⟨rfl, rfl, rfl, by decide +kernel, rfl, by decide +kernel, by decide +kernel⟩
theorem ok_all_told_bad (T : Txt K mg cs) (Z : Err K mg es) : CalX P w K mg base 4 "all_told" (R_bB es) := by
  refine calX_of T.d_all_told sc_all_told (fun ds C h => ?_) (fun f cdv A outer s H E ds C hr h tk => ?_)
  · obtain ⟨x, rfl, _⟩ := h
    rfl
  · obtain ⟨x, rfl, rfl, h⟩ := h
    exact sxr_expr (exr_call tk (ok_check_base_bad T Z) hr (by decide) (by rfl) (ea_cons (ex_var 0 rfl) ea_nil) ⟨_, rfl, rfl, h⟩)
/-- a base that is bad; or a base, and what its second is bad at -/
def R_b2 (es : Es) (bad : P2 → D → Prop) (C2 : Addr) (ds : List D) (C : Addr) : Prop := (∃ x y : D, ds = [x, y] ∧ C = es.BadBase ∧ badB x) ∨ ∃ (b : P2) (y : D), ds = [dP b, y] ∧ C = C2 ∧ IsB b ∧ bad b y
theorem ok_step_bad (T : Txt K mg cs) (Z : Err K mg es) : CalX P w K mg base 4 "step" (R_b2 es (fun _ => badP) es.BadPair) := by
  refine calX_of T.d_step sc_step (fun ds C h => ?_) (fun f cdv A outer s H E ds C hr h tk => ?_)
  · rcases h with ⟨x, y, rfl, _⟩ | ⟨b, y, rfl, _⟩ <;> rfl
  · rcases h with ⟨x, y, rfl, rfl, h⟩ | ⟨b, y, rfl, rfl, hb, h⟩
    · exact sxr_expr (exr_call tk (ok_check_base_bad T Z) hr (by decide) (by rfl) (ea_cons (ex_var 0 rfl) ea_nil) ⟨_, rfl, rfl, h⟩)
    · exact sxr_cons (sx_expr (ex_call (ok_check_base T) hr (by decide) (by rfl) (ea_cons (ex_var 0 rfl) ea_nil) (by walk_at "rr"))) (sxr_expr (exr_call tk (ok_check_pair_bad T Z) hr (by decide) (by rfl) (ea_cons (ex_var 1 rfl) ea_nil) ⟨_, rfl, rfl, h⟩))
theorem ok_told_bad (T : Txt K mg cs) (Z : Err K mg es) : CalX P w K mg base 4 "told" (R_b2 es (fun _ => badP) es.BadPair) := by
  refine calX_of T.d_told sc_told (fun ds C h => ?_) (fun f cdv A outer s H E ds C hr h tk => ?_)
  · rcases h with ⟨x, y, rfl, _⟩ | ⟨b, y, rfl, _⟩ <;> rfl
  · rcases h with ⟨x, y, rfl, rfl, h⟩ | ⟨b, y, rfl, rfl, hb, h⟩
    · exact sxr_expr (exr_call tk (ok_check_base_bad T Z) hr (by decide) (by rfl) (ea_cons (ex_var 0 rfl) ea_nil) ⟨_, rfl, rfl, h⟩)
    · exact sxr_cons (sx_expr (ex_call (ok_check_base T) hr (by decide) (by rfl) (ea_cons (ex_var 0 rfl) ea_nil) (by walk_at "rr"))) (sxr_expr (exr_call tk (ok_check_pair_bad T Z) hr (by decide) (by rfl) (ea_cons (ex_var 1 rfl) ea_nil) ⟨_, rfl, rfl, h⟩))
def R_nv (es : Es) (ds : List D) (C : Addr) : Prop := ∃ b p : P2, ds = [dP b, dP p] ∧ C = es.Never ∧ IsB b ∧ aro b p ≠ [] ∧ norm p < 2 ^ 2000
theorem sc_number_of : FnScope ["base", "pair", "row", "around", "found", "figure"] ["base", "pair"] (defScope s_number_of) := ⟨rfl, rfl, rfl, by decide +kernel, rfl, by decide +kernel, by decide +kernel⟩
theorem ok_number_of_bad (T : Txt K mg cs) (Z : Err K mg es) : CalX P w K mg base 4 "number_of" (fun ds C => R_b2 es (fun _ => badP) es.BadPair ds C ∨ R_nv es ds C) := by
  refine calX_of T.d_number_of sc_number_of (fun ds C h => ?_) (fun f cdv A outer s H E ds C hr h tk => ?_)
  · rcases h with (⟨x, y, rfl, _⟩ | ⟨b, y, rfl, _⟩) | ⟨b, p, rfl, _⟩ <;> rfl
  · rcases h with (⟨x, y, rfl, rfl, h⟩ | ⟨b, y, rfl, rfl, hb, h⟩) | ⟨b, p, rfl, rfl, hb, ha, hp⟩
    · exact sxr_expr (exr_call tk (ok_check_base_bad T Z) hr (by decide) (by rfl) (ea_cons (ex_var 0 rfl) ea_nil) ⟨_, rfl, rfl, h⟩)
    · exact sxr_cons (sx_expr (ex_call (ok_check_base T) hr (by decide) (by rfl) (ea_cons (ex_var 0 rfl) ea_nil) (by walk_at "rr"))) (sxr_expr (exr_call tk (ok_check_pair_bad T Z) hr (by decide) (by rfl) (ea_cons (ex_var 1 rfl) ea_nil) ⟨_, rfl, rfl, h⟩))
    · exact sxr_cons (sx_expr (ex_call (ok_check_base T) hr (by decide) (by rfl) (ea_cons (ex_var 0 rfl) ea_nil) (by walk_at "rr"))) (sxr_cons (sx_expr (ex_call (ok_check_pair T) hr (by decide) (by rfl) (ea_cons (ex_var 1 rfl) ea_nil) (by walk_at "rr"))) (sxr_cons (sx_unpack [2, 3] (ex_call (ok_told_by T) hr (by decide) (by rfl) (ea_cons (ex_var 0 rfl) (ea_cons (ex_var 1 rfl) ea_nil)) (by walk_at "rr")) rfl rfl (pgs_cons (pg_name (i := 2) sc_number_of.nd rfl (.inl rfl)) (pgs_cons (pg_name (i := 3) sc_number_of.nd rfl (.inl rfl)) pgs_nil)) rfl) (sxr_ifT (ET.to (et_neD hr (sh_pairs _) (sh_ints []) (ex_var 3 rfl) (ex_lst ea_nil)) (by rw [eqv_nil, decide_eq_false ha]; rfl)) (sxr_raise tk Z.er_Never rfl (by rfl)))))
theorem ok_pair_by_bad (T : Txt K mg cs) (Z : Err K mg es) : CalX P w K mg base 4 "pair_by" (R_b2 es (fun _ => badN) es.BadNumber) := by
  refine calX_of T.d_pair_by sc_pair_by (fun ds C h => ?_) (fun f cdv A outer s H E ds C hr h tk => ?_)
  · rcases h with ⟨x, y, rfl, _⟩ | ⟨b, y, rfl, _⟩ <;> rfl
  · rcases h with ⟨x, y, rfl, rfl, h⟩ | ⟨b, y, rfl, rfl, hb, hf, h⟩
    · exact sxr_expr (exr_call tk (ok_check_base_bad T Z) hr (by decide) (by rfl) (ea_cons (ex_var 0 rfl) ea_nil) ⟨_, rfl, rfl, h⟩)
    · refine sxr_cons (sx_expr (ex_call (ok_check_base T) hr (by decide) (by rfl) (ea_cons (ex_var 0 rfl) ea_nil) (by walk_at "rr"))) ?_
      rcases h with h | ⟨n, rfl, hn⟩
      · exact sxr_ifT (ew_et (ew_orT (ET.to (et_not (et_val (ex_call (ok_is_whole T) hr (by decide) (by rfl) (ea_cons (ex_var 1 rfl) ea_nil) (by walk_at "rr")))) (by rw [h]; rfl)))) (sxr_raise tk Z.er_BadNumber rfl (by rfl))
      · exact sxr_ifT (ET.to (ew_et (ew_or (k := false) (ET.to (et_not (et_val (ex_call (ok_is_whole T) hr (by decide) (by rfl) (ea_cons (ex_var 1 rfl) ea_nil) (by walk_at "rr")))) rfl) fun _ => ew_or1 (et_lt (ex_var 1 rfl) ex_int))) (by rw [decide_eq_true hn]; rfl)) (sxr_raise tk Z.er_BadNumber rfl (by rfl))
/-- one of two is no pair -/
def R_t2 (es : Es) (ds : List D) (C : Addr) : Prop := (∃ x y : D, ds = [x, y] ∧ C = es.BadPair ∧ badP x) ∨ ∃ (p : P2) (y : D), ds = [dP p, y] ∧ C = es.BadPair ∧ badP y
theorem ok_times_bad (T : Txt K mg cs) (Z : Err K mg es) : CalX P w K mg base 4 "times" (R_t2 es) := by
  refine calX_of T.d_times sc_times (fun ds C h => ?_) (fun f cdv A outer s H E ds C hr h tk => ?_)
  · rcases h with ⟨x, y, rfl, _⟩ | ⟨b, y, rfl, _⟩ <;> rfl
  · rcases h with ⟨x, y, rfl, rfl, h⟩ | ⟨p, y, rfl, rfl, h⟩
    · exact sxr_expr (exr_call tk (ok_check_pair_bad T Z) hr (by decide) (by rfl) (ea_cons (ex_var 0 rfl) ea_nil) ⟨_, rfl, rfl, h⟩)
    · exact sxr_cons (sx_expr (ex_call (ok_check_pair T) hr (by decide) (by rfl) (ea_cons (ex_var 0 rfl) ea_nil) (by walk_at "rr"))) (sxr_expr (exr_call tk (ok_check_pair_bad T Z) hr (by decide) (by rfl) (ea_cons (ex_var 1 rfl) ea_nil) ⟨_, rfl, rfl, h⟩))
/-- what is no row of figures -/
def badR (b : P2) (x : D) : Prop := noOb x = true ∧ (isLi x = false ∨ ∃ ds : List D, x = .list ds ∧ ds.length < sizeLine ∧ (((∀ d ∈ ds, noOb d = true) ∧ ds.all isW = false) ∨ ∃ r : List Int, ds = r.map PyData.int ∧ isRow b r = false))
def R_nrow (ds : List D) (d : D) : Prop := ∃ (b : P2) (x : D), ds = [dP b, x] ∧ d = .bool false ∧ Bd b ∧ badR b x
theorem whB_mapD (ds : List D) : ds.map whB = (ds.map isW).map PyData.bool := by
  rw [List.map_map]
  rfl
theorem all_whB (ds : List D) : (ds.map isW).all id = ds.all isW := by
  rw [List.all_map]
  rfl
theorem ok_is_row_bad (T : Txt K mg cs) : CalR P w K mg base 3 "is_row" R_nrow := by
  obtain ⟨f0, fd0, ps0, F0, hm0, kp0, b0⟩ := (ok_is_row (P := P) (w := w) (base := base) T).ex
  refine cal_of T.d_is_row sc_is_row (fun ds d h => ?_) (fun f cdv A outer s H E ds d hr h => ?_)
  · obtain ⟨b, x, rfl, _⟩ := h
    rfl
  · obtain ⟨b, x, rfl, rfl, hB, ho, h⟩ := h
    rcases h with h | ⟨ds, rfl, hz, h⟩
    · exact sxs_ret (sx_ifT (ew_et (ew_orT (ET.to (et_not (et_val (ex_isi PyProof.Rows.boot_list (by rfl) T.b_isinstance (by rfl) T.b_list (kit_list _) (by walk_at "sd") (ex_var 1 rfl)))) (by rw [h]; rfl)))) (sxs_ret (sx_ret ex_bl)))
    · rcases h with ⟨hn, h⟩ | ⟨r, rfl, h⟩
      · refine sxs_ret (sx_ifT (ET.to (ew_et (ew_or (k := false) (ET.to (et_not (et_val (ex_isi PyProof.Rows.boot_list (by rfl) T.b_isinstance (by rfl) T.b_list (kit_list _) (by walk_at "sd") (ex_var 1 rfl)))) rfl) fun _ => ew_or1 (ET.to (et_not (et_val (ex_all rfl (by rfl) T.b_all (EX.to (ex_lc (j := 2) whB rfl sc_is_row.nd hz (fun d _ => by simp [whB, noL]) rfl (blkOk_by (own := [("figure", 2)]) (N := ["base", "thing", "figure"]) (sc := defScope s_is_row) (by decide +kernel)) (fun _ _ _ _ _ => .inl rfl) (fun _ _ _ _ _ => .inr rfl) (ex_var 1 rfl) fun _ _ _ _ _ d hd => ?_) (congrArg PyData.list (whB_mapD ds)))))) (by rw [all_whB, h]; rfl)))) rfl) (sxs_ret (sx_ret ex_bl)))
        have hnd := hn d hd
        exact (ex_call (ok_is_whole T) hr (by decide) (by rfl) (ea_cons (ex_var 2 rfl) ea_nil) (by walk_at "rr"))
      · refine sxs_cons (sx_ifF (ET.to (ew_et (ew_or (k := false) (ET.to (et_not (et_val (ex_isi PyProof.Rows.boot_list (by rfl) T.b_isinstance (by rfl) T.b_list (kit_list _) (by walk_at "sd") (ex_var 1 rfl)))) rfl) fun _ => ew_or1 (ET.to (et_not (et_val (ex_all rfl (by rfl) T.b_all (EX.to (ex_lc (j := 2) whB rfl sc_is_row.nd hz (fun d _ => by simp [whB, noL]) rfl (blkOk_by (own := [("figure", 2)]) (N := ["base", "thing", "figure"]) (sc := defScope s_is_row) (by decide +kernel)) (fun _ _ _ _ _ => .inl rfl) (fun _ _ _ _ _ => .inr rfl) (ex_var 1 rfl) fun _ _ _ _ _ d hd => ?_) (congrArg PyData.list (whB_map _)))))) (by rw [all_true]; rfl)))) rfl) sxs_nil) ?_
        · obtain ⟨f, _, rfl⟩ := List.mem_map.mp hd
          exact (ex_call (ok_is_whole T) hr (by decide) (by rfl) (ea_cons (ex_var 2 rfl) ea_nil) (by walk_at "rr"))
        · unfold isRow at h
          rw [last_test] at h
          refine sxs_ret (sx_ret (EX.to (ex_andB (EX.to (ex_all rfl (by rfl) T.b_all (EX.to (ex_lc (j := 2) (inR (sz b)) rfl sc_is_row.nd hz (fun d _ => inR_noL _ d) rfl (blkOk_by (own := [("figure", 2)]) (N := ["base", "thing", "figure"]) (sc := defScope s_is_row) (by decide +kernel)) (fun _ _ _ _ _ => .inl rfl) (fun _ _ _ _ _ => .inr rfl) (ex_var 1 rfl) fun _ _ _ _ _ d hd => ?_) (congrArg PyData.list (inR_map _ _)))) (congrArg PyData.bool (all_inR (sz b) r))) fun _ => ex_one (ex_orB (k := decide (r = [])) (EX.to (ex_eqD hr (sh_ints _) (sh_ints []) (ex_var 1 rfl) (ex_lst ea_nil)) (congrArg PyData.bool (eqv_dI r []))) fun h => ?_)) (congrArg PyData.bool h)))
          · obtain ⟨f, _, rfl⟩ := List.mem_map.mp hd
            exact (ex_between ex_int (ex_var 2 rfl) (ex_call (ok_size_of T) hr (by decide) (by rfl) (ea_cons (ex_var 0 rfl) ea_nil) (by walk_at "rr")))
          · have hl := last_at (of_decide_eq_false h)
            exact ex_one (ex_neI (ex_ixL (ex_var 1 rfl) (ex_neg ex_int) (by walk_at "sd")) ex_int)
theorem ok_read_bad (T : Txt K mg cs) (Z : Err K mg es) : CalX P w K mg base 4 "read" (R_b2 es badR es.BadRow) := by
  refine calX_of T.d_read sc_read (fun ds C h => ?_) (fun f cdv A outer s H E ds C hr h tk => ?_)
  · rcases h with ⟨x, y, rfl, _⟩ | ⟨b, y, rfl, _⟩ <;> rfl
  · rcases h with ⟨x, y, rfl, rfl, h⟩ | ⟨b, y, rfl, rfl, hb, h⟩
    · exact sxr_expr (exr_call tk (ok_check_base_bad T Z) hr (by decide) (by rfl) (ea_cons (ex_var 0 rfl) ea_nil) ⟨_, rfl, rfl, h⟩)
    · have hB := bd_of hb
      exact sxr_cons (sx_expr (ex_call (ok_check_base T) hr (by decide) (by rfl) (ea_cons (ex_var 0 rfl) ea_nil) (by walk_at "rr"))) (sxr_ifT (ET.to (et_not (et_val (ex_call (ok_is_row_bad T) hr (by decide) (by rfl) (ea_cons (ex_var 0 rfl) (ea_cons (ex_var 1 rfl) ea_nil)) (by walk_at "rr")))) rfl) (sxr_raise tk Z.er_BadRow rfl (by rfl)))
/-! ### the kinds of a refusal -/
theorem roomH_mark {k : Nat} {A : Around} {x : Option Value} (r : L2H.RoomH k A) : L2H.RoomH k (A.mark x) := ⟨r.dp, r.un⟩
structure Kind (K : KF) (es : Es) (C : Addr) (ks : List Bool) : Prop where
  is : ExcC K C
  sub : PySem.W.subIn K (.ref C) (.ref es.BaseError) = some true
  k : ∃ k1 k2 k3 k4 k5 : Bool, ks = [k1, k2, k3, k4, k5, true] ∧ PySem.W.kitOne K (.ref C) (.ref es.BadBase) = some k1 ∧ PySem.W.kitOne K (.ref C) (.ref es.BadPair) = some k2 ∧ PySem.W.kitOne K (.ref C) (.ref es.BadRow) = some k3 ∧
    PySem.W.kitOne K (.ref C) (.ref es.BadNumber) = some k4 ∧ PySem.W.kitOne K (.ref C) (.ref es.Never) = some k5 ∧ PySem.W.kitOne K (.ref C) (.type "ValueError") = some true
theorem kind_base (Z : Err K mg es) : Kind K es es.BadBase [true, false, false, false, false, true] := ⟨Z.er_BadBase.is, Z.sub_BadBase, _, _, _, _, _, rfl, Z.kit_BadBase_BadBase, Z.kit_BadBase_BadPair, Z.kit_BadBase_BadRow, Z.kit_BadBase_BadNumber, Z.kit_BadBase_Never, Z.kit_BadBase_ValueError⟩
theorem kind_pair (Z : Err K mg es) : Kind K es es.BadPair [false, true, false, false, false, true] := ⟨Z.er_BadPair.is, Z.sub_BadPair, _, _, _, _, _, rfl, Z.kit_BadPair_BadBase, Z.kit_BadPair_BadPair, Z.kit_BadPair_BadRow, Z.kit_BadPair_BadNumber, Z.kit_BadPair_Never, Z.kit_BadPair_ValueError⟩
theorem kind_row (Z : Err K mg es) : Kind K es es.BadRow [false, false, true, false, false, true] := ⟨Z.er_BadRow.is, Z.sub_BadRow, _, _, _, _, _, rfl, Z.kit_BadRow_BadBase, Z.kit_BadRow_BadPair, Z.kit_BadRow_BadRow, Z.kit_BadRow_BadNumber, Z.kit_BadRow_Never, Z.kit_BadRow_ValueError⟩
theorem kind_number (Z : Err K mg es) : Kind K es es.BadNumber [false, false, false, true, false, true] := ⟨Z.er_BadNumber.is, Z.sub_BadNumber, _, _, _, _, _, rfl, Z.kit_BadNumber_BadBase, Z.kit_BadNumber_BadPair, Z.kit_BadNumber_BadRow, Z.kit_BadNumber_BadNumber, Z.kit_BadNumber_Never, Z.kit_BadNumber_ValueError⟩
theorem kind_never (Z : Err K mg es) : Kind K es es.Never [false, false, false, false, true, true] := ⟨Z.er_Never.is, Z.sub_Never, _, _, _, _, _, rfl, Z.kit_Never_BadBase, Z.kit_Never_BadPair, Z.kit_Never_BadRow, Z.kit_Never_BadNumber, Z.kit_Never_Never, Z.kit_Never_ValueError⟩
def spK (a : Addr) (ks : List Bool) : Sp := fun vs H Q _ => vs = [.ref a] ∧ ∀ v H', Ex H H' → Rp H' v (.list (ks.map PyData.bool)) → Q v H'
theorem sc__law_kinds : FnScope ["_law_error", "_law_found"] ["_law_error"] (defScope s__law_kinds) := ⟨rfl, rfl, rfl, by decide +kernel, rfl, by decide +kernel, by decide +kernel⟩
theorem ok__law_kinds (T : Txt K mg cs) (Z : Err K mg es) {p : Addr × Obj} {C : Addr} {ks : List Bool} (hk : Kind K es C ks) (hz : L2N.Zn (.ref C) none p.2) {f : Addr} {fd : FuncData} (F : L2.Fun K "_law_kinds" "_law_kinds" s__law_kinds f fd) : FnP P w K mg base 1 p f fd ["_law_error"] (spK p.1 ks) := by
  refine fnP_of F sc__law_kinds (fun vs H Q E h => ?_) (fun cdv A outer s H vs Q E hot hr h => ?_)
  · obtain ⟨rfl, _⟩ := h
    rfl
  · obtain ⟨rfl, q⟩ := h
    obtain ⟨k1, k2, k3, k4, k5, rfl, e1, e2, e3, e4, e5, e6⟩ := hk.k
    have xc := hk.is
    have hh : Hold (L2H.cxH CX0 P w K mg base ["_law_error", "_law_found"] "_law_kinds" (defScope s__law_kinds) f cdv A outer s H E p) p C := ⟨List.mem_singleton.mpr rfl, hot, hz⟩
    have f0 : Fr H (L2.start ["_law_error", "_law_found"] [.ref p.1]) [some (rawD p.1), none] := fr_start (ds := [rawD p.1]) _ (.cons (.raw _) .nil)
    refine tSs_go (d := .list [.bool k1, .bool k2, .bool k3, .bool k4, .bool k5, .bool true]) ?_ f0 fun v H' e r => q v H' e r
    exact sxs_cons (sx_set 1 (ex_lst (as := [.bool k1, .bool k2, .bool k3]) (ea_cons (ex_isE xc hh (by rfl) T.b_isinstance (by rfl) Z.g_BadBase e1 (ex_var 0 rfl)) (ea_cons (ex_isE xc hh (by rfl) T.b_isinstance (by rfl) Z.g_BadPair e2 (ex_var 0 rfl)) (ea_cons (ex_isE xc hh (by rfl) T.b_isinstance (by rfl) Z.g_BadRow e3 (ex_var 0 rfl)) ea_nil)))) sc__law_kinds.nd rfl (.inl rfl))
      (sxs_ret (sx_ret (ex_cat (xs := [.bool k1, .bool k2, .bool k3]) (ys := [.bool k4, .bool k5, .bool true]) (by rw [sizeLine_eq]; simp) (ex_var 1 rfl) (ex_lst (ea_cons (ex_isE xc hh (by rfl) T.b_isinstance (by rfl) Z.g_BadNumber e4 (ex_var 0 rfl)) (ea_cons (ex_isE xc hh (by rfl) T.b_isinstance (by rfl) Z.g_Never e5 (ex_var 0 rfl)) (ea_cons (ex_isEB xc hh (by decide +kernel) (by rfl) T.b_isinstance (by rfl) T.b_ValueError e6 (ex_var 0 rfl)) ea_nil)))))))
def R_toldK (K : KF) (es : Es) (f : Addr) (R : List D → Addr → Prop) (ds : List D) (d : D) : Prop := ∃ (x y : D) (C : Addr) (ks : List Bool), ds = [rawD f, x, y] ∧ d = .list (ks.map PyData.bool) ∧ R [x, y] C ∧ Kind K es C ks
theorem sc__law_told : FnScope ["_law_ask", "_law_one", "_law_other", "_law_error"] ["_law_ask", "_law_one", "_law_other"] (defScope s__law_told) := ⟨rfl, rfl, rfl, by decide +kernel, rfl, by decide +kernel, by decide +kernel⟩
theorem ok__law_told (T : Txt K mg cs) (Z : Err K mg es) {fa : Addr} {fda : FuncData} {psa : List Str} {R : List D → Addr → Prop} (Fa : FnOk P w K mg base (L2N.CX P w) 5 fa fda psa (spE R)) (kpa : PySem.W.keepIn K (.ref fa) = true) (ba : Binds K fda psa []) : CalR P w K mg base 6 "_law_told" (R_toldK K es fa R) := by
  obtain ⟨fk, fdk, Fk, hmk, bk⟩ := T.d__law_kinds.ex
  refine cal_of T.d__law_told sc__law_told (fun ds d h => ?_) (fun f cdv A outer s H E ds d hr h => ?_)
  · obtain ⟨x, y, C, ks, rfl, _⟩ := h
    rfl
  · obtain ⟨x, y, C, ks, rfl, rfl, hR, hk⟩ := h
    refine sxs_ps (L2N.ps_try_as (i := 3) (c := .ref es.BaseError) (ts := fun a cls d' D σ H' => ∀ oe pn, L2N.Zn cls d' oe → (∃ vs, oe.data = .fields vs) → tSs (Cx.suite _ a ((a, oe) :: pn)) _ D σ H') rfl rfl sc__law_told.nd rfl rfl ⟨by rfl, by decide, .inl Z.g_BaseError⟩ takesF
      (fun W pn xe tk _ => pss_one (ps_expr (pe_callLS (i := 0) (E := WE W) Fa hr rfl (.inl rfl) kpa ba (fun σ => L2N.passAt tk σ) (pa_cons (pv 1) (pa_cons (pv 2) pa_nil))))) (fun a oe cls d' pn hz hf => ⟨fun pins s σ H' D I h => h oe pn hz hf pins s I⟩)) fun σ H0 f0 => ?_
    obtain ⟨v0, h0, r0⟩ := f0.at_ 0 _ rfl
    obtain ⟨v1, h1, r1⟩ := f0.at_ 1 _ rfl
    obtain ⟨v2, h2, r2⟩ := f0.at_ 2 _ rfl
    cases rp_raw r0
    refine ⟨h0, v1, h1, v2, h2, [x, y], C, .cons r1 (.cons r2 .nil), hR, fun H' e1 => ⟨true, Z.catch hk.sub, fun _ a na oe pn hz hf => ?_, fun h => nomatch h⟩⟩
    have hh := hold_suite (X := (cxOf CX0 P w K mg base ["_law_ask", "_law_one", "_law_other", "_law_error"] "_law_told" (defScope s__law_told) f cdv A outer s H E).nox) (a := a) (pn := pn) hz hf
    have hl : σ.length = 4 := f0.len
    refine tSs_ps (ps_ret (pe_callP (p := (a, oe)) (ok__law_kinds (P := P) (w := w) (base := base) T Z hk hz Fk) (roomH_mark ((L2H.roomH_of hr).mono (j := 1) (by decide))) hh.hot hh.mem (by rfl) hmk Fk.kp bk (pa_cons (pv 3) pa_nil))) ?_
    exact ⟨.ref a, by simp [List.getElem?_set, hl], rfl, fun v H2 e2 r => ⟨e1.trans e2, r⟩⟩
/-! ### the doors -/
theorem badP_none : badP .none := ⟨rfl, rfl⟩
theorem badN_neg : badN (.int (-1)) := ⟨rfl, .inr ⟨-1, rfl, by decide⟩⟩
def R_wB (es : Es) (ds : List D) (C : Addr) : Prop := ∃ (k : Int) (x : D), ds = [.int k, x] ∧ C = es.BadBase ∧ 0 ≤ k ∧ k < 7 ∧ badB x
theorem sc__law_with_base : FnScope ["_law_door", "_law_base_here"] ["_law_door", "_law_base_here"] (defScope s__law_with_base) := ⟨rfl, rfl, rfl, by decide +kernel, rfl, by decide +kernel, by decide +kernel⟩
theorem ok__law_with_base (T : Txt K mg cs) (Z : Err K mg es) : CalX P w K mg base 5 "_law_with_base" (R_wB es) := by
  refine calX_of T.d__law_with_base sc__law_with_base (fun ds C h => ?_) (fun f cdv A outer s H E ds C hr h tk => ?_)
  · obtain ⟨k, x, rfl, _⟩ := h
    rfl
  · obtain ⟨k, x, rfl, rfl, k0, k1, hx⟩ := h
    have hx1 : R_bB es [x] es.BadBase := ⟨x, rfl, rfl, hx⟩
    have hx2 : ∀ (bad : P2 → D → Prop) (C2 : Addr) (y : D), R_b2 es bad C2 [x, y] es.BadBase := fun _ _ y => .inl ⟨x, y, rfl, rfl, hx⟩
    by_cases c3 : k < 3
    · refine sxr_ifT (ET.to (et_lt (ex_var 0 rfl) ex_int) (decide_eq_true c3)) (sxr_ret (exr_if (et_eqI (ex_var 0 rfl) ex_int) (fun _ => ?_) (fun _ => exr_if (et_eqI (ex_var 0 rfl) ex_int) (fun _ => ?_) (fun _ => ?_))))
      · exact exr_call tk (ok_size_bad T Z) hr (by decide) (by rfl) (ea_cons (ex_var 1 rfl) ea_nil) hx1
      · exact exr_call tk (ok_step_bad T Z) hr (by decide) (by rfl) (ea_cons (ex_var 1 rfl) (ea_cons ex_non ea_nil)) (hx2 _ _ _)
      · exact exr_call tk (ok_read_bad T Z) hr (by decide) (by rfl) (ea_cons (ex_var 1 rfl) (ea_cons ex_non ea_nil)) (hx2 _ _ _)
    · refine sxr_ifF (ET.to (et_lt (ex_var 0 rfl) ex_int) (decide_eq_false c3)) ?_
      by_cases c5 : k < 5
      · refine sxr_ifT (ET.to (et_lt (ex_var 0 rfl) ex_int) (decide_eq_true c5)) (sxr_ret (exr_if (et_eqI (ex_var 0 rfl) ex_int) (fun _ => ?_) (fun _ => ?_)))
        · exact exr_call tk (ok_told_bad T Z) hr (by decide) (by rfl) (ea_cons (ex_var 1 rfl) (ea_cons ex_non ea_nil)) (hx2 _ _ _)
        · exact exr_call tk (ok_all_told_bad T Z) hr (by decide) (by rfl) (ea_cons (ex_var 1 rfl) ea_nil) hx1
      · refine sxr_ifF (ET.to (et_lt (ex_var 0 rfl) ex_int) (decide_eq_false c5)) (sxr_ret (exr_if (et_eqI (ex_var 0 rfl) ex_int) (fun _ => ?_) (fun _ => ?_)))
        · exact exr_call tk (ok_pair_by_bad T Z) hr (by decide) (by rfl) (ea_cons (ex_var 1 rfl) (ea_cons (ex_neg ex_int) ea_nil)) (hx2 _ _ _)
        · exact exr_call tk (ok_number_of_bad T Z) hr (by decide) (by rfl) (ea_cons (ex_var 1 rfl) (ea_cons ex_non ea_nil)) (.inl (hx2 _ _ _))
def R_wP (es : Es) (ds : List D) (C : Addr) : Prop := (∃ (k : Int) (b : P2) (x : D), ds = [.tuple [.int k, dP b], x] ∧ C = es.BadPair ∧ 0 ≤ k ∧ k < 5 ∧ IsB b ∧ badP x) ∨
  ∃ b p : P2, ds = [.tuple [.int 4, dP b], dP p] ∧ C = es.Never ∧ IsB b ∧ aro b p ≠ [] ∧ norm p < 2 ^ 2000
theorem sc__law_with_pair : FnScope ["_law_where", "_law_pair", "_law_door", "_law_base_here"] ["_law_where", "_law_pair"] (defScope s__law_with_pair) := ⟨rfl, rfl, rfl, by decide +kernel, rfl, by decide +kernel, by decide +kernel⟩
theorem ok__law_with_pair (T : Txt K mg cs) (Z : Err K mg es) : CalX P w K mg base 5 "_law_with_pair" (R_wP es) := by
  refine calX_of T.d__law_with_pair sc__law_with_pair (fun ds C h => ?_) (fun f cdv A outer s H E ds C hr h tk => ?_)
  · rcases h with ⟨k, b, x, rfl, _⟩ | ⟨b, p, rfl, _⟩ <;> rfl
  · rcases h with ⟨k, b, x, rfl, rfl, k0, k1, hb, hx⟩ | ⟨b, p, rfl, rfl, hb, ha, hp⟩
    · have hx2 : R_b2 es (fun _ => badP) es.BadPair [dP b, x] es.BadPair := .inr ⟨b, x, rfl, rfl, hb, hx⟩
      refine sxr_cons (sx_unpack [2, 3] (ex_var 0 rfl) rfl rfl (pgs_cons (pg_name (i := 2) sc__law_with_pair.nd rfl (.inl rfl)) (pgs_cons (pg_name (i := 3) sc__law_with_pair.nd rfl (.inl rfl)) pgs_nil)) rfl) ?_
      by_cases c2 : k < 2
      · refine sxr_ifT (ET.to (et_lt (ex_var 2 rfl) ex_int) (decide_eq_true c2)) (sxr_ret (exr_if (et_eqI (ex_var 2 rfl) ex_int) (fun _ => ?_) (fun _ => ?_)))
        · exact exr_call tk (ok_times_bad T Z) hr (by decide) (by rfl) (ea_cons (ex_var 1 rfl) (ea_cons (ex_pair ex_int ex_int) ea_nil)) (.inl ⟨x, _, rfl, rfl, hx⟩)
        · exact exr_call tk (ok_times_bad T Z) hr (by decide) (by rfl) (ea_cons (ex_pair ex_int ex_int) (ea_cons (ex_var 1 rfl) ea_nil)) (.inr ⟨(1, 1), x, rfl, rfl, hx⟩)
      · refine sxr_ifF (ET.to (et_lt (ex_var 2 rfl) ex_int) (decide_eq_false c2)) (sxr_ret (exr_if (et_eqI (ex_var 2 rfl) ex_int) (fun _ => ?_) (fun _ => exr_if (et_eqI (ex_var 2 rfl) ex_int) (fun _ => ?_) (fun _ => ?_))))
        · exact exr_call tk (ok_step_bad T Z) hr (by decide) (by rfl) (ea_cons (ex_var 3 rfl) (ea_cons (ex_var 1 rfl) ea_nil)) hx2
        · exact exr_call tk (ok_told_bad T Z) hr (by decide) (by rfl) (ea_cons (ex_var 3 rfl) (ea_cons (ex_var 1 rfl) ea_nil)) hx2
        · exact exr_call tk (ok_number_of_bad T Z) hr (by decide) (by rfl) (ea_cons (ex_var 3 rfl) (ea_cons (ex_var 1 rfl) ea_nil)) (.inl hx2)
    · refine sxr_cons (sx_unpack [2, 3] (ex_var 0 rfl) rfl rfl (pgs_cons (pg_name (i := 2) sc__law_with_pair.nd rfl (.inl rfl)) (pgs_cons (pg_name (i := 3) sc__law_with_pair.nd rfl (.inl rfl)) pgs_nil)) rfl) (sxr_ifF (ET.to (et_lt (ex_var 2 rfl) ex_int) rfl) (sxr_ret (exr_ifF (ET.to (et_eqI (ex_var 2 rfl) ex_int) rfl) (exr_ifF (ET.to (et_eqI (ex_var 2 rfl) ex_int) rfl) ?_))))
      exact exr_call tk (ok_number_of_bad T Z) hr (by decide) (by rfl) (ea_cons (ex_var 3 rfl) (ea_cons (ex_var 1 rfl) ea_nil)) (.inr ⟨b, p, rfl, rfl, hb, ha, hp⟩)
def R_wR (es : Es) (ds : List D) (C : Addr) : Prop := ∃ (b : P2) (x : D), ds = [dP b, x] ∧ C = es.BadRow ∧ IsB b ∧ badR b x
theorem sc__law_with_row : FnScope ["_law_base_here", "_law_row"] ["_law_base_here", "_law_row"] (defScope s__law_with_row) := ⟨rfl, rfl, rfl, by decide +kernel, rfl, by decide +kernel, by decide +kernel⟩
theorem ok__law_with_row (T : Txt K mg cs) (Z : Err K mg es) : CalX P w K mg base 5 "_law_with_row" (R_wR es) := by
  refine calX_of T.d__law_with_row sc__law_with_row (fun ds C h => ?_) (fun f cdv A outer s H E ds C hr h tk => ?_)
  · obtain ⟨k, x, rfl, _⟩ := h
    rfl
  · obtain ⟨b, x, rfl, rfl, hb, hx⟩ := h
    exact sxr_ret (exr_call tk (ok_read_bad T Z) hr (by decide) (by rfl) (ea_cons (ex_var 0 rfl) (ea_cons (ex_var 1 rfl) ea_nil)) (.inr ⟨b, x, rfl, rfl, hb, hx⟩))
def R_wN (es : Es) (ds : List D) (C : Addr) : Prop := ∃ (b : P2) (x : D), ds = [dP b, x] ∧ C = es.BadNumber ∧ IsB b ∧ badN x
theorem sc__law_with_number : FnScope ["_law_base_here", "_law_number"] ["_law_base_here", "_law_number"] (defScope s__law_with_number) := ⟨rfl, rfl, rfl, by decide +kernel, rfl, by decide +kernel, by decide +kernel⟩
theorem ok__law_with_number (T : Txt K mg cs) (Z : Err K mg es) : CalX P w K mg base 5 "_law_with_number" (R_wN es) := by
  refine calX_of T.d__law_with_number sc__law_with_number (fun ds C h => ?_) (fun f cdv A outer s H E ds C hr h tk => ?_)
  · obtain ⟨k, x, rfl, _⟩ := h
    rfl
  · obtain ⟨b, x, rfl, rfl, hb, hx⟩ := h
    exact sxr_ret (exr_call tk (ok_pair_by_bad T Z) hr (by decide) (by rfl) (ea_cons (ex_var 0 rfl) (ea_cons (ex_var 1 rfl) ea_nil)) (.inr ⟨b, x, rfl, rfl, hb, hx⟩))
/-! ### the script itself, that is frozen -/
theorem sqL_mono {H H' : Hp} {a : Addr} {xs : List V} (e : Ex H H') (h : SqL K H a xs) : SqL K H' a xs := by
  rcases h with (h | ⟨o, h⟩) | h
  · exact .inl (.inl (e _ _ h))
  · exact .inl (.inr ⟨o, e _ _ h⟩)
  · exact .inr h
theorem atI_intsV (ns : List Int) {i : Int} (h0 : 0 ≤ i) (h1 : i < ns.length) : atI (ns.map V.int) i = some (.int (cellA ns i)) := by
  obtain ⟨n, rfl⟩ := Int.eq_ofNat_of_zero_le h0
  have hn : n < ns.length := by omega
  refine atI_nat (j := n) ?_
  unfold cellA
  rw [List.getElem?_map, List.getElem?_eq_getElem hn, Int.toNat_natCast, List.getD_eq_getElem?_getD, List.getElem?_eq_getElem hn]
  rfl
def spCell (K : KF) : Sp := fun vs H Q _ => ∃ (a : Addr) (ns : List Int) (k : Int), vs = [.ref a, .int k] ∧ SqL K H a (ns.map V.int) ∧ 0 ≤ k ∧ Q (.int (cellA ns k)) H
def spBase (K : KF) : Sp := fun vs H Q _ => ∃ (a : Addr) (ns : List Int) (k : Int), vs = [.ref a, .int k] ∧ SqL K H a (ns.map V.int) ∧ 0 ≤ k ∧ ∀ v H', Ex H H' → Rp H' v (dP (baseZ ns k)) → Q v H'
theorem ok_cellR (T : Txt K mg cs) : Cal P w K mg base 1 "_law_cell_at" (spCell K) := by
  refine cal_sp T.d__law_cell_at sc__law_cell_at (fun vs H Q E h => ?_) (fun f cdv A outer s H0 E H vs Q hr h => ?_)
  · obtain ⟨a, ns, k, rfl, _⟩ := h
    rfl
  · obtain ⟨a, ns, k, rfl, hS, h0, q⟩ := h
    refine tSs_ps (ps_if (pt_cmpR op_lt (pv 1) (pe_callB call_len_seq (by rfl) T.b_len PySem.boot_len (pa_cons (pv 0) pa_nil)) (nomark _)) (pss_one (ps_ret (pe_ix ix_list (pv 0) (pv 1) (fun _ _ => rfl)))) pss_nil) ?_
    refine ⟨.int k, rfl, .ref a, rfl, a, ns.map V.int, rfl, .inl hS, k, ((ns.map V.int).length : Nat), rfl, rfl, decide (k < ((ns.map V.int).length : Nat)), rfl, ?_⟩
    by_cases c : k < ((ns.map V.int).length : Nat)
    · rw [decide_eq_true c]
      rw [List.length_map] at c
      exact iteT ⟨.ref a, rfl, .int k, rfl, a, _, k, _, rfl, rfl, hS, atI_intsV ns h0 c, q⟩
    · rw [decide_eq_false c]
      rw [List.length_map] at c
      refine iteF (tSs_ps (ps_ret pe_int) ?_)
      have e : cellA ns k = 0 := by
        unfold cellA
        rw [List.getD_eq_getElem?_getD, List.getElem?_eq_none (by omega)]
        rfl
      rw [e] at q
      exact q
theorem ok_baseR (T : Txt K mg cs) : Cal P w K mg base 2 "_law_base" (spBase K) := by
  refine cal_sp T.d__law_base sc__law_base (fun vs H Q E h => ?_) (fun f cdv A outer s H0 E H vs Q hr h => ?_)
  · obtain ⟨a, ns, k, rfl, _⟩ := h
    rfl
  · obtain ⟨a, ns, k, rfl, hS, h0, q⟩ := h
    have f0 : Fr H (L2.start ["_law_script", "_law_k", "_law_cell", "_law_kind", "_law_mine", "_law_theirs"] [.ref a, .int k]) [none, some (.int k), none, none, none, none] := (fr_start (ds := [rawD a, .int k]) _ (.cons (.raw _) (.cons (.int _) .nil))).le ⟨rfl, trivial⟩
    refine tSs_ps (ps_set (i := 2) sc__law_base.nd rfl (.inl rfl) (pe_op op_mod (pe_cal (ok_cellR T) hr (by decide) (by rfl) (pa_cons (pv 0) (pa_cons (pv 1) pa_nil))) (trE _))) ?_
    refine ⟨.ref a, rfl, .int k, rfl, a, ns, k, rfl, hS, h0, ?_⟩
    change tE _ _ _ _ _
    refine EX.go (ex_p10 (by decide)) f0 (Ex.refl _) fun v H2 e2 r2 => ?_
    cases rp_int r2
    refine ⟨cellA ns k, p10 18, rfl, rfl, p10_pos 18, ?_⟩
    refine tSs_go (base_rest T hr h0) (((f0.mono e2).set 2 (d := .int (cellA ns k % p10 18)) (.int _)).le ⟨rfl, rfl, trivial⟩) fun v H3 e3 r3 => q v H3 (e2.trans e3) r3
/-! ### what is handed in -/
theorem lay_bls : ∀ a : List Bool, PyData.canLayAll0 (a.map PyData.bool) = true ∧ PyData.depthAll (a.map PyData.bool) ≤ 2
  | [] => by simp [PyData.canLayAll0, PyData.depthAll]
  | x :: a => by
    have ih := lay_bls a
    simp only [List.map_cons, PyData.canLayAll0, PyData.canLay0, PyData.depthAll, PyData.depth]
    exact ⟨by rw [ih.1]; rfl, by have := ih.2; omega⟩
theorem sh_bls (a : List Bool) : SeqAt.shaped (.list (a.map PyData.bool)) = true := sh_of (by simp only [PyData.canLay0]; exact (lay_bls a).1) (by simp only [PyData.depth]; have := (lay_bls a).2; omega)
theorem eqvAll_bls : ∀ a b : List Bool, PyData.eqvAll (a.map PyData.bool) (b.map PyData.bool) = decide (a = b)
  | [], [] => by simp [PyData.eqvAll]
  | [], _ :: _ => by simp [PyData.eqvAll]
  | _ :: _, [] => by simp [PyData.eqvAll]
  | x :: a, y :: b => by
    have ih := eqvAll_bls a b
    simp only [List.map_cons, PyData.eqvAll, PyData.eqv, ih]
    rw [Bool.eq_iff_iff]
    simp
theorem eqv_bls (a b : List Bool) : PyData.eqv (.list (a.map PyData.bool)) (.list (b.map PyData.bool)) = decide (a = b) := by
  have e : PyData.eqv (.list (a.map PyData.bool)) (.list (b.map PyData.bool)) = PyData.eqvAll (a.map PyData.bool) (b.map PyData.bool) := by simp only [PyData.eqv]
  rw [e, eqvAll_bls]
def bls (a : List Bool) : D := .list (a.map PyData.bool)
/-- what is due, by the door -/
def due (k : Nat) : List Bool := [decide ((0 : Int) + (k : Nat) = 0), decide ((0 : Int) + (k : Nat) = 1), decide ((0 : Int) + (k : Nat) = 2), decide ((0 : Int) + (k : Nat) = 3), decide ((0 : Int) + (k : Nat) = 4), true]
def dueD : D := .list [bls (due 0), bls (due 1), bls (due 2), bls (due 3), bls (due 4)]
def oddL : List D := [.none, .tuple [], .tuple [.int 1], .tuple [.int 1, .int 2, .int 3], .list [.int 1, .int 2], .str "12", .dict [], .int 5, .tuple [.bool true, .int 2], .tuple [.int 2, .bool false], .tuple [.str "1", .int 2], .tuple [.int 1, .none], .tuple [.int 1, .list [.int 2]]]
def bad1 (r : Int) : List D := [dP (0, 0), dP (1, 0), dP (0, -1), dP (2, 0), dP (0, -3), dP (2, 4), dP (-6, 9), dP (30, 30), dP (31, 1), dP (1, -31), dP (31 + r, 1)]
def bad2 (r : Int) : List D := [dP (3, 31 + r), dP (-31 - r, 2), dP (-30, 24), dP (29, -29)]
def badL (r : Int) : List D := (oddL ++ bad1 r) ++ bad2 r
def rows1 (m r : Int) : List D := [.none, .tuple [], .tuple [.int 1], .str "1", .dict [], .int 5, .list [.none], .list [.str "1"], .list [.bool true], .list [.int 0], .list [.int 1, .int 0], .list [.int (-1)], .list [.int (-1 - r), .int 1], .list [.int m]]
def rows2 (m r : Int) : List D := [.list [.int 1, .int (m + r)], .list [.list [.int 1]], .list [.int 1, .bool false], .list [.int 0, .int 0], .list [.int 1, .int 1, .int 0], .list [.tuple [.int 1]], .list [.bool true, .int 1], .list [.bool false, .int 1], .list [.none, .int 1]]
def rowsL (m r : Int) : List D := rows1 m r ++ rows2 m r
def numL (r : Int) : List D := [.none, .str "1", .bool true, .int (-1), .int (-1 - r), .list [.int 1], .tuple [.int 0]]
theorem odd_bad : ∀ d ∈ oddL, badP d := by
  intro d hd
  simp only [oddL, List.mem_cons, List.not_mem_nil, or_false] at hd
  rcases hd with rfl | rfl | rfl | rfl | rfl | rfl | rfl | rfl | rfl | rfl | rfl | rfl | rfl <;> exact ⟨rfl, rfl⟩
theorem badB_of {d : D} (h : badP d) : badB d := ⟨h.1, .inl h.2⟩
theorem badB_p {b : P2} (h : ¬ IsB b) : badB (dP b) := ⟨rfl, .inr ⟨b, rfl, h⟩⟩
theorem isB_all {b : P2} (h : IsB b) : (decide (-30 ≤ b.1) && decide (b.1 ≤ 30) && decide (-30 ≤ b.2) && decide (b.2 ≤ 30) && decide (Int.gcd b.1 b.2 = 1) && decide (2 ≤ sz b)) = true := by
  simp only [Bool.and_eq_true, decide_eq_true_eq]
  exact ⟨⟨⟨⟨⟨h.lo1, h.hi1⟩, h.lo2⟩, h.hi2⟩, h.co⟩, h.two⟩
theorem isB_no {b : P2} (h : (decide (-30 ≤ b.1) && decide (b.1 ≤ 30) && decide (-30 ≤ b.2) && decide (b.2 ≤ 30) && decide (Int.gcd b.1 b.2 = 1) && decide (2 ≤ sz b)) = false) : ¬ IsB b := fun z => by
  rw [isB_all z] at h
  cases h
theorem bad_bad {r : Int} (hr : 0 ≤ r) : ∀ d ∈ badL r, badB d := by
  intro d hd
  rcases List.mem_append.mp hd with hd | hd
  · rcases List.mem_append.mp hd with hd | hd
    · exact badB_of (odd_bad d hd)
    · simp only [bad1, List.mem_cons, List.not_mem_nil, or_false] at hd
      rcases hd with rfl | rfl | rfl | rfl | rfl | rfl | rfl | rfl | rfl | rfl | rfl
      iterate 10 exact badB_p (isB_no (by decide +kernel))
      exact badB_p fun z => by have : 31 + r ≤ 30 := z.hi1; omega
  · simp only [bad2, List.mem_cons, List.not_mem_nil, or_false] at hd
    rcases hd with rfl | rfl | rfl | rfl
    · exact badB_p fun z => by have : 31 + r ≤ 30 := z.hi2; omega
    · exact badB_p fun z => by have : -30 ≤ -31 - r := z.lo1; omega
    · exact badB_p (isB_no (by decide +kernel))
    · exact badB_p (isB_no (by decide +kernel))
theorem badR_no {b : P2} {d : D} (h : noOb d = true) (h2 : isLi d = false) : badR b d := ⟨h, .inl h2⟩
theorem badR_w {b : P2} {ds : List D} (h : ds.length ≤ 100) (h1 : ds.all noOb = true) (h2 : ds.all isW = false) : badR b (.list ds) :=
  ⟨rfl, .inr ⟨ds, rfl, by rw [sizeLine_eq]; omega, .inl ⟨fun d hd => List.all_eq_true.mp h1 d hd, h2⟩⟩⟩
theorem badR_i {b : P2} (r : List Int) (h : r.length ≤ 100) (h2 : isRow b r = false) : badR b (.list (r.map PyData.int)) :=
  ⟨rfl, .inr ⟨_, rfl, by rw [sizeLine_eq, List.length_map]; omega, .inr ⟨r, rfl, h2⟩⟩⟩
theorem row_last0 {b : P2} {r : List Int} (h : r.getLast? = some 0) (h2 : r ≠ []) : isRow b r = false := by
  unfold isRow
  rw [decide_eq_true h, decide_eq_false h2]
  simp
theorem row_out {b : P2} {r : List Int} {f : Int} (h : f ∈ r) (h2 : f < 0 ∨ sz b ≤ f) : isRow b r = false := by
  unfold isRow
  rw [Bool.and_eq_false_iff]
  refine .inl (Bool.eq_false_iff.mpr fun z => ?_)
  have := List.all_eq_true.mp z f h
  simp only [Bool.and_eq_true, decide_eq_true_eq] at this
  omega
theorem rows_bad {b : P2} {r : Int} (hr : 0 ≤ r) : ∀ d ∈ rowsL (sz b) r, badR b d := by
  intro d hd
  rcases List.mem_append.mp hd with hd | hd
  · simp only [rows1, List.mem_cons, List.not_mem_nil, or_false] at hd
    rcases hd with rfl | rfl | rfl | rfl | rfl | rfl | rfl | rfl | rfl | rfl | rfl | rfl | rfl | rfl
    iterate 6 exact badR_no rfl rfl
    iterate 3 exact badR_w (by decide) rfl rfl
    · exact badR_i [0] (by decide) (row_last0 rfl (by simp))
    · exact badR_i [1, 0] (by decide) (row_last0 rfl (by simp))
    · exact badR_i [-1] (by decide) (row_out (f := -1) (by simp) (by omega))
    · exact badR_i [-1 - r, 1] (by simp) (row_out (f := -1 - r) (by simp) (by omega))
    · exact badR_i [sz b] (by simp) (row_out (f := sz b) (by simp) (by omega))
  · simp only [rows2, List.mem_cons, List.not_mem_nil, or_false] at hd
    rcases hd with rfl | rfl | rfl | rfl | rfl | rfl | rfl | rfl | rfl
    · exact badR_i [1, sz b + r] (by simp) (row_out (f := sz b + r) (by simp) (by omega))
    iterate 2 exact badR_w (by decide) rfl rfl
    · exact badR_i [0, 0] (by decide) (row_last0 rfl (by simp))
    · exact badR_i [1, 1, 0] (by decide) (row_last0 rfl (by simp))
    iterate 4 exact badR_w (by decide) rfl rfl
theorem num_bad {r : Int} (hr : 0 ≤ r) : ∀ d ∈ numL r, badN d := by
  intro d hd
  simp only [numL, List.mem_cons, List.not_mem_nil, or_false] at hd
  rcases hd with rfl | rfl | rfl | rfl | rfl | rfl | rfl
  iterate 3 exact ⟨rfl, .inl rfl⟩
  · exact ⟨rfl, .inr ⟨-1, rfl, by decide⟩⟩
  · exact ⟨rfl, .inr ⟨-1 - r, rfl, by omega⟩⟩
  iterate 2 exact ⟨rfl, .inl rfl⟩
/-! ### the law of refusals -/
theorem rpa_at {H : Hp} : ∀ {vs : List V} {ds : List D}, vs.length = ds.length → (∀ (j : Nat) (v : V) (d : D), vs[j]? = some v → ds[j]? = some d → Rp H v d) → RpA H vs ds
  | [], [], _, _ => .nil
  | [], _ :: _, h, _ => by cases h
  | _ :: _, [], h, _ => by cases h
  | v :: vs, d :: ds, h, g => .cons (g 0 v d rfl rfl) (rpa_at (by simpa using h) fun j w e h1 h2 => g (j + 1) w e (by simpa using h1) (by simpa using h2))
/-- the list of what is due, so far -/
def DueI (H : Hp) (L : Addr) (i : Nat) : Prop := ∃ ys, H L = some (.lst ys) ∧ ys.length = i ∧ ∀ (j : Nat) (y : V), ys[j]? = some y → ∃ b, y = .ref b ∧ b ≠ L ∧ H b = some (.lst ((due j).map V.bl))
theorem DueI.mono {H H' : Hp} {L : Addr} {i : Nat} (h : DueI H L i) (e : Ex H H') : DueI H' L i := by
  obtain ⟨ys, h1, h2, h3⟩ := h
  exact ⟨ys, e _ _ h1, h2, fun j y hj => let ⟨b, e1, e2, e3⟩ := h3 j y hj; ⟨b, e1, e2, e _ _ e3⟩⟩
theorem DueI.data {H : Hp} {L : Addr} (h : DueI H L 5) : Rp H (.ref L) dueD := by
  obtain ⟨ys, h1, h2, h3⟩ := h
  refine .lst h1 (rpa_at h2 fun j y d hj hd => ?_)
  obtain ⟨b, rfl, _, hb⟩ := h3 j y hj
  have : d = bls (due j) := by
    match j, hd with
    | 0, hd | 1, hd | 2, hd | 3, hd | 4, hd => exact (Option.some.inj hd).symm
    | j + 5, hd => cases hd
  subst this
  refine .lst hb ?_
  generalize due j = bs
  induction bs with
  | nil => exact .nil
  | cons x bs ih => exact .cons (.bl x) ih
theorem rd_one {b : P2} (x : Int) : rd b [x] = (x, 0) := by
  show ((mul b (0, 0)).1 + x, (mul b (0, 0)).2) = (x, 0)
  rw [mul_zero]
  simp
theorem row_one {b : P2} {x : Int} (h0 : 0 < x) (h1 : x < sz b) : isRow b [x] = true := by
  unfold isRow
  rw [List.all_cons, List.all_nil, decide_eq_true (Int.le_of_lt h0), decide_eq_true h1]
  have : ¬ ([x].getLast? = some 0) := fun z => by
    have : x = 0 := Option.some.inj z
    omega
  rw [decide_eq_false this]
  simp
theorem prN_one {b : P2} (h : IsB b) : prN b 1 = (1, 0) := by
  obtain ⟨s2, _⟩ := sz_nat h
  have e : dgs (sz b).toNat (1 : Int).toNat = [1] := by
    show dgs (sz b).toNat 1 = [1]
    rw [dgs_pos s2 (by decide), Nat.mod_eq_of_lt (by omega), Nat.div_eq_of_lt (by omega), dgs_zero]
    rfl
  unfold prN
  rw [e]
  exact rd_one 1
theorem map_true {ds : List D} : (ds.map fun _ => PyData.bool true) = (ds.map fun _ => true).map PyData.bool := by
  rw [List.map_map]
  rfl
theorem sc_law : FnScope ["_law_script", "_law_far", "_law_due", "_law_k", "_law_base_here", "_law_odd", "_law_bad", "_law_door", "_law_thing", "_law_many", "_law_rows", "_law_numbers"] ["_law_script"] (defScope s_law) := ⟨rfl, rfl, rfl, by decide +kernel, rfl, by decide +kernel, by decide +kernel⟩
theorem ok_law_rest (T : Txt K mg cs) (Z : Err K mg es) {f : Addr} {cdv : Value} {A : Around} {outer : List Env} {s : Shared} {H : Hp} {E : XK} (hr : Room 6 (A.deeper (envOfC "law" (defScope s_law) s.heap.objs.size f cdv))) {b : P2} {r : Int} (hB : IsB b) (hr0 : 0 ≤ r) :
    SXs (cxOf CX0 P w K mg base ["_law_script", "_law_far", "_law_due", "_law_k", "_law_base_here", "_law_odd", "_law_bad", "_law_door", "_law_thing", "_law_many", "_law_rows", "_law_numbers"] "law" (defScope s_law) f cdv A outer s H E).nox ((defBody s_law).drop 4) [none, some (.int r), some dueD, none, some (dP b), none, none, none, none, none, none, none] (.rt (.bool true)) := by
  obtain ⟨f1, fd1, ps1, F1, hm1, kp1, bn1⟩ := (ok__law_with_base (P := P) (w := w) (base := base) T Z).ex
  obtain ⟨f2, fd2, ps2, F2, hm2, kp2, bn2⟩ := (ok__law_with_pair (P := P) (w := w) (base := base) T Z).ex
  obtain ⟨f3, fd3, ps3, F3, hm3, kp3, bn3⟩ := (ok__law_with_row (P := P) (w := w) (base := base) T Z).ex
  obtain ⟨f4, fd4, ps4, F4, hm4, kp4, bn4⟩ := (ok__law_with_number (P := P) (w := w) (base := base) T Z).ex
  have t1 := ok__law_told T Z F1 kp1 bn1
  have t2 := ok__law_told T Z F2 kp2 bn2
  have t3 := ok__law_told T Z F3 kp3 bn3
  have t4 := ok__law_told T Z F4 kp4 bn4
  have hBd := bd_of hB
  have hsz : sizeLine = 16777216 := sizeLine_eq
  refine sxs_cons (ds1 := [none, some (.int r), some dueD, none, some (dP b), some (.list oddL), none, none, none, none, none, none]) (sx_set 5 (EX.to (ex_lst (ea_cons ex_non (ea_cons (ex_tup ea_nil) (ea_cons (ex_tup (ea_cons ex_int ea_nil)) (ea_cons (ex_tup (ea_cons ex_int (ea_cons ex_int (ea_cons ex_int ea_nil)))) (ea_cons (ex_lst (ea_cons ex_int (ea_cons ex_int ea_nil))) (ea_cons ex_str (ea_cons ex_dct (ea_cons ex_int (ea_cons (ex_tup (ea_cons ex_bl (ea_cons ex_int ea_nil))) (ea_cons (ex_tup (ea_cons ex_int (ea_cons ex_bl ea_nil))) (ea_cons (ex_tup (ea_cons ex_str (ea_cons ex_int ea_nil))) (ea_cons (ex_tup (ea_cons ex_int (ea_cons ex_non ea_nil))) (ea_cons (ex_tup (ea_cons ex_int (ea_cons (ex_lst (ea_cons ex_int ea_nil)) ea_nil))) ea_nil)))))))))))))) (by rfl)) sc_law.nd rfl (.inl rfl)) ?_
  refine sxs_cons (ds1 := [none, some (.int r), some dueD, none, some (dP b), some (.list oddL), some (.list (oddL ++ bad1 r)), none, none, none, none, none]) (sx_set 6 (EX.to (ex_cat (by rw [hsz]; exact (by decide : 13 + 11 ≤ 16777216)) (ex_var 5 rfl) (ex_lst (ea_cons (ex_pair ex_int ex_int) (ea_cons (ex_pair ex_int ex_int) (ea_cons (ex_pair ex_int (ex_neg ex_int)) (ea_cons (ex_pair ex_int ex_int) (ea_cons (ex_pair ex_int (ex_neg ex_int)) (ea_cons (ex_pair ex_int ex_int) (ea_cons (ex_pair (ex_neg ex_int) ex_int) (ea_cons (ex_pair ex_int ex_int) (ea_cons (ex_pair ex_int ex_int) (ea_cons (ex_pair ex_int (ex_neg ex_int)) (ea_cons (ex_pair (ex_add ex_int (ex_var 1 rfl)) ex_int) ea_nil))))))))))))) (by rfl)) sc_law.nd rfl (.inl rfl)) ?_
  refine sxs_cons (ds1 := [none, some (.int r), some dueD, none, some (dP b), some (.list oddL), some (.list (badL r)), none, none, none, none, none]) (sx_set 6 (EX.to (ex_cat (by rw [hsz]; exact (by decide : 24 + 4 ≤ 16777216)) (ex_var 6 rfl) (ex_lst (ea_cons (ex_pair ex_int (ex_add ex_int (ex_var 1 rfl))) (ea_cons (ex_pair (ex_sub (ex_neg ex_int) (ex_var 1 rfl)) ex_int) (ea_cons (ex_pair (ex_neg ex_int) ex_int) (ea_cons (ex_pair ex_int (ex_neg ex_int)) ea_nil)))))) (by rfl)) sc_law.nd rfl (.inl rfl)) ?_
  have lb : (badL r).length < sizeLine := by rw [hsz]; exact (by decide : 28 < 16777216)
  have lo : oddL.length < sizeLine := by rw [hsz]; exact (by decide : 13 < 16777216)
  refine sxs_forR1 7 (fun _ : Unit => [none, some (.int r), some dueD, none, some (dP b), some (.list oddL), some (.list (badL r)), none, none, none, none, none]) (fun _ _ => True) () trivial ⟨rfl, rfl, rfl, rfl, rfl, trivial⟩ PassesOwn.never rfl sc_law.nd rfl (.inr rfl) (by rfl) T.b_range (ea_cons ex_int ea_nil) (by decide) (fun t _ ht _ => ?_) (fun _ _ => ?_)
  · refine ⟨(), _, trivial, sxs_cons (sx_ifF (ET.to (et_not (et_val (ex_all (bs := (badL r).map fun _ => true) rfl (by rfl) T.b_all (EX.to (ex_lc (j := 8) (fun _ => PyData.bool true) rfl sc_law.nd lb (fun d _ => by simp [noL]) rfl (blkOk_by (own := [("_law_thing", 8)]) (N := ["_law_script", "_law_far", "_law_due", "_law_k", "_law_base_here", "_law_odd", "_law_bad", "_law_door", "_law_thing", "_law_many", "_law_rows", "_law_numbers"]) (sc := defScope s_law) (by decide +kernel)) (fun _ _ _ _ _ => .inl rfl) (fun _ _ _ _ _ => .inr rfl) (ex_var 6 rfl) fun _ _ _ _ _ d hd => ?_) (congrArg PyData.list map_true))))) (by rw [all_true]; rfl)) sxs_nil) sxs_nil, ⟨rfl, rfl, rfl, rfl, rfl, trivial⟩⟩
    have hbad := bad_bad hr0 d hd
    refine EX.to (ex_eqD hr (sh_bls [true, false, false, false, false, true]) (sh_bls (due 0)) (ex_call (d := bls [true, false, false, false, false, true]) t1 hr (by decide) (by rfl) (ea_cons (ex_fnv (by rfl) hm1) (ea_cons (ex_var 7 rfl) (ea_cons (ex_var 8 rfl) ea_nil))) ⟨_, _, _, _, rfl, rfl, ⟨_, _, rfl, rfl, by omega, by omega, hbad⟩, kind_base Z⟩) (ex_ixL (ex_var 2 rfl) ex_int rfl)) (congrArg PyData.bool ?_)
    rw [eqv_bls]
    rfl
  refine sxs_forR1 7 (fun _ : Unit => [none, some (.int r), some dueD, none, some (dP b), some (.list oddL), none, none, none, none, none, none]) (fun _ _ => True) () trivial ⟨rfl, rfl, rfl, rfl, trivial⟩ PassesOwn.never rfl sc_law.nd rfl (.inr rfl) (by rfl) T.b_range (ea_cons ex_int ea_nil) (by decide) (fun t _ ht _ => ?_) (fun _ _ => ?_)
  · refine ⟨(), _, trivial, sxs_cons (sx_ifF (ET.to (et_not (et_val (ex_all (bs := oddL.map fun _ => true) rfl (by rfl) T.b_all (EX.to (ex_lc (j := 8) (fun _ => PyData.bool true) rfl sc_law.nd lo (fun d _ => by simp [noL]) rfl (blkOk_by (own := [("_law_thing", 8)]) (N := ["_law_script", "_law_far", "_law_due", "_law_k", "_law_base_here", "_law_odd", "_law_bad", "_law_door", "_law_thing", "_law_many", "_law_rows", "_law_numbers"]) (sc := defScope s_law) (by decide +kernel)) (fun _ _ _ _ _ => .inl rfl) (fun _ _ _ _ _ => .inr rfl) (ex_var 5 rfl) fun _ _ _ _ _ d hd => ?_) (congrArg PyData.list map_true))))) (by rw [all_true]; rfl)) sxs_nil) sxs_nil, ⟨rfl, rfl, rfl, rfl, trivial⟩⟩
    have hbad := odd_bad d hd
    refine EX.to (ex_eqD hr (sh_bls [false, true, false, false, false, true]) (sh_bls (due 1)) (ex_call (d := bls [false, true, false, false, false, true]) t2 hr (by decide) (by rfl) (ea_cons (ex_fnv (by rfl) hm2) (ea_cons (ex_tup (ea_cons (ex_var 7 rfl) (ea_cons (ex_var 4 rfl) ea_nil))) (ea_cons (ex_var 8 rfl) ea_nil))) ⟨_, _, _, _, rfl, rfl, .inl ⟨_, _, _, rfl, rfl, by omega, by omega, hB, hbad⟩, kind_pair Z⟩) (ex_ixL (ex_var 2 rfl) ex_int rfl)) (congrArg PyData.bool ?_)
    rw [eqv_bls]
    rfl
  refine sxs_cons (sx_set 9 (ex_call (ok__law_size T) hr (by decide) (by rfl) (ea_cons (ex_var 4 rfl) ea_nil) (by walk_at "rr")) sc_law.nd rfl (.inl rfl)) ?_
  refine sxs_cons (ds1 := [none, some (.int r), some dueD, none, some (dP b), some (.list oddL), none, none, none, some (.int (sz b)), some (.list (rows1 (sz b) r)), none]) (sx_set 10 (EX.to (ex_lst (ea_cons ex_non (ea_cons (ex_tup ea_nil) (ea_cons (ex_tup (ea_cons ex_int ea_nil)) (ea_cons ex_str (ea_cons ex_dct (ea_cons ex_int (ea_cons (ex_lst (ea_cons ex_non ea_nil)) (ea_cons (ex_lst (ea_cons ex_str ea_nil)) (ea_cons (ex_lst (ea_cons ex_bl ea_nil)) (ea_cons (ex_lst (ea_cons ex_int ea_nil)) (ea_cons (ex_lst (ea_cons ex_int (ea_cons ex_int ea_nil))) (ea_cons (ex_lst (ea_cons (ex_neg ex_int) ea_nil)) (ea_cons (ex_lst (ea_cons (ex_sub (ex_neg ex_int) (ex_var 1 rfl)) (ea_cons ex_int ea_nil))) (ea_cons (ex_lst (ea_cons (ex_var 9 rfl) ea_nil)) ea_nil))))))))))))))) (by rfl)) sc_law.nd rfl (.inl rfl)) ?_
  refine sxs_cons (ds1 := [none, some (.int r), some dueD, none, some (dP b), some (.list oddL), none, none, none, some (.int (sz b)), some (.list (rowsL (sz b) r)), none]) (sx_set 10 (EX.to (ex_cat (by rw [hsz]; exact (by decide : 14 + 9 ≤ 16777216)) (ex_var 10 rfl) (ex_lst (ea_cons (ex_lst (ea_cons ex_int (ea_cons (ex_add (ex_var 9 rfl) (ex_var 1 rfl)) ea_nil))) (ea_cons (ex_lst (ea_cons (ex_lst (ea_cons ex_int ea_nil)) ea_nil)) (ea_cons (ex_lst (ea_cons ex_int (ea_cons ex_bl ea_nil))) (ea_cons (ex_lst (ea_cons ex_int (ea_cons ex_int ea_nil))) (ea_cons (ex_lst (ea_cons ex_int (ea_cons ex_int (ea_cons ex_int ea_nil)))) (ea_cons (ex_lst (ea_cons (ex_tup (ea_cons ex_int ea_nil)) ea_nil)) (ea_cons (ex_lst (ea_cons ex_bl (ea_cons ex_int ea_nil))) (ea_cons (ex_lst (ea_cons ex_bl (ea_cons ex_int ea_nil))) (ea_cons (ex_lst (ea_cons ex_non (ea_cons ex_int ea_nil))) ea_nil))))))))))) (by rfl)) sc_law.nd rfl (.inl rfl)) ?_
  have lr : (rowsL (sz b) r).length < sizeLine := by rw [hsz]; exact (by decide : 23 < 16777216)
  refine sxs_cons (sx_ifF (ET.to (et_not (et_val (ex_all (bs := (rowsL (sz b) r).map fun _ => true) rfl (by rfl) T.b_all (EX.to (ex_lc (j := 8) (fun _ => PyData.bool true) rfl sc_law.nd lr (fun d _ => by simp [noL]) rfl (blkOk_by (own := [("_law_thing", 8)]) (N := ["_law_script", "_law_far", "_law_due", "_law_k", "_law_base_here", "_law_odd", "_law_bad", "_law_door", "_law_thing", "_law_many", "_law_rows", "_law_numbers"]) (sc := defScope s_law) (by decide +kernel)) (fun _ _ _ _ _ => .inl rfl) (fun _ _ _ _ _ => .inr rfl) (ex_var 10 rfl) fun _ _ _ _ _ d hd => ?_) (congrArg PyData.list map_true))))) (by rw [all_true]; rfl)) sxs_nil) ?_
  · have hbad := rows_bad (b := b) hr0 d hd
    refine EX.to (ex_eqD hr (sh_bls [false, false, true, false, false, true]) (sh_bls (due 2)) (ex_call (d := bls [false, false, true, false, false, true]) t3 hr (by decide) (by rfl) (ea_cons (ex_fnv (by rfl) hm3) (ea_cons (ex_var 4 rfl) (ea_cons (ex_var 8 rfl) ea_nil))) ⟨_, _, _, _, rfl, rfl, ⟨_, _, rfl, rfl, hB, hbad⟩, kind_row Z⟩) (ex_ixL (ex_var 2 rfl) ex_int rfl)) (congrArg PyData.bool ?_)
    rw [eqv_bls]
    rfl
  refine sxs_cons (ds1 := [none, some (.int r), some dueD, none, some (dP b), some (.list oddL), none, none, none, some (.int (sz b)), some (.list (rowsL (sz b) r)), some (.list (numL r))]) (sx_set 11 (EX.to (ex_lst (ea_cons ex_non (ea_cons ex_str (ea_cons ex_bl (ea_cons (ex_neg ex_int) (ea_cons (ex_sub (ex_neg ex_int) (ex_var 1 rfl)) (ea_cons (ex_lst (ea_cons ex_int ea_nil)) (ea_cons (ex_tup (ea_cons ex_int ea_nil)) ea_nil)))))))) (by rfl)) sc_law.nd rfl (.inl rfl)) ?_
  have ln : (numL r).length < sizeLine := by rw [hsz]; exact (by decide : 7 < 16777216)
  refine sxs_cons (sx_ifF (ET.to (et_not (et_val (ex_all (bs := (numL r).map fun _ => true) rfl (by rfl) T.b_all (EX.to (ex_lc (j := 8) (fun _ => PyData.bool true) rfl sc_law.nd ln (fun d _ => by simp [noL]) rfl (blkOk_by (own := [("_law_thing", 8)]) (N := ["_law_script", "_law_far", "_law_due", "_law_k", "_law_base_here", "_law_odd", "_law_bad", "_law_door", "_law_thing", "_law_many", "_law_rows", "_law_numbers"]) (sc := defScope s_law) (by decide +kernel)) (fun _ _ _ _ _ => .inl rfl) (fun _ _ _ _ _ => .inr rfl) (ex_var 11 rfl) fun _ _ _ _ _ d hd => ?_) (congrArg PyData.list map_true))))) (by rw [all_true]; rfl)) sxs_nil) ?_
  · have hbad := num_bad hr0 d hd
    refine EX.to (ex_eqD hr (sh_bls [false, false, false, true, false, true]) (sh_bls (due 3)) (ex_call (d := bls [false, false, false, true, false, true]) t4 hr (by decide) (by rfl) (ea_cons (ex_fnv (by rfl) hm4) (ea_cons (ex_var 4 rfl) (ea_cons (ex_var 8 rfl) ea_nil))) ⟨_, _, _, _, rfl, rfl, ⟨_, _, rfl, rfl, hB, hbad⟩, kind_number Z⟩) (ex_ixL (ex_var 2 rfl) ex_int rfl)) (congrArg PyData.bool ?_)
    rw [eqv_bls]
    rfl
  have b11 : IsB (1, 1) := isB_dec _ (by decide +kernel)
  have ar0 : aro (1, 1) (0, 1) = [(0, 1)] := aro_fix b11 (fix_one b11 (.inl rfl) (by decide)) (by decide)
  have ar : aro (1, 1) (0, 1) ≠ [] := by rw [ar0]; simp
  have n01 := norm01
  refine sxs_cons (sx_ifF (ET.to (et_neD hr (sh_bls [false, false, false, false, true, true]) (sh_bls (due 4)) (ex_call (d := bls [false, false, false, false, true, true]) t2 hr (by decide) (by rfl) (ea_cons (ex_fnv (by rfl) hm2) (ea_cons (ex_tup (ea_cons ex_int (ea_cons (ex_pair ex_int ex_int) ea_nil))) (ea_cons (ex_pair ex_int ex_int) ea_nil))) ⟨_, _, _, _, rfl, rfl, .inr ⟨(1, 1), (0, 1), rfl, rfl, b11, ar, n01⟩, kind_never Z⟩) (ex_ixL (ex_var 2 rfl) ex_int rfl)) (by rw [eqv_bls]; rfl)) sxs_nil) ?_
  have h2 := hB.two
  have i1 : IsB (30, 29) := isB_dec _ (by decide +kernel)
  have i2 : IsB (0 - 1, 1) := isB_dec _ (by decide +kernel)
  have r1 : isRow b [1] = true := row_one (by decide) (by omega)
  have r2 : isRow b [] = true := rfl
  have r3 : isRow b [sz b - 1] = true := row_one (by omega) (by omega)
  have l0 : ([] : List Int).length < sizeLine := by rw [hsz]; decide
  have l1 : [(1 : Int)].length < sizeLine := by rw [hsz]; decide
  have l3 : [sz b - 1].length < sizeLine := by rw [hsz]; exact (by decide : 1 < 16777216)
  have e1 : sz (30, 29) = 1741 := by decide +kernel
  have e2 : sz (0 - 1, 1) = 2 := by decide +kernel
  have e3 : rd b [1] = (1, 0) := rd_one 1
  have e4 : rd b [] = (0, 0) := rfl
  have e5 : rd b [sz b - 1] = (sz b - 1, 0) := rd_one _
  have e6 := prN_one hB
  have z0 : (0 : Int) ≤ 1 := by decide
  have z1 : (1 : Int) < 2 ^ 150 := by decide +kernel
  refine sxs_cons (sx_ifF (ET.to (ew_et (ew_or (et_neI (ex_call (ok_size T) hr (by decide) (by rfl) (ea_cons (ex_pair ex_int ex_int) ea_nil) ⟨(30, 29), rfl, rfl, i1⟩) ex_int) fun _ => ew_or (et_neI (ex_call (ok_size T) hr (by decide) (by rfl) (ea_cons (ex_pair (ex_sub ex_int ex_int) ex_int) ea_nil) ⟨(0 - 1, 1), rfl, rfl, i2⟩) ex_int) fun _ => ew_or (et_neD hr (sh_dP _) (sh_dP _) (ex_call (ok_read T) hr (by decide) (by rfl) (ea_cons (ex_var 4 rfl) (ea_cons (ex_lst (ea_cons ex_int ea_nil)) ea_nil)) ⟨b, [1], rfl, rfl, hB, r1, l1⟩) (ex_pair ex_int ex_int)) fun _ => ew_or1 (et_neD hr (sh_dP _) (sh_dP _) (ex_call (ok_read T) hr (by decide) (by rfl) (ea_cons (ex_var 4 rfl) (ea_cons (ex_lst ea_nil) ea_nil)) ⟨b, [], rfl, rfl, hB, r2, l0⟩) (ex_pair ex_int ex_int)))) ?_) sxs_nil) ?_
  · rw [eqv_dP, eqv_dP, e1, e2, e3, e4, decide_eq_true rfl, decide_eq_true rfl, decide_eq_true rfl, decide_eq_true rfl]
    rfl
  refine sxs_ret (sx_ret (EX.to (ex_andB (ex_eqD hr (sh_dP _) (sh_dP _) (ex_call (ok_read T) hr (by decide) (by rfl) (ea_cons (ex_var 4 rfl) (ea_cons (ex_lst (ea_cons (ex_sub (ex_var 9 rfl) ex_int) ea_nil)) ea_nil)) ⟨b, [sz b - 1], rfl, rfl, hB, r3, l3⟩) (ex_pair (ex_sub (ex_var 9 rfl) ex_int) ex_int)) fun _ => ex_one (ex_eqD hr (sh_dP _) (sh_dP _) (ex_call (ok_pair_by T) hr (by decide) (by rfl) (ea_cons (ex_var 4 rfl) (ea_cons ex_int ea_nil)) ⟨b, 1, rfl, rfl, hB, z0, z1⟩) (ex_pair ex_int ex_int))) (congrArg PyData.bool ?_)))
  rw [eqv_dP, eqv_dP, e5, e6, decide_eq_true rfl, decide_eq_true rfl]
  rfl
/-! ### the law -/
def spLaw (K : KF) : Sp := fun vs H Q _ => ∃ (a : Addr) (ns : List Int), vs = [.ref a] ∧ SqL K H a (ns.map V.int) ∧ ns.length ≤ 63 ∧ SmB ns ∧ ∀ v H', v = .bl true → Q v H'
theorem isB_m : IsB (-1, 1) := ⟨by decide, by decide, by decide, by decide, by decide, by decide⟩
theorem cut_ints (ns : List Int) (a b : Option Int) : cutD (ns.map PyData.int) a b = (cutD ns a b).map PyData.int := by
  unfold cutD
  rw [List.length_map, List.map_take, List.map_drop]
theorem cut_le {α : Type} (ns : List α) (a b : Option Int) : (cutD ns a b).length ≤ ns.length := by
  unfold cutD
  rw [List.length_take, List.length_drop]
  omega
theorem cut_mem (ns : List Int) (a b : Option Int) (h : SmB ns) : SmB (cutD ns a b) := fun z hz => h z (List.mem_of_mem_drop (List.mem_of_mem_take hz))
theorem cut_len {α : Type} (ns : List α) {k m : Nat} : (cutD ns (some (k : Int)) (some (m : Int))).length = min (m - k) (ns.length - k) := by
  unfold cutD
  rw [List.length_take, List.length_drop, HT.sIx_nat, HT.sIx_nat]
  omega
def row0 (b : P2) (c : List Int) : List Int := (List.range c.length).map fun n => valZ (c.getD n 0) n 900000 % sz b
def row1 (b : P2) (c : List Int) : List Int := if (row0 b c).getLastD 1 = 0 then (row0 b c).set ((row0 b c).length - 1) 1 else row0 b c
theorem row0_len (b : P2) (c : List Int) : (row0 b c).length = c.length := by unfold row0; rw [List.length_map, List.length_range]
theorem row1_len (b : P2) (c : List Int) : (row1 b c).length = c.length := by
  unfold row1
  split
  · rw [List.length_set, row0_len]
  · exact row0_len b c
theorem row0_mem {b : P2} (h : IsB b) (c : List Int) : ∀ f ∈ row0 b c, 0 ≤ f ∧ f < sz b := by
  intro f hf
  obtain ⟨n, _, rfl⟩ := List.mem_map.mp hf
  have := h.pos
  exact ⟨Int.emod_nonneg _ (by omega), Int.emod_lt_of_pos _ h.pos⟩
theorem row1_is {b : P2} (h : IsB b) {c : List Int} (hc : c ≠ []) : isRow b (row1 b c) = true := by
  have t := h.two
  have hm : ∀ f ∈ row1 b c, 0 ≤ f ∧ f < sz b := by
    unfold row1
    split
    · intro f hf
      rcases List.mem_or_eq_of_mem_set hf with z | z
      · exact row0_mem h c f z
      · rw [z]; omega
    · exact row0_mem h c
  have hl : 0 < (row1 b c).length := by rw [row1_len]; exact List.length_pos_iff.mpr hc
  have hlast : ¬ (row1 b c).getLast? = some 0 := by
    unfold row1
    split
    · rw [List.getLast?_eq_getElem?, List.length_set, List.getElem?_set_self (by rw [row0_len]; have := List.length_pos_iff.mpr hc; omega)]
      decide
    · rename_i z
      intro e
      rw [List.getLastD_eq_getLast?, e] at z
      exact z rfl
  unfold isRow
  rw [decide_eq_false hlast, Bool.and_eq_true, List.all_eq_true]
  exact ⟨fun f hf => by rw [decide_eq_true (hm f hf).1, decide_eq_true (hm f hf).2]; rfl, by simp⟩
theorem law_fn (T : Txt K mg cs) (Z : Err K mg es) {fl : Addr} {fd : FuncData} (F : L2.Fun K "law" "law" s_law fl fd) : FnOk P w K mg base CX0 7 fl fd ["_law_script"] (spLaw K) := by
  refine F.ok sc_law (fun vs H Q E h => ?_) (fun cdv A outer s H vs Q E hr h => ⟨_, trSs _, ?_⟩)
  · obtain ⟨a, ns, rfl, _⟩ := h
    rfl
  · obtain ⟨a, ns, rfl, hS, hn, hb, q⟩ := h
    have hv : IntMulOk (cellA ns 0 + 977 * 3) (cellA ns 0 + 31 * 3 + 5) := val_ok (cell_bits hb 0) (by decide) (by decide)
    have s3 : Sm 3 := by unfold Sm; omega
    refine tSs_ps (ps_set (i := 1) sc_law.nd rfl (.inl rfl) (pe_cal (ok__law_value T) hr (by decide) (by rfl) (pa_cons (pe_cal (ok_cellR T) hr (by decide) (by rfl) (pa_cons (pv 0) (pa_cons pe_int pa_nil))) (pa_cons pe_int (pa_cons pe_int pa_nil))))) ?_
    refine ⟨.ref a, rfl, a, ns, 0, rfl, hS, Int.le_refl 0, [.int (cellA ns 0), .int 3, .int 900000], .int (valZ (cellA ns 0) 3 900000), .cons (.int _) (.cons (.int _) (.cons (.int _) .nil)), ⟨_, _, _, rfl, rfl, by decide, hv, s3⟩, fun v H1 e1 r1 => ?_⟩
    cases rp_int r1
    have hr0 := valZ_lo (cellA ns 0) 3 (m := 900000) (by decide)
    generalize valZ (cellA ns 0) 3 900000 = r at *
    refine tSs_ps (ps_set (i := 2) sc_law.nd rfl (.inr rfl) (pe_lst pa_nil)) ?_
    refine ⟨Nat.zero_le _, fun L hL => ?_⟩
    refine tSs_ps (ps_for PassesOwn.never rfl (pi_range1 (by rfl) T.b_range (pa_cons pe_int pa_nil)) (pg_name (i := 3) sc_law.nd rfl (.inl rfl)) (trSs _)) ?_
    refine ⟨5, rfl, by decide, by decide, ?_⟩
    have g0 : Fr H1 (((L2.start ["_law_script", "_law_far", "_law_due", "_law_k", "_law_base_here", "_law_odd", "_law_bad", "_law_door", "_law_thing", "_law_many", "_law_rows", "_law_numbers"] [V.ref a]).set 1 (some (V.int r))).set 2 (some (V.ref L))) [some (rawD a), some (.int r), none, none, none, none, none, none, none, none, none, none] :=
      (((fr_start (ds := [rawD a]) _ (.cons (.raw a) .nil)).set 1 (d := .int r) (.int r)).hide 2).le ⟨rfl, rfl, trivial⟩
    refine for_range (n := (5 : Int).toNat) (fun i σ' H' => Ex H1 H' ∧ Fr H1 σ' [some (rawD a), some (.int r), none, none, none, none, none, none, none, none, none, none] ∧ σ'[2]? = some (some (V.ref L)) ∧ DueI H' L i) ⟨Ex.new hL, g0, rfl, [], upd_same, rfl, fun j y h => by cases h⟩ (fun i σ' H' hi ⟨e0, fr, h2, hD⟩ => ?_) (fun σ' H' ⟨e0, fr, h2, hD⟩ => ?_)
    · have hi : i < 5 := hi
      have fr3 := fr.set 3 (d := .int (0 + (i : Nat))) (.int _)
      have hl : σ'.length = 12 := fr.len
      obtain ⟨ys, hy, hyl, hyA⟩ := hD
      refine tSs_ps (ps_expr (pe_bm PySem.F.plainAttrs_list PySem.F.slot_list_append PySem.F.type_list_append mt_append (pv 2) (pa_cons (trE _) pa_nil))) ?_
      refine ⟨.ref L, by simpa [List.getElem?_set] using h2, .inl ⟨rfl, _, .inl (.of hy)⟩, ?_⟩
      change tE _ _ _ _ _
      refine EX.go (ex_lst (ea_cons (ex_eqI (ex_var 3 rfl) ex_int) (ea_cons (ex_eqI (ex_var 3 rfl) ex_int) (ea_cons (ex_eqI (ex_var 3 rfl) ex_int) (ea_cons (ex_eqI (ex_var 3 rfl) ex_int) (ea_cons (ex_eqI (ex_var 3 rfl) ex_int) (ea_cons ex_bl ea_nil))))))) fr3 e0 fun v H3 e3 r3 => ?_
      obtain ⟨b, xs, rfl, hbx, qa⟩ := rp_lst r3
      have ex := rpa_blsV (ns := due i) qa
      subst ex
      have hy3 := e3 _ _ hy
      have hne : b ≠ L := fun z => by
        rw [z, hy3] at hbx
        have := congrArg List.length (HO.lst.inj (Option.some.inj hbx))
        rw [hyl, List.length_map] at this
        have : i = 6 := this
        omega
      refine ⟨L, ys, _, rfl, rfl, hy3, by rw [sizeLine_eq]; omega, ?_⟩
      refine tSs_nil ⟨(e0.trans e3).mut hL, (fr.hide (o := some (V.int (0 + (i : Nat)))) 3).le ⟨rfl, rfl, trivial⟩, by simpa [List.getElem?_set] using h2, ys ++ [.ref b], upd_same, by rw [List.length_append, hyl]; rfl, fun j y hj => ?_⟩
      by_cases c : j < ys.length
      · rw [List.getElem?_append_left c] at hj
        obtain ⟨b2, e4, e5, e6⟩ := hyA j y hj
        exact ⟨b2, e4, e5, by rw [upd_ne e5]; exact e3 _ _ e6⟩
      · rw [List.getElem?_append_right (by omega)] at hj
        have hj0 : j - ys.length = 0 := by
          rcases Nat.eq_zero_or_pos (j - ys.length) with z | z
          · exact z
          · rw [List.getElem?_eq_none (by simp; omega)] at hj
            cases hj
        rw [hj0] at hj
        have ey := Option.some.inj hj
        have ej : j = i := by omega
        subst ej
        exact ⟨b, ey.symm, hne, by rw [upd_ne hne]; exact hbx⟩
    · have hD5 : DueI H' L 5 := hD
      have f5 : Fr H' σ' [some (rawD a), some (.int r), some dueD, none, none, none, none, none, none, none, none, none] := ((fr.mono e0).add h2 hD5.data).le ⟨rfl, rfl, rfl, trivial⟩
      obtain ⟨v0, h0, r0⟩ := f5.at_ 0 _ rfl
      cases rp_raw r0
      refine tSs_ps (ps_set (i := 4) sc_law.nd rfl (.inr rfl) (pe_cal (ok_baseR T) hr (by decide) (by rfl) (pa_cons (pv 0) (pa_cons pe_int pa_nil)))) ?_
      refine ⟨.ref a, h0, a, ns, 0, rfl, sqL_mono (e1.trans e0) hS, Int.le_refl 0, fun v H4 e4 r4 => ?_⟩
      have hB := baseZ_is ns 0
      generalize baseZ ns 0 = bb at *
      have f6 : Fr H4 (σ'.set 4 (some v)) [none, some (.int r), some dueD, none, some (dP bb), none, none, none, none, none, none, none] := ((f5.mono e4).set 4 r4).le ⟨rfl, rfl, rfl, trivial⟩
      show tSs _ _ _ (σ'.set 4 (some v)) H4
      exact @tSs_go _ _ _ _ _ _ _ (ok_law_rest T Z hr hB hr0) f6 fun v H' _ r => q v H' (rp_bl r)

theorem all_mk {l : PySem.W.OpenLaw} {w : World} {K : PySem.W.Frag} {h : Heap} {mg : Str → Option Value} {fa CAnswer CTold CRound CAll CLost CBaseError CBadBase CBadPair CBadRow CBadNumber CNever : Addr} (X : K.In h) (G : h.Ns mainGlobals mg) (hfa : mg "law" = some (.ref fa))
    {f1 f2 f3 f4 f5 f6 f7 f8 f9 f10 f11 f12 f13 f14 f15 f16 f17 f18 f19 f20 f21 f22 f23 f24 f25 f26 f27 f28 f29 f30 f31 f32 f33 f34 f35 f36 f37 : Addr} {od1 an1 od2 an2 od3 an3 od4 an4 od5 an5 od6 an6 od7 an7 od8 an8 od9 an9 od10 an10 od11 an11 od12 an12 od13 an13 od14 an14 od15 an15 od16 an16 od17 an17 od18 an18 od19 an19 od20 an20 od21 an21 od22 an22 od23 an23 od24 an24 od25 an25 od26 an26 od27 an27 od28 an28 od29 an29 od30 an30 od31 an31 od32 an32 od33 an33 od34 an34 od35 an35 od36 an36 od37 an37 : Option Addr} {sl1 sl2 sl3 sl4 sl5 sl6 sl7 sl8 sl9 sl10 sl11 sl12 sl13 sl14 sl15 sl16 sl17 sl18 sl19 sl20 sl21 sl22 sl23 sl24 sl25 sl26 sl27 sl28 sl29 sl30 sl31 sl32 sl33 sl34 sl35 sl36 sl37 : Array (Option Value)} {oc1 kV1 dc1 pm1 cd1 ct1 oc2 kV2 dc2 pm2 cd2 ct2 oc3 kV3 dc3 pm3 cd3 ct3 oc4 kV4 dc4 pm4 cd4 ct4 oc5 kV5 dc5 pm5 cd5 ct5 oc6 kV6 dc6 pm6 cd6 ct6 oc7 kV7 dc7 pm7 cd7 ct7 oc8 kV8 dc8 pm8 cd8 ct8 oc9 kV9 dc9 pm9 cd9 ct9 oc10 kV10 dc10 pm10 cd10 ct10 oc11 kV11 dc11 pm11 cd11 ct11 oc12 kV12 dc12 pm12 cd12 ct12 oc13 kV13 dc13 pm13 cd13 ct13 oc14 kV14 dc14 pm14 cd14 ct14 oc15 kV15 dc15 pm15 cd15 ct15 oc16 kV16 dc16 pm16 cd16 ct16 oc17 kV17 dc17 pm17 cd17 ct17 oc18 kV18 dc18 pm18 cd18 ct18 oc19 kV19 dc19 pm19 cd19 ct19 oc20 kV20 dc20 pm20 cd20 ct20 oc21 kV21 dc21 pm21 cd21 ct21 oc22 kV22 dc22 pm22 cd22 ct22 oc23 kV23 dc23 pm23 cd23 ct23 oc24 kV24 dc24 pm24 cd24 ct24 oc25 kV25 dc25 pm25 cd25 ct25 oc26 kV26 dc26 pm26 cd26 ct26 oc27 kV27 dc27 pm27 cd27 ct27 oc28 kV28 dc28 pm28 cd28 ct28 oc29 kV29 dc29 pm29 cd29 ct29 oc30 kV30 dc30 pm30 cd30 ct30 oc31 kV31 dc31 pm31 cd31 ct31 oc32 kV32 dc32 pm32 cd32 ct32 oc33 kV33 dc33 pm33 cd33 ct33 oc34 kV34 dc34 pm34 cd34 ct34 oc35 kV35 dc35 pm35 cd35 ct35 oc36 kV36 dc36 pm36 cd36 ct36 oc37 kV37 dc37 pm37 cd37 ct37 : Value}
    (a1 : PySem.W.nsIn K mainGlobals "is_whole" = some (some (.ref f1)))
    (l1 : K.lookup f1 = some ⟨oc1, od1, .func (PySem.W.fnOf "is_whole" "is_whole" (defArgs s_is_whole) (defBody s_is_whole) (defScope s_is_whole) .none kV1 dc1 pm1 an1 cd1 ct1), sl1⟩)
    (c1 : PySem.W.codeIn K cd1 "is_whole" = true)
    (k1 : PySem.W.keepIn K (.ref f1) = true)
    (a2 : PySem.W.nsIn K mainGlobals "is_pair" = some (some (.ref f2)))
    (l2 : K.lookup f2 = some ⟨oc2, od2, .func (PySem.W.fnOf "is_pair" "is_pair" (defArgs s_is_pair) (defBody s_is_pair) (defScope s_is_pair) .none kV2 dc2 pm2 an2 cd2 ct2), sl2⟩)
    (c2 : PySem.W.codeIn K cd2 "is_pair" = true)
    (k2 : PySem.W.keepIn K (.ref f2) = true)
    (a3 : PySem.W.nsIn K mainGlobals "check_pair" = some (some (.ref f3)))
    (l3 : K.lookup f3 = some ⟨oc3, od3, .func (PySem.W.fnOf "check_pair" "check_pair" (defArgs s_check_pair) (defBody s_check_pair) (defScope s_check_pair) .none kV3 dc3 pm3 an3 cd3 ct3), sl3⟩)
    (c3 : PySem.W.codeIn K cd3 "check_pair" = true)
    (k3 : PySem.W.keepIn K (.ref f3) = true)
    (a4 : PySem.W.nsIn K mainGlobals "common" = some (some (.ref f4)))
    (l4 : K.lookup f4 = some ⟨oc4, od4, .func (PySem.W.fnOf "common" "common" (defArgs s_common) (defBody s_common) (defScope s_common) .none kV4 dc4 pm4 an4 cd4 ct4), sl4⟩)
    (c4 : PySem.W.codeIn K cd4 "common" = true)
    (k4 : PySem.W.keepIn K (.ref f4) = true)
    (a5 : PySem.W.nsIn K mainGlobals "size_of" = some (some (.ref f5)))
    (l5 : K.lookup f5 = some ⟨oc5, od5, .func (PySem.W.fnOf "size_of" "size_of" (defArgs s_size_of) (defBody s_size_of) (defScope s_size_of) .none kV5 dc5 pm5 an5 cd5 ct5), sl5⟩)
    (c5 : PySem.W.codeIn K cd5 "size_of" = true)
    (k5 : PySem.W.keepIn K (.ref f5) = true)
    (a6 : PySem.W.nsIn K mainGlobals "check_base" = some (some (.ref f6)))
    (l6 : K.lookup f6 = some ⟨oc6, od6, .func (PySem.W.fnOf "check_base" "check_base" (defArgs s_check_base) (defBody s_check_base) (defScope s_check_base) .none kV6 dc6 pm6 an6 cd6 ct6), sl6⟩)
    (c6 : PySem.W.codeIn K cd6 "check_base" = true)
    (k6 : PySem.W.keepIn K (.ref f6) = true)
    (a7 : PySem.W.nsIn K mainGlobals "product" = some (some (.ref f7)))
    (l7 : K.lookup f7 = some ⟨oc7, od7, .func (PySem.W.fnOf "product" "product" (defArgs s_product) (defBody s_product) (defScope s_product) .none kV7 dc7 pm7 an7 cd7 ct7), sl7⟩)
    (c7 : PySem.W.codeIn K cd7 "product" = true)
    (k7 : PySem.W.keepIn K (.ref f7) = true)
    (a8 : PySem.W.nsIn K mainGlobals "times" = some (some (.ref f8)))
    (l8 : K.lookup f8 = some ⟨oc8, od8, .func (PySem.W.fnOf "times" "times" (defArgs s_times) (defBody s_times) (defScope s_times) .none kV8 dc8 pm8 an8 cd8 ct8), sl8⟩)
    (c8 : PySem.W.codeIn K cd8 "times" = true)
    (k8 : PySem.W.keepIn K (.ref f8) = true)
    (a9 : PySem.W.nsIn K mainGlobals "size" = some (some (.ref f9)))
    (l9 : K.lookup f9 = some ⟨oc9, od9, .func (PySem.W.fnOf "size" "size" (defArgs s_size) (defBody s_size) (defScope s_size) .none kV9 dc9 pm9 an9 cd9 ct9), sl9⟩)
    (c9 : PySem.W.codeIn K cd9 "size" = true)
    (k9 : PySem.W.keepIn K (.ref f9) = true)
    (a10 : PySem.W.nsIn K mainGlobals "weight_of" = some (some (.ref f10)))
    (l10 : K.lookup f10 = some ⟨oc10, od10, .func (PySem.W.fnOf "weight_of" "weight_of" (defArgs s_weight_of) (defBody s_weight_of) (defScope s_weight_of) .none kV10 dc10 pm10 an10 cd10 ct10), sl10⟩)
    (c10 : PySem.W.codeIn K cd10 "weight_of" = true)
    (k10 : PySem.W.keepIn K (.ref f10) = true)
    (a11 : PySem.W.nsIn K mainGlobals "next_by" = some (some (.ref f11)))
    (l11 : K.lookup f11 = some ⟨oc11, od11, .func (PySem.W.fnOf "next_by" "next_by" (defArgs s_next_by) (defBody s_next_by) (defScope s_next_by) .none kV11 dc11 pm11 an11 cd11 ct11), sl11⟩)
    (c11 : PySem.W.codeIn K cd11 "next_by" = true)
    (k11 : PySem.W.keepIn K (.ref f11) = true)
    (a12 : PySem.W.nsIn K mainGlobals "step" = some (some (.ref f12)))
    (l12 : K.lookup f12 = some ⟨oc12, od12, .func (PySem.W.fnOf "step" "step" (defArgs s_step) (defBody s_step) (defScope s_step) .none kV12 dc12 pm12 an12 cd12 ct12), sl12⟩)
    (c12 : PySem.W.codeIn K cd12 "step" = true)
    (k12 : PySem.W.keepIn K (.ref f12) = true)
    (a13 : PySem.W.nsIn K mainGlobals "read_by" = some (some (.ref f13)))
    (l13 : K.lookup f13 = some ⟨oc13, od13, .func (PySem.W.fnOf "read_by" "read_by" (defArgs s_read_by) (defBody s_read_by) (defScope s_read_by) .none kV13 dc13 pm13 an13 cd13 ct13), sl13⟩)
    (c13 : PySem.W.codeIn K cd13 "read_by" = true)
    (k13 : PySem.W.keepIn K (.ref f13) = true)
    (a14 : PySem.W.nsIn K mainGlobals "told_by" = some (some (.ref f14)))
    (l14 : K.lookup f14 = some ⟨oc14, od14, .func (PySem.W.fnOf "told_by" "told_by" (defArgs s_told_by) (defBody s_told_by) (defScope s_told_by) .none kV14 dc14 pm14 an14 cd14 ct14), sl14⟩)
    (c14 : PySem.W.codeIn K cd14 "told_by" = true)
    (k14 : PySem.W.keepIn K (.ref f14) = true)
    (a15 : PySem.W.nsIn K mainGlobals "lost_by" = some (some (.ref f15)))
    (l15 : K.lookup f15 = some ⟨oc15, od15, .func (PySem.W.fnOf "lost_by" "lost_by" (defArgs s_lost_by) (defBody s_lost_by) (defScope s_lost_by) .none kV15 dc15 pm15 an15 cd15 ct15), sl15⟩)
    (c15 : PySem.W.codeIn K cd15 "lost_by" = true)
    (k15 : PySem.W.keepIn K (.ref f15) = true)
    (aTold : PySem.W.nsIn K mainGlobals "Told" = some (some (.ref CTold)))
    (a16 : PySem.W.findIn K (.ref CTold) "__init__" = some (some (.ref f16)))
    (i16 : PySem.W.isFn K (.ref f16) = true)
    (l16 : K.lookup f16 = some ⟨oc16, od16, .func (PySem.W.fnOf "__init__" "Told.__init__" (defArgs s_Told___init__) (defBody s_Told___init__) (defScope s_Told___init__) .none kV16 dc16 pm16 an16 cd16 ct16), sl16⟩)
    (c16 : PySem.W.codeIn K cd16 "Told.__init__" = true)
    (k16 : PySem.W.keepIn K (.ref f16) = true)
    (mkTold : PySem.W.makesIn K CTold = true)
    (kcTold : PySem.W.keepIn K (.ref CTold) = true)
    (aRound : PySem.W.nsIn K mainGlobals "Round" = some (some (.ref CRound)))
    (a17 : PySem.W.findIn K (.ref CRound) "__init__" = some (some (.ref f17)))
    (i17 : PySem.W.isFn K (.ref f17) = true)
    (l17 : K.lookup f17 = some ⟨oc17, od17, .func (PySem.W.fnOf "__init__" "Round.__init__" (defArgs s_Round___init__) (defBody s_Round___init__) (defScope s_Round___init__) .none kV17 dc17 pm17 an17 cd17 ct17), sl17⟩)
    (c17 : PySem.W.codeIn K cd17 "Round.__init__" = true)
    (k17 : PySem.W.keepIn K (.ref f17) = true)
    (mkRound : PySem.W.makesIn K CRound = true)
    (kcRound : PySem.W.keepIn K (.ref CRound) = true)
    (aLost : PySem.W.nsIn K mainGlobals "Lost" = some (some (.ref CLost)))
    (a18 : PySem.W.findIn K (.ref CLost) "__init__" = some (some (.ref f18)))
    (i18 : PySem.W.isFn K (.ref f18) = true)
    (l18 : K.lookup f18 = some ⟨oc18, od18, .func (PySem.W.fnOf "__init__" "Lost.__init__" (defArgs s_Lost___init__) (defBody s_Lost___init__) (defScope s_Lost___init__) .none kV18 dc18 pm18 an18 cd18 ct18), sl18⟩)
    (c18 : PySem.W.codeIn K cd18 "Lost.__init__" = true)
    (k18 : PySem.W.keepIn K (.ref f18) = true)
    (mkLost : PySem.W.makesIn K CLost = true)
    (kcLost : PySem.W.keepIn K (.ref CLost) = true)
    (a19 : PySem.W.nsIn K mainGlobals "pair_by" = some (some (.ref f19)))
    (l19 : K.lookup f19 = some ⟨oc19, od19, .func (PySem.W.fnOf "pair_by" "pair_by" (defArgs s_pair_by) (defBody s_pair_by) (defScope s_pair_by) .none kV19 dc19 pm19 an19 cd19 ct19), sl19⟩)
    (c19 : PySem.W.codeIn K cd19 "pair_by" = true)
    (k19 : PySem.W.keepIn K (.ref f19) = true)
    (a20 : PySem.W.nsIn K mainGlobals "number_of" = some (some (.ref f20)))
    (l20 : K.lookup f20 = some ⟨oc20, od20, .func (PySem.W.fnOf "number_of" "number_of" (defArgs s_number_of) (defBody s_number_of) (defScope s_number_of) .none kV20 dc20 pm20 an20 cd20 ct20), sl20⟩)
    (c20 : PySem.W.codeIn K cd20 "number_of" = true)
    (k20 : PySem.W.keepIn K (.ref f20) = true)
    (a21 : PySem.W.nsIn K mainGlobals "is_row" = some (some (.ref f21)))
    (l21 : K.lookup f21 = some ⟨oc21, od21, .func (PySem.W.fnOf "is_row" "is_row" (defArgs s_is_row) (defBody s_is_row) (defScope s_is_row) .none kV21 dc21 pm21 an21 cd21 ct21), sl21⟩)
    (c21 : PySem.W.codeIn K cd21 "is_row" = true)
    (k21 : PySem.W.keepIn K (.ref f21) = true)
    (a22 : PySem.W.nsIn K mainGlobals "read" = some (some (.ref f22)))
    (l22 : K.lookup f22 = some ⟨oc22, od22, .func (PySem.W.fnOf "read" "read" (defArgs s_read) (defBody s_read) (defScope s_read) .none kV22 dc22 pm22 an22 cd22 ct22), sl22⟩)
    (c22 : PySem.W.codeIn K cd22 "read" = true)
    (k22 : PySem.W.keepIn K (.ref f22) = true)
    (a23 : PySem.W.nsIn K mainGlobals "told" = some (some (.ref f23)))
    (l23 : K.lookup f23 = some ⟨oc23, od23, .func (PySem.W.fnOf "told" "told" (defArgs s_told) (defBody s_told) (defScope s_told) .none kV23 dc23 pm23 an23 cd23 ct23), sl23⟩)
    (c23 : PySem.W.codeIn K cd23 "told" = true)
    (k23 : PySem.W.keepIn K (.ref f23) = true)
    (a24 : PySem.W.nsIn K mainGlobals "all_told" = some (some (.ref f24)))
    (l24 : K.lookup f24 = some ⟨oc24, od24, .func (PySem.W.fnOf "all_told" "all_told" (defArgs s_all_told) (defBody s_all_told) (defScope s_all_told) .none kV24 dc24 pm24 an24 cd24 ct24), sl24⟩)
    (c24 : PySem.W.codeIn K cd24 "all_told" = true)
    (k24 : PySem.W.keepIn K (.ref f24) = true)
    (a25 : PySem.W.nsIn K mainGlobals "_law_cell_at" = some (some (.ref f25)))
    (l25 : K.lookup f25 = some ⟨oc25, od25, .func (PySem.W.fnOf "_law_cell_at" "_law_cell_at" (defArgs s__law_cell_at) (defBody s__law_cell_at) (defScope s__law_cell_at) .none kV25 dc25 pm25 an25 cd25 ct25), sl25⟩)
    (c25 : PySem.W.codeIn K cd25 "_law_cell_at" = true)
    (k25 : PySem.W.keepIn K (.ref f25) = true)
    (a26 : PySem.W.nsIn K mainGlobals "_law_draw" = some (some (.ref f26)))
    (l26 : K.lookup f26 = some ⟨oc26, od26, .func (PySem.W.fnOf "_law_draw" "_law_draw" (defArgs s__law_draw) (defBody s__law_draw) (defScope s__law_draw) .none kV26 dc26 pm26 an26 cd26 ct26), sl26⟩)
    (c26 : PySem.W.codeIn K cd26 "_law_draw" = true)
    (k26 : PySem.W.keepIn K (.ref f26) = true)
    (a27 : PySem.W.nsIn K mainGlobals "_law_value" = some (some (.ref f27)))
    (l27 : K.lookup f27 = some ⟨oc27, od27, .func (PySem.W.fnOf "_law_value" "_law_value" (defArgs s__law_value) (defBody s__law_value) (defScope s__law_value) .none kV27 dc27 pm27 an27 cd27 ct27), sl27⟩)
    (c27 : PySem.W.codeIn K cd27 "_law_value" = true)
    (k27 : PySem.W.keepIn K (.ref f27) = true)
    (a28 : PySem.W.nsIn K mainGlobals "_law_common" = some (some (.ref f28)))
    (l28 : K.lookup f28 = some ⟨oc28, od28, .func (PySem.W.fnOf "_law_common" "_law_common" (defArgs s__law_common) (defBody s__law_common) (defScope s__law_common) .none kV28 dc28 pm28 an28 cd28 ct28), sl28⟩)
    (c28 : PySem.W.codeIn K cd28 "_law_common" = true)
    (k28 : PySem.W.keepIn K (.ref f28) = true)
    (a29 : PySem.W.nsIn K mainGlobals "_law_base" = some (some (.ref f29)))
    (l29 : K.lookup f29 = some ⟨oc29, od29, .func (PySem.W.fnOf "_law_base" "_law_base" (defArgs s__law_base) (defBody s__law_base) (defScope s__law_base) .none kV29 dc29 pm29 an29 cd29 ct29), sl29⟩)
    (c29 : PySem.W.codeIn K cd29 "_law_base" = true)
    (k29 : PySem.W.keepIn K (.ref f29) = true)
    (a30 : PySem.W.nsIn K mainGlobals "_law_size" = some (some (.ref f30)))
    (l30 : K.lookup f30 = some ⟨oc30, od30, .func (PySem.W.fnOf "_law_size" "_law_size" (defArgs s__law_size) (defBody s__law_size) (defScope s__law_size) .none kV30 dc30 pm30 an30 cd30 ct30), sl30⟩)
    (c30 : PySem.W.codeIn K cd30 "_law_size" = true)
    (k30 : PySem.W.keepIn K (.ref f30) = true)
    (a31 : PySem.W.nsIn K mainGlobals "_law_kinds" = some (some (.ref f31)))
    (l31 : K.lookup f31 = some ⟨oc31, od31, .func (PySem.W.fnOf "_law_kinds" "_law_kinds" (defArgs s__law_kinds) (defBody s__law_kinds) (defScope s__law_kinds) .none kV31 dc31 pm31 an31 cd31 ct31), sl31⟩)
    (c31 : PySem.W.codeIn K cd31 "_law_kinds" = true)
    (k31 : PySem.W.keepIn K (.ref f31) = true)
    (a32 : PySem.W.nsIn K mainGlobals "_law_with_base" = some (some (.ref f32)))
    (l32 : K.lookup f32 = some ⟨oc32, od32, .func (PySem.W.fnOf "_law_with_base" "_law_with_base" (defArgs s__law_with_base) (defBody s__law_with_base) (defScope s__law_with_base) .none kV32 dc32 pm32 an32 cd32 ct32), sl32⟩)
    (c32 : PySem.W.codeIn K cd32 "_law_with_base" = true)
    (k32 : PySem.W.keepIn K (.ref f32) = true)
    (a33 : PySem.W.nsIn K mainGlobals "_law_with_pair" = some (some (.ref f33)))
    (l33 : K.lookup f33 = some ⟨oc33, od33, .func (PySem.W.fnOf "_law_with_pair" "_law_with_pair" (defArgs s__law_with_pair) (defBody s__law_with_pair) (defScope s__law_with_pair) .none kV33 dc33 pm33 an33 cd33 ct33), sl33⟩)
    (c33 : PySem.W.codeIn K cd33 "_law_with_pair" = true)
    (k33 : PySem.W.keepIn K (.ref f33) = true)
    (a34 : PySem.W.nsIn K mainGlobals "_law_with_row" = some (some (.ref f34)))
    (l34 : K.lookup f34 = some ⟨oc34, od34, .func (PySem.W.fnOf "_law_with_row" "_law_with_row" (defArgs s__law_with_row) (defBody s__law_with_row) (defScope s__law_with_row) .none kV34 dc34 pm34 an34 cd34 ct34), sl34⟩)
    (c34 : PySem.W.codeIn K cd34 "_law_with_row" = true)
    (k34 : PySem.W.keepIn K (.ref f34) = true)
    (a35 : PySem.W.nsIn K mainGlobals "_law_with_number" = some (some (.ref f35)))
    (l35 : K.lookup f35 = some ⟨oc35, od35, .func (PySem.W.fnOf "_law_with_number" "_law_with_number" (defArgs s__law_with_number) (defBody s__law_with_number) (defScope s__law_with_number) .none kV35 dc35 pm35 an35 cd35 ct35), sl35⟩)
    (c35 : PySem.W.codeIn K cd35 "_law_with_number" = true)
    (k35 : PySem.W.keepIn K (.ref f35) = true)
    (a36 : PySem.W.nsIn K mainGlobals "_law_told" = some (some (.ref f36)))
    (l36 : K.lookup f36 = some ⟨oc36, od36, .func (PySem.W.fnOf "_law_told" "_law_told" (defArgs s__law_told) (defBody s__law_told) (defScope s__law_told) .none kV36 dc36 pm36 an36 cd36 ct36), sl36⟩)
    (c36 : PySem.W.codeIn K cd36 "_law_told" = true)
    (k36 : PySem.W.keepIn K (.ref f36) = true)
    (a37 : PySem.W.nsIn K mainGlobals "law" = some (some (.ref f37)))
    (l37 : K.lookup f37 = some ⟨oc37, od37, .func (PySem.W.fnOf "law" "law" (defArgs s_law) (defBody s_law) (defScope s_law) .none kV37 dc37 pm37 an37 cd37 ct37), sl37⟩)
    (c37 : PySem.W.codeIn K cd37 "law" = true)
    (k37 : PySem.W.keepIn K (.ref f37) = true)
    (zlen : PySem.W.nsIn K mainGlobals "len" = some none)
    (zabs : PySem.W.nsIn K mainGlobals "abs" = some none)
    (zall : PySem.W.nsIn K mainGlobals "all" = some none)
    (zany : PySem.W.nsIn K mainGlobals "any" = some none)
    (zlist : PySem.W.nsIn K mainGlobals "list" = some none)
    (zisinstance : PySem.W.nsIn K mainGlobals "isinstance" = some none)
    (zint : PySem.W.nsIn K mainGlobals "int" = some none)
    (zbool : PySem.W.nsIn K mainGlobals "bool" = some none)
    (ztuple : PySem.W.nsIn K mainGlobals "tuple" = some none)
    (zmax : PySem.W.nsIn K mainGlobals "max" = some none)
    (zmin : PySem.W.nsIn K mainGlobals "min" = some none)
    (zrange : PySem.W.nsIn K mainGlobals "range" = some none)
    (zset : PySem.W.nsIn K mainGlobals "set" = some none)
    (zenumerate : PySem.W.nsIn K mainGlobals "enumerate" = some none)
    (zValueError : PySem.W.nsIn K mainGlobals "ValueError" = some none)
    (aMost : ∃ t, PySem.W.nsIn K mainGlobals "MOST" = some (some (.int 30 t)))
    (pgTold : PySem.W.plainGet K CTold Str.empty = true)
    (hdTold : PySem.W.hasDictIn K CTold = true)
    (poTold : PySem.W.plainOver K CTold = true)
    (saTold : PySem.W.findIn K (.ref CTold) "__setattr__" = some (some (.builtin "object.__setattr__")))
    (haTold : PySem.W.findIn K (.ref CTold) "__class__" = some (some (.builtin "object.__class__")))
    (hmTold : PySem.W.mroIn K CTold (.type "object") = some true)
    (naTold : PySem.W.findIn K (.ref CTold) "row" = some none)
    (pgRound : PySem.W.plainGet K CRound Str.empty = true)
    (hdRound : PySem.W.hasDictIn K CRound = true)
    (poRound : PySem.W.plainOver K CRound = true)
    (saRound : PySem.W.findIn K (.ref CRound) "__setattr__" = some (some (.builtin "object.__setattr__")))
    (haRound : PySem.W.findIn K (.ref CRound) "__class__" = some (some (.builtin "object.__class__")))
    (hmRound : PySem.W.mroIn K CRound (.type "object") = some true)
    (naRound : PySem.W.findIn K (.ref CRound) "pairs" = some none)
    (aAll : PySem.W.nsIn K mainGlobals "All" = some (some (.ref CAll)))
    (pgAll : PySem.W.plainGet K CAll Str.empty = true)
    (hdAll : PySem.W.hasDictIn K CAll = true)
    (poAll : PySem.W.plainOver K CAll = true)
    (saAll : PySem.W.findIn K (.ref CAll) "__setattr__" = some (some (.builtin "object.__setattr__")))
    (haAll : PySem.W.findIn K (.ref CAll) "__class__" = some (some (.builtin "object.__class__")))
    (hmAll : PySem.W.mroIn K CAll (.type "object") = some true)
    (mkAll : PySem.W.makesIn K CAll = true)
    (inAll : PySem.W.findIn K (.ref CAll) "__init__" = some (some (.builtin "object.__init__")))
    (kcAll : PySem.W.keepIn K (.ref CAll) = true)
    (pgLost : PySem.W.plainGet K CLost Str.empty = true)
    (hdLost : PySem.W.hasDictIn K CLost = true)
    (poLost : PySem.W.plainOver K CLost = true)
    (saLost : PySem.W.findIn K (.ref CLost) "__setattr__" = some (some (.builtin "object.__setattr__")))
    (haLost : PySem.W.findIn K (.ref CLost) "__class__" = some (some (.builtin "object.__class__")))
    (hmLost : PySem.W.mroIn K CLost (.type "object") = some true)
    (naLost : PySem.W.findIn K (.ref CLost) "pair" = some none)
    (aBaseError : PySem.W.nsIn K mainGlobals "BaseError" = some (some (.ref CBaseError)))
    (be_d : PySem.W.hasDictIn K CBaseError = true)
    (be_t : PySem.W.typeIn K (.ref CBaseError) = some (.type "type"))
    (be_s : PySem.W.subIn K (.ref CBaseError) (.type "BaseException") = some true)
    (aBadBase : PySem.W.nsIn K mainGlobals "BadBase" = some (some (.ref CBadBase)))
    (xBadBase : PySem.W.excIn K CBadBase [.type "ValueError", .type "Exception", .type "BaseException", .type "object"] "ValueError.__new__" = true)
    (ekBadBase : PySem.W.keepIn K (.ref CBadBase) = true)
    (ebBadBase : PySem.W.subIn K (.ref CBadBase) (.type "BaseException") = some true)
    (etBadBase : PySem.W.typeIn K (.ref CBadBase) = some (.type "type"))
    (egBadBase : PySem.W.findIn K (.ref CBadBase) "__getattribute__" = some (some (.builtin "BaseException.__getattribute__")))
    (ehBadBase : PySem.W.findIn K (.ref CBadBase) "__getattr__" = some none)
    (edBadBase : PySem.W.hasDictIn K CBadBase = true)
    (eaBadBase : PySem.W.findIn K (.ref CBadBase) "__class__" = some (some (.builtin "object.__class__")))
    (emBadBase : PySem.W.mroIn K CBadBase (.type "object") = some true)
    (ksubBadBase : PySem.W.subIn K (.ref CBadBase) (.ref CBaseError) = some true)
    (kkitBadBaseBadBase : PySem.W.kitOne K (.ref CBadBase) (.ref CBadBase) = some true)
    (aBadPair : PySem.W.nsIn K mainGlobals "BadPair" = some (some (.ref CBadPair)))
    (kkitBadBaseBadPair : PySem.W.kitOne K (.ref CBadBase) (.ref CBadPair) = some false)
    (aBadRow : PySem.W.nsIn K mainGlobals "BadRow" = some (some (.ref CBadRow)))
    (kkitBadBaseBadRow : PySem.W.kitOne K (.ref CBadBase) (.ref CBadRow) = some false)
    (aBadNumber : PySem.W.nsIn K mainGlobals "BadNumber" = some (some (.ref CBadNumber)))
    (kkitBadBaseBadNumber : PySem.W.kitOne K (.ref CBadBase) (.ref CBadNumber) = some false)
    (aNever : PySem.W.nsIn K mainGlobals "Never" = some (some (.ref CNever)))
    (kkitBadBaseNever : PySem.W.kitOne K (.ref CBadBase) (.ref CNever) = some false)
    (kkitBadBaseValueError : PySem.W.kitOne K (.ref CBadBase) (.type "ValueError") = some true)
    (xBadPair : PySem.W.excIn K CBadPair [.type "ValueError", .type "Exception", .type "BaseException", .type "object"] "ValueError.__new__" = true)
    (ekBadPair : PySem.W.keepIn K (.ref CBadPair) = true)
    (ebBadPair : PySem.W.subIn K (.ref CBadPair) (.type "BaseException") = some true)
    (etBadPair : PySem.W.typeIn K (.ref CBadPair) = some (.type "type"))
    (egBadPair : PySem.W.findIn K (.ref CBadPair) "__getattribute__" = some (some (.builtin "BaseException.__getattribute__")))
    (ehBadPair : PySem.W.findIn K (.ref CBadPair) "__getattr__" = some none)
    (edBadPair : PySem.W.hasDictIn K CBadPair = true)
    (eaBadPair : PySem.W.findIn K (.ref CBadPair) "__class__" = some (some (.builtin "object.__class__")))
    (emBadPair : PySem.W.mroIn K CBadPair (.type "object") = some true)
    (ksubBadPair : PySem.W.subIn K (.ref CBadPair) (.ref CBaseError) = some true)
    (kkitBadPairBadBase : PySem.W.kitOne K (.ref CBadPair) (.ref CBadBase) = some false)
    (kkitBadPairBadPair : PySem.W.kitOne K (.ref CBadPair) (.ref CBadPair) = some true)
    (kkitBadPairBadRow : PySem.W.kitOne K (.ref CBadPair) (.ref CBadRow) = some false)
    (kkitBadPairBadNumber : PySem.W.kitOne K (.ref CBadPair) (.ref CBadNumber) = some false)
    (kkitBadPairNever : PySem.W.kitOne K (.ref CBadPair) (.ref CNever) = some false)
    (kkitBadPairValueError : PySem.W.kitOne K (.ref CBadPair) (.type "ValueError") = some true)
    (xBadRow : PySem.W.excIn K CBadRow [.type "ValueError", .type "Exception", .type "BaseException", .type "object"] "ValueError.__new__" = true)
    (ekBadRow : PySem.W.keepIn K (.ref CBadRow) = true)
    (ebBadRow : PySem.W.subIn K (.ref CBadRow) (.type "BaseException") = some true)
    (etBadRow : PySem.W.typeIn K (.ref CBadRow) = some (.type "type"))
    (egBadRow : PySem.W.findIn K (.ref CBadRow) "__getattribute__" = some (some (.builtin "BaseException.__getattribute__")))
    (ehBadRow : PySem.W.findIn K (.ref CBadRow) "__getattr__" = some none)
    (edBadRow : PySem.W.hasDictIn K CBadRow = true)
    (eaBadRow : PySem.W.findIn K (.ref CBadRow) "__class__" = some (some (.builtin "object.__class__")))
    (emBadRow : PySem.W.mroIn K CBadRow (.type "object") = some true)
    (ksubBadRow : PySem.W.subIn K (.ref CBadRow) (.ref CBaseError) = some true)
    (kkitBadRowBadBase : PySem.W.kitOne K (.ref CBadRow) (.ref CBadBase) = some false)
    (kkitBadRowBadPair : PySem.W.kitOne K (.ref CBadRow) (.ref CBadPair) = some false)
    (kkitBadRowBadRow : PySem.W.kitOne K (.ref CBadRow) (.ref CBadRow) = some true)
    (kkitBadRowBadNumber : PySem.W.kitOne K (.ref CBadRow) (.ref CBadNumber) = some false)
    (kkitBadRowNever : PySem.W.kitOne K (.ref CBadRow) (.ref CNever) = some false)
    (kkitBadRowValueError : PySem.W.kitOne K (.ref CBadRow) (.type "ValueError") = some true)
    (xBadNumber : PySem.W.excIn K CBadNumber [.type "ValueError", .type "Exception", .type "BaseException", .type "object"] "ValueError.__new__" = true)
    (ekBadNumber : PySem.W.keepIn K (.ref CBadNumber) = true)
    (ebBadNumber : PySem.W.subIn K (.ref CBadNumber) (.type "BaseException") = some true)
    (etBadNumber : PySem.W.typeIn K (.ref CBadNumber) = some (.type "type"))
    (egBadNumber : PySem.W.findIn K (.ref CBadNumber) "__getattribute__" = some (some (.builtin "BaseException.__getattribute__")))
    (ehBadNumber : PySem.W.findIn K (.ref CBadNumber) "__getattr__" = some none)
    (edBadNumber : PySem.W.hasDictIn K CBadNumber = true)
    (eaBadNumber : PySem.W.findIn K (.ref CBadNumber) "__class__" = some (some (.builtin "object.__class__")))
    (emBadNumber : PySem.W.mroIn K CBadNumber (.type "object") = some true)
    (ksubBadNumber : PySem.W.subIn K (.ref CBadNumber) (.ref CBaseError) = some true)
    (kkitBadNumberBadBase : PySem.W.kitOne K (.ref CBadNumber) (.ref CBadBase) = some false)
    (kkitBadNumberBadPair : PySem.W.kitOne K (.ref CBadNumber) (.ref CBadPair) = some false)
    (kkitBadNumberBadRow : PySem.W.kitOne K (.ref CBadNumber) (.ref CBadRow) = some false)
    (kkitBadNumberBadNumber : PySem.W.kitOne K (.ref CBadNumber) (.ref CBadNumber) = some true)
    (kkitBadNumberNever : PySem.W.kitOne K (.ref CBadNumber) (.ref CNever) = some false)
    (kkitBadNumberValueError : PySem.W.kitOne K (.ref CBadNumber) (.type "ValueError") = some true)
    (xNever : PySem.W.excIn K CNever [.type "ValueError", .type "Exception", .type "BaseException", .type "object"] "ValueError.__new__" = true)
    (ekNever : PySem.W.keepIn K (.ref CNever) = true)
    (ebNever : PySem.W.subIn K (.ref CNever) (.type "BaseException") = some true)
    (etNever : PySem.W.typeIn K (.ref CNever) = some (.type "type"))
    (egNever : PySem.W.findIn K (.ref CNever) "__getattribute__" = some (some (.builtin "BaseException.__getattribute__")))
    (ehNever : PySem.W.findIn K (.ref CNever) "__getattr__" = some none)
    (edNever : PySem.W.hasDictIn K CNever = true)
    (eaNever : PySem.W.findIn K (.ref CNever) "__class__" = some (some (.builtin "object.__class__")))
    (emNever : PySem.W.mroIn K CNever (.type "object") = some true)
    (ksubNever : PySem.W.subIn K (.ref CNever) (.ref CBaseError) = some true)
    (kkitNeverBadBase : PySem.W.kitOne K (.ref CNever) (.ref CBadBase) = some false)
    (kkitNeverBadPair : PySem.W.kitOne K (.ref CNever) (.ref CBadPair) = some false)
    (kkitNeverBadRow : PySem.W.kitOne K (.ref CNever) (.ref CBadRow) = some false)
    (kkitNeverBadNumber : PySem.W.kitOne K (.ref CNever) (.ref CBadNumber) = some false)
    (kkitNeverNever : PySem.W.kitOne K (.ref CNever) (.ref CNever) = some true)
    (kkitNeverValueError : PySem.W.kitOne K (.ref CNever) (.type "ValueError") = some true)
    (hN : PySem.W.specialIn K (.builtin "object.__class__") "__get__" = some (some (.builtin "getset_descriptor.__get__")))
    (hT : PySem.W.takesIn K (.builtin "object.__class__") = some true) :
    ∃ fd : FuncData, (∀ (s : Shared) (v : Value), BindsTo s fd ⟨[v], []⟩ [("_law_script", v)]) ∧ ∀ base : Heap, K.In base → base.Ns mainGlobals mg → FnOk l.prog w K mg base CX0 7 fa fd ["_law_script"] (spLaw K) := by
  have e := hfa.symm.trans (PySem.W.mg_of X G a37)
  cases e
  have T : Txt K mg ⟨CAnswer, CTold, CRound, CAll, CLost⟩ := {
    d_is_whole := ⟨⟨_, _, fun_mk (st := s_is_whole) l1 c1 k1, PySem.W.mg_of X G a1, (fun_mk (st := s_is_whole) l1 c1 k1).binds (ps := ["thing"]) fun _ _ _ _ _ _ us hl => match us, hl with | [_], _ => rfl⟩⟩,
    d_is_pair := ⟨⟨_, _, fun_mk (st := s_is_pair) l2 c2 k2, PySem.W.mg_of X G a2, (fun_mk (st := s_is_pair) l2 c2 k2).binds (ps := ["thing"]) fun _ _ _ _ _ _ us hl => match us, hl with | [_], _ => rfl⟩⟩,
    d_check_pair := ⟨⟨_, _, fun_mk (st := s_check_pair) l3 c3 k3, PySem.W.mg_of X G a3, (fun_mk (st := s_check_pair) l3 c3 k3).binds (ps := ["pair"]) fun _ _ _ _ _ _ us hl => match us, hl with | [_], _ => rfl⟩⟩,
    d_common := ⟨⟨_, _, fun_mk (st := s_common) l4 c4 k4, PySem.W.mg_of X G a4, (fun_mk (st := s_common) l4 c4 k4).binds (ps := ["one", "other"]) fun _ _ _ _ _ _ us hl => match us, hl with | [_, _], _ => rfl⟩⟩,
    d_size_of := ⟨⟨_, _, fun_mk (st := s_size_of) l5 c5 k5, PySem.W.mg_of X G a5, (fun_mk (st := s_size_of) l5 c5 k5).binds (ps := ["base"]) fun _ _ _ _ _ _ us hl => match us, hl with | [_], _ => rfl⟩⟩,
    d_check_base := ⟨⟨_, _, fun_mk (st := s_check_base) l6 c6 k6, PySem.W.mg_of X G a6, (fun_mk (st := s_check_base) l6 c6 k6).binds (ps := ["base"]) fun _ _ _ _ _ _ us hl => match us, hl with | [_], _ => rfl⟩⟩,
    d_product := ⟨⟨_, _, fun_mk (st := s_product) l7 c7 k7, PySem.W.mg_of X G a7, (fun_mk (st := s_product) l7 c7 k7).binds (ps := ["one", "other"]) fun _ _ _ _ _ _ us hl => match us, hl with | [_, _], _ => rfl⟩⟩,
    d_times := ⟨⟨_, _, fun_mk (st := s_times) l8 c8 k8, PySem.W.mg_of X G a8, (fun_mk (st := s_times) l8 c8 k8).binds (ps := ["one", "other"]) fun _ _ _ _ _ _ us hl => match us, hl with | [_, _], _ => rfl⟩⟩,
    d_size := ⟨⟨_, _, fun_mk (st := s_size) l9 c9 k9, PySem.W.mg_of X G a9, (fun_mk (st := s_size) l9 c9 k9).binds (ps := ["base"]) fun _ _ _ _ _ _ us hl => match us, hl with | [_], _ => rfl⟩⟩,
    d_weight_of := ⟨⟨_, _, fun_mk (st := s_weight_of) l10 c10 k10, PySem.W.mg_of X G a10, (fun_mk (st := s_weight_of) l10 c10 k10).binds (ps := ["base"]) fun _ _ _ _ _ _ us hl => match us, hl with | [_], _ => rfl⟩⟩,
    d_next_by := ⟨⟨_, _, fun_mk (st := s_next_by) l11 c11 k11, PySem.W.mg_of X G a11, (fun_mk (st := s_next_by) l11 c11 k11).binds (ps := ["base", "weight", "pair"]) fun _ _ _ _ _ _ us hl => match us, hl with | [_, _, _], _ => rfl⟩⟩,
    d_step := ⟨⟨_, _, fun_mk (st := s_step) l12 c12 k12, PySem.W.mg_of X G a12, (fun_mk (st := s_step) l12 c12 k12).binds (ps := ["base", "pair"]) fun _ _ _ _ _ _ us hl => match us, hl with | [_, _], _ => rfl⟩⟩,
    d_read_by := ⟨⟨_, _, fun_mk (st := s_read_by) l13 c13 k13, PySem.W.mg_of X G a13, (fun_mk (st := s_read_by) l13 c13 k13).binds (ps := ["base", "row"]) fun _ _ _ _ _ _ us hl => match us, hl with | [_, _], _ => rfl⟩⟩,
    d_told_by := ⟨⟨_, _, fun_mk (st := s_told_by) l14 c14 k14, PySem.W.mg_of X G a14, (fun_mk (st := s_told_by) l14 c14 k14).binds (ps := ["base", "pair"]) fun _ _ _ _ _ _ us hl => match us, hl with | [_, _], _ => rfl⟩⟩,
    d_lost_by := ⟨⟨_, _, fun_mk (st := s_lost_by) l15 c15 k15, PySem.W.mg_of X G a15, (fun_mk (st := s_lost_by) l15 c15 k15).binds (ps := ["base"]) fun _ _ _ _ _ _ us hl => match us, hl with | [_], _ => rfl⟩⟩,
    mk_Told := ⟨⟨_, _, ⟨mkTold, a16, i16, kcTold⟩, fun_mk (st := s_Told___init__) l16 c16 k16, (fun_mk (st := s_Told___init__) l16 c16 k16).binds (ps := ["self", "row"]) fun _ _ _ _ _ _ us hl => match us, hl with | [_, _], _ => rfl⟩, PySem.W.mg_of X G aTold⟩,
    mk_Round := ⟨⟨_, _, ⟨mkRound, a17, i17, kcRound⟩, fun_mk (st := s_Round___init__) l17 c17 k17, (fun_mk (st := s_Round___init__) l17 c17 k17).binds (ps := ["self", "pairs"]) fun _ _ _ _ _ _ us hl => match us, hl with | [_, _], _ => rfl⟩, PySem.W.mg_of X G aRound⟩,
    mk_Lost := ⟨⟨_, _, ⟨mkLost, a18, i18, kcLost⟩, fun_mk (st := s_Lost___init__) l18 c18 k18, (fun_mk (st := s_Lost___init__) l18 c18 k18).binds (ps := ["self", "pair"]) fun _ _ _ _ _ _ us hl => match us, hl with | [_, _], _ => rfl⟩, PySem.W.mg_of X G aLost⟩,
    d_pair_by := ⟨⟨_, _, fun_mk (st := s_pair_by) l19 c19 k19, PySem.W.mg_of X G a19, (fun_mk (st := s_pair_by) l19 c19 k19).binds (ps := ["base", "number"]) fun _ _ _ _ _ _ us hl => match us, hl with | [_, _], _ => rfl⟩⟩,
    d_number_of := ⟨⟨_, _, fun_mk (st := s_number_of) l20 c20 k20, PySem.W.mg_of X G a20, (fun_mk (st := s_number_of) l20 c20 k20).binds (ps := ["base", "pair"]) fun _ _ _ _ _ _ us hl => match us, hl with | [_, _], _ => rfl⟩⟩,
    d_is_row := ⟨⟨_, _, fun_mk (st := s_is_row) l21 c21 k21, PySem.W.mg_of X G a21, (fun_mk (st := s_is_row) l21 c21 k21).binds (ps := ["base", "thing"]) fun _ _ _ _ _ _ us hl => match us, hl with | [_, _], _ => rfl⟩⟩,
    d_read := ⟨⟨_, _, fun_mk (st := s_read) l22 c22 k22, PySem.W.mg_of X G a22, (fun_mk (st := s_read) l22 c22 k22).binds (ps := ["base", "row"]) fun _ _ _ _ _ _ us hl => match us, hl with | [_, _], _ => rfl⟩⟩,
    d_told := ⟨⟨_, _, fun_mk (st := s_told) l23 c23 k23, PySem.W.mg_of X G a23, (fun_mk (st := s_told) l23 c23 k23).binds (ps := ["base", "pair"]) fun _ _ _ _ _ _ us hl => match us, hl with | [_, _], _ => rfl⟩⟩,
    d_all_told := ⟨⟨_, _, fun_mk (st := s_all_told) l24 c24 k24, PySem.W.mg_of X G a24, (fun_mk (st := s_all_told) l24 c24 k24).binds (ps := ["base"]) fun _ _ _ _ _ _ us hl => match us, hl with | [_], _ => rfl⟩⟩,
    d__law_cell_at := ⟨⟨_, _, fun_mk (st := s__law_cell_at) l25 c25 k25, PySem.W.mg_of X G a25, (fun_mk (st := s__law_cell_at) l25 c25 k25).binds (ps := ["_law_script", "_law_k"]) fun _ _ _ _ _ _ us hl => match us, hl with | [_, _], _ => rfl⟩⟩,
    d__law_draw := ⟨⟨_, _, fun_mk (st := s__law_draw) l26 c26 k26, PySem.W.mg_of X G a26, (fun_mk (st := s__law_draw) l26 c26 k26).binds (ps := ["_law_cell", "_law_k", "_law_many"]) fun _ _ _ _ _ _ us hl => match us, hl with | [_, _, _], _ => rfl⟩⟩,
    d__law_value := ⟨⟨_, _, fun_mk (st := s__law_value) l27 c27 k27, PySem.W.mg_of X G a27, (fun_mk (st := s__law_value) l27 c27 k27).binds (ps := ["_law_cell", "_law_k", "_law_limit"]) fun _ _ _ _ _ _ us hl => match us, hl with | [_, _, _], _ => rfl⟩⟩,
    d__law_common := ⟨⟨_, _, fun_mk (st := s__law_common) l28 c28 k28, PySem.W.mg_of X G a28, (fun_mk (st := s__law_common) l28 c28 k28).binds (ps := ["_law_one", "_law_other"]) fun _ _ _ _ _ _ us hl => match us, hl with | [_, _], _ => rfl⟩⟩,
    d__law_base := ⟨⟨_, _, fun_mk (st := s__law_base) l29 c29 k29, PySem.W.mg_of X G a29, (fun_mk (st := s__law_base) l29 c29 k29).binds (ps := ["_law_script", "_law_k"]) fun _ _ _ _ _ _ us hl => match us, hl with | [_, _], _ => rfl⟩⟩,
    d__law_size := ⟨⟨_, _, fun_mk (st := s__law_size) l30 c30 k30, PySem.W.mg_of X G a30, (fun_mk (st := s__law_size) l30 c30 k30).binds (ps := ["_law_base_here"]) fun _ _ _ _ _ _ us hl => match us, hl with | [_], _ => rfl⟩⟩,
    d__law_kinds := ⟨⟨_, _, fun_mk (st := s__law_kinds) l31 c31 k31, PySem.W.mg_of X G a31, (fun_mk (st := s__law_kinds) l31 c31 k31).binds (ps := ["_law_error"]) fun _ _ _ _ _ _ us hl => match us, hl with | [_], _ => rfl⟩⟩,
    d__law_with_base := ⟨⟨_, _, fun_mk (st := s__law_with_base) l32 c32 k32, PySem.W.mg_of X G a32, (fun_mk (st := s__law_with_base) l32 c32 k32).binds (ps := ["_law_door", "_law_base_here"]) fun _ _ _ _ _ _ us hl => match us, hl with | [_, _], _ => rfl⟩⟩,
    d__law_with_pair := ⟨⟨_, _, fun_mk (st := s__law_with_pair) l33 c33 k33, PySem.W.mg_of X G a33, (fun_mk (st := s__law_with_pair) l33 c33 k33).binds (ps := ["_law_where", "_law_pair"]) fun _ _ _ _ _ _ us hl => match us, hl with | [_, _], _ => rfl⟩⟩,
    d__law_with_row := ⟨⟨_, _, fun_mk (st := s__law_with_row) l34 c34 k34, PySem.W.mg_of X G a34, (fun_mk (st := s__law_with_row) l34 c34 k34).binds (ps := ["_law_base_here", "_law_row"]) fun _ _ _ _ _ _ us hl => match us, hl with | [_, _], _ => rfl⟩⟩,
    d__law_with_number := ⟨⟨_, _, fun_mk (st := s__law_with_number) l35 c35 k35, PySem.W.mg_of X G a35, (fun_mk (st := s__law_with_number) l35 c35 k35).binds (ps := ["_law_base_here", "_law_number"]) fun _ _ _ _ _ _ us hl => match us, hl with | [_, _], _ => rfl⟩⟩,
    d__law_told := ⟨⟨_, _, fun_mk (st := s__law_told) l36 c36 k36, PySem.W.mg_of X G a36, (fun_mk (st := s__law_told) l36 c36 k36).binds (ps := ["_law_ask", "_law_one", "_law_other"]) fun _ _ _ _ _ _ us hl => match us, hl with | [_, _, _], _ => rfl⟩⟩,
    d_law := ⟨⟨_, _, fun_mk (st := s_law) l37 c37 k37, PySem.W.mg_of X G a37, (fun_mk (st := s_law) l37 c37 k37).binds (ps := ["_law_script"]) fun _ _ _ _ _ _ us hl => match us, hl with | [_], _ => rfl⟩⟩,
    b_len := PySem.W.mg_none_of X G zlen,
    b_abs := PySem.W.mg_none_of X G zabs,
    b_all := PySem.W.mg_none_of X G zall,
    b_any := PySem.W.mg_none_of X G zany,
    b_list := PySem.W.mg_none_of X G zlist,
    b_isinstance := PySem.W.mg_none_of X G zisinstance,
    b_int := PySem.W.mg_none_of X G zint,
    b_bool := PySem.W.mg_none_of X G zbool,
    b_tuple := PySem.W.mg_none_of X G ztuple,
    b_max := PySem.W.mg_none_of X G zmax,
    b_min := PySem.W.mg_none_of X G zmin,
    b_range := PySem.W.mg_none_of X G zrange,
    b_set := PySem.W.mg_none_of X G zset,
    b_enumerate := PySem.W.mg_none_of X G zenumerate,
    b_ValueError := PySem.W.mg_none_of X G zValueError,
    m_MOST := ⟨aMost.choose, PySem.W.mg_of X G aMost.choose_spec⟩,
    ic_Told := ⟨⟨pgTold, hdTold, poTold, saTold⟩, haTold, hN, hT, hmTold⟩,
    na_Told := naTold,
    ic_Round := ⟨⟨pgRound, hdRound, poRound, saRound⟩, haRound, hN, hT, hmRound⟩,
    na_Round := naRound,
    ic_All := ⟨⟨pgAll, hdAll, poAll, saAll⟩, haAll, hN, hT, hmAll⟩,
    mk0_All := ⟨mkAll, inAll, hmAll, kcAll⟩,
    ic_Lost := ⟨⟨pgLost, hdLost, poLost, saLost⟩, haLost, hN, hT, hmLost⟩,
    na_Lost := naLost,
    g_All := PySem.W.mg_of X G aAll }
  have Z : Err K mg ⟨CBaseError, CBadBase, CBadPair, CBadRow, CBadNumber, CNever⟩ := {
    g_BaseError := PySem.W.mg_of X G aBaseError,
    be_d := be_d,
    be_t := be_t,
    be_s := be_s,
    er_BadBase := ⟨PySem.W.mg_of X G aBadBase, xBadBase, ekBadBase, ebBadBase, etBadBase, ⟨egBadBase, ehBadBase, ebBadBase, edBadBase, eaBadBase, hN, hT, emBadBase⟩⟩,
    sub_BadBase := ksubBadBase,
    kit_BadBase_BadBase := kkitBadBaseBadBase,
    kit_BadBase_BadPair := kkitBadBaseBadPair,
    kit_BadBase_BadRow := kkitBadBaseBadRow,
    kit_BadBase_BadNumber := kkitBadBaseBadNumber,
    kit_BadBase_Never := kkitBadBaseNever,
    kit_BadBase_ValueError := kkitBadBaseValueError,
    er_BadPair := ⟨PySem.W.mg_of X G aBadPair, xBadPair, ekBadPair, ebBadPair, etBadPair, ⟨egBadPair, ehBadPair, ebBadPair, edBadPair, eaBadPair, hN, hT, emBadPair⟩⟩,
    sub_BadPair := ksubBadPair,
    kit_BadPair_BadBase := kkitBadPairBadBase,
    kit_BadPair_BadPair := kkitBadPairBadPair,
    kit_BadPair_BadRow := kkitBadPairBadRow,
    kit_BadPair_BadNumber := kkitBadPairBadNumber,
    kit_BadPair_Never := kkitBadPairNever,
    kit_BadPair_ValueError := kkitBadPairValueError,
    er_BadRow := ⟨PySem.W.mg_of X G aBadRow, xBadRow, ekBadRow, ebBadRow, etBadRow, ⟨egBadRow, ehBadRow, ebBadRow, edBadRow, eaBadRow, hN, hT, emBadRow⟩⟩,
    sub_BadRow := ksubBadRow,
    kit_BadRow_BadBase := kkitBadRowBadBase,
    kit_BadRow_BadPair := kkitBadRowBadPair,
    kit_BadRow_BadRow := kkitBadRowBadRow,
    kit_BadRow_BadNumber := kkitBadRowBadNumber,
    kit_BadRow_Never := kkitBadRowNever,
    kit_BadRow_ValueError := kkitBadRowValueError,
    er_BadNumber := ⟨PySem.W.mg_of X G aBadNumber, xBadNumber, ekBadNumber, ebBadNumber, etBadNumber, ⟨egBadNumber, ehBadNumber, ebBadNumber, edBadNumber, eaBadNumber, hN, hT, emBadNumber⟩⟩,
    sub_BadNumber := ksubBadNumber,
    kit_BadNumber_BadBase := kkitBadNumberBadBase,
    kit_BadNumber_BadPair := kkitBadNumberBadPair,
    kit_BadNumber_BadRow := kkitBadNumberBadRow,
    kit_BadNumber_BadNumber := kkitBadNumberBadNumber,
    kit_BadNumber_Never := kkitBadNumberNever,
    kit_BadNumber_ValueError := kkitBadNumberValueError,
    er_Never := ⟨PySem.W.mg_of X G aNever, xNever, ekNever, ebNever, etNever, ⟨egNever, ehNever, ebNever, edNever, eaNever, hN, hT, emNever⟩⟩,
    sub_Never := ksubNever,
    kit_Never_BadBase := kkitNeverBadBase,
    kit_Never_BadPair := kkitNeverBadPair,
    kit_Never_BadRow := kkitNeverBadRow,
    kit_Never_BadNumber := kkitNeverBadNumber,
    kit_Never_Never := kkitNeverNever,
    kit_Never_ValueError := kkitNeverValueError }
  refine ⟨PySem.W.fnOf "law" "law" (defArgs s_law) (defBody s_law) (defScope s_law) .none kV37 dc37 pm37 an37 cd37 ct37, fun s v => .of_eq rfl, fun base _ _ => ?_⟩
  exact law_fn T Z (fun_mk (st := s_law) l37 c37 k37)
theorem walk {l : PySem.W.OpenLaw} {q : Program} {loose : List Str} {XP : (Str → Option Value) → Heap → Prop} {YP : World → Heap → Prop} {d : DefRec} {K : Params → PySem.W.Frag} (hn : l.most = some 63) (hdf : d.params.defaults = [])
    (hY : ∀ (w : World) (h : Heap), YP w h → (K w.params).In h)
    (F : ∀ (w : World) (mg : Str → Option Value) (fa : Addr) (h : Heap), (K w.params).In h → h.Ns mainGlobals mg → mg d.name = some (.ref fa) →
      ∃ fd : FuncData, (∀ (s : Shared) (u : Value), BindsTo s fd ⟨[u], []⟩ [("_law_script", u)]) ∧ ∀ base : Heap, (K w.params).In base → base.Ns mainGlobals mg → FnOk l.prog w (K w.params) mg base CX0 7 fa fd ["_law_script"] (spLaw (K w.params))) :
    PySem.W.WalkO q loose XP YP l.row.toRowW d [] (fun f vs => PySem.call f vs) :=
  L2.walk_ofB (n := 63) (k := 7) (x := "_law_script") (CX := fun _ => CX0) (sp := fun w => spLaw (K w.params)) hn (by decide) hdf ⟨rfl, by decide, by decide⟩ hY F (fun _ _ a ns hl hb _ hS => ⟨a, ns, rfl, hS, hl, hb, fun _ _ e => e⟩) fun _ _ _ _ _ z => z
end
end G
open PySem PySem.W PyProof.Rows
set_option maxRecDepth 100000 in
set_option maxHeartbeats 0 in
theorem PySem.Challenge.cw_pairbase_k05_refused_holds : PySem.Challenge.rw_pairbase_k05_refused.Holds := by
  w_on; o_law; k_head; (case hw => w_witness2)
  k_fill
  refine G.walk (l := PySem.Challenge.rw_pairbase_k05_refused) rfl rfl (fun w h Y => PySem.W.kIn_of Y) ?F
  case F =>
    intro w mg fa h KX g0 hmg
    refine' G.all_mk (CAnswer := (0 : Nat)) KX g0 hmg ?a1 ?l1 ?c1 ?k1 ?a2 ?l2 ?c2 ?k2 ?a3 ?l3 ?c3 ?k3 ?a4 ?l4 ?c4 ?k4 ?a5 ?l5 ?c5 ?k5 ?a6 ?l6 ?c6 ?k6 ?a7 ?l7 ?c7 ?k7 ?a8 ?l8 ?c8 ?k8 ?a9 ?l9 ?c9 ?k9 ?a10 ?l10 ?c10 ?k10 ?a11 ?l11 ?c11 ?k11 ?a12 ?l12 ?c12 ?k12 ?a13 ?l13 ?c13 ?k13 ?a14 ?l14 ?c14 ?k14 ?a15 ?l15 ?c15 ?k15 ?aTold ?a16 ?i16 ?l16 ?c16 ?k16 ?mkTold ?kcTold ?aRound ?a17 ?i17 ?l17 ?c17 ?k17 ?mkRound ?kcRound ?aLost ?a18 ?i18 ?l18 ?c18 ?k18 ?mkLost ?kcLost ?a19 ?l19 ?c19 ?k19 ?a20 ?l20 ?c20 ?k20 ?a21 ?l21 ?c21 ?k21 ?a22 ?l22 ?c22 ?k22 ?a23 ?l23 ?c23 ?k23 ?a24 ?l24 ?c24 ?k24 ?a25 ?l25 ?c25 ?k25 ?a26 ?l26 ?c26 ?k26 ?a27 ?l27 ?c27 ?k27 ?a28 ?l28 ?c28 ?k28 ?a29 ?l29 ?c29 ?k29 ?a30 ?l30 ?c30 ?k30 ?a31 ?l31 ?c31 ?k31 ?a32 ?l32 ?c32 ?k32 ?a33 ?l33 ?c33 ?k33 ?a34 ?l34 ?c34 ?k34 ?a35 ?l35 ?c35 ?k35 ?a36 ?l36 ?c36 ?k36 ?a37 ?l37 ?c37 ?k37 ?zlen ?zabs ?zall ?zany ?zlist ?zisinstance ?zint ?zbool ?ztuple ?zmax ?zmin ?zrange ?zset ?zenumerate ?zValueError ?aMost ?pgTold ?hdTold ?poTold ?saTold ?haTold ?hmTold ?naTold ?pgRound ?hdRound ?poRound ?saRound ?haRound ?hmRound ?naRound ?aAll ?pgAll ?hdAll ?poAll ?saAll ?haAll ?hmAll ?mkAll ?inAll ?kcAll ?pgLost ?hdLost ?poLost ?saLost ?haLost ?hmLost ?naLost ?aBaseError ?be_d ?be_t ?be_s ?aBadBase ?xBadBase ?ekBadBase ?ebBadBase ?etBadBase ?egBadBase ?ehBadBase ?edBadBase ?eaBadBase ?emBadBase ?ksubBadBase ?kkitBadBaseBadBase ?aBadPair ?kkitBadBaseBadPair ?aBadRow ?kkitBadBaseBadRow ?aBadNumber ?kkitBadBaseBadNumber ?aNever ?kkitBadBaseNever ?kkitBadBaseValueError ?xBadPair ?ekBadPair ?ebBadPair ?etBadPair ?egBadPair ?ehBadPair ?edBadPair ?eaBadPair ?emBadPair ?ksubBadPair ?kkitBadPairBadBase ?kkitBadPairBadPair ?kkitBadPairBadRow ?kkitBadPairBadNumber ?kkitBadPairNever ?kkitBadPairValueError ?xBadRow ?ekBadRow ?ebBadRow ?etBadRow ?egBadRow ?ehBadRow ?edBadRow ?eaBadRow ?emBadRow ?ksubBadRow ?kkitBadRowBadBase ?kkitBadRowBadPair ?kkitBadRowBadRow ?kkitBadRowBadNumber ?kkitBadRowNever ?kkitBadRowValueError ?xBadNumber ?ekBadNumber ?ebBadNumber ?etBadNumber ?egBadNumber ?ehBadNumber ?edBadNumber ?eaBadNumber ?emBadNumber ?ksubBadNumber ?kkitBadNumberBadBase ?kkitBadNumberBadPair ?kkitBadNumberBadRow ?kkitBadNumberBadNumber ?kkitBadNumberNever ?kkitBadNumberValueError ?xNever ?ekNever ?ebNever ?etNever ?egNever ?ehNever ?edNever ?eaNever ?emNever ?ksubNever ?kkitNeverBadBase ?kkitNeverBadPair ?kkitNeverBadRow ?kkitNeverBadNumber ?kkitNeverNever ?kkitNeverValueError ?hN ?hT
    (case aTold => k_is)
    (case aRound => k_is)
    (case aLost => k_is)
    (case aAll => k_is)
    (case aBaseError => k_is)
    (case aBadBase => k_is)
    (case aBadPair => k_is)
    (case aBadRow => k_is)
    (case aBadNumber => k_is)
    (case aNever => k_is)
    (case a1 => k_is)
    (case l1 => k_is)
    (case c1 => k_is)
    (case k1 => k_is)
    (case a2 => k_is)
    (case l2 => k_is)
    (case c2 => k_is)
    (case k2 => k_is)
    (case a3 => k_is)
    (case l3 => k_is)
    (case c3 => k_is)
    (case k3 => k_is)
    (case a4 => k_is)
    (case l4 => k_is)
    (case c4 => k_is)
    (case k4 => k_is)
    (case a5 => k_is)
    (case l5 => k_is)
    (case c5 => k_is)
    (case k5 => k_is)
    (case a6 => k_is)
    (case l6 => k_is)
    (case c6 => k_is)
    (case k6 => k_is)
    (case a7 => k_is)
    (case l7 => k_is)
    (case c7 => k_is)
    (case k7 => k_is)
    (case a8 => k_is)
    (case l8 => k_is)
    (case c8 => k_is)
    (case k8 => k_is)
    (case a9 => k_is)
    (case l9 => k_is)
    (case c9 => k_is)
    (case k9 => k_is)
    (case a10 => k_is)
    (case l10 => k_is)
    (case c10 => k_is)
    (case k10 => k_is)
    (case a11 => k_is)
    (case l11 => k_is)
    (case c11 => k_is)
    (case k11 => k_is)
    (case a12 => k_is)
    (case l12 => k_is)
    (case c12 => k_is)
    (case k12 => k_is)
    (case a13 => k_is)
    (case l13 => k_is)
    (case c13 => k_is)
    (case k13 => k_is)
    (case a14 => k_is)
    (case l14 => k_is)
    (case c14 => k_is)
    (case k14 => k_is)
    (case a15 => k_is)
    (case l15 => k_is)
    (case c15 => k_is)
    (case k15 => k_is)
    (case a16 => k_is)
    (case i16 => k_is)
    (case l16 => k_is)
    (case c16 => k_is)
    (case k16 => k_is)
    (case mkTold => k_is)
    (case kcTold => k_is)
    (case a17 => k_is)
    (case i17 => k_is)
    (case l17 => k_is)
    (case c17 => k_is)
    (case k17 => k_is)
    (case mkRound => k_is)
    (case kcRound => k_is)
    (case a18 => k_is)
    (case i18 => k_is)
    (case l18 => k_is)
    (case c18 => k_is)
    (case k18 => k_is)
    (case mkLost => k_is)
    (case kcLost => k_is)
    (case a19 => k_is)
    (case l19 => k_is)
    (case c19 => k_is)
    (case k19 => k_is)
    (case a20 => k_is)
    (case l20 => k_is)
    (case c20 => k_is)
    (case k20 => k_is)
    (case a21 => k_is)
    (case l21 => k_is)
    (case c21 => k_is)
    (case k21 => k_is)
    (case a22 => k_is)
    (case l22 => k_is)
    (case c22 => k_is)
    (case k22 => k_is)
    (case a23 => k_is)
    (case l23 => k_is)
    (case c23 => k_is)
    (case k23 => k_is)
    (case a24 => k_is)
    (case l24 => k_is)
    (case c24 => k_is)
    (case k24 => k_is)
    (case a25 => k_is)
    (case l25 => k_is)
    (case c25 => k_is)
    (case k25 => k_is)
    (case a26 => k_is)
    (case l26 => k_is)
    (case c26 => k_is)
    (case k26 => k_is)
    (case a27 => k_is)
    (case l27 => k_is)
    (case c27 => k_is)
    (case k27 => k_is)
    (case a28 => k_is)
    (case l28 => k_is)
    (case c28 => k_is)
    (case k28 => k_is)
    (case a29 => k_is)
    (case l29 => k_is)
    (case c29 => k_is)
    (case k29 => k_is)
    (case a30 => k_is)
    (case l30 => k_is)
    (case c30 => k_is)
    (case k30 => k_is)
    (case a31 => k_is)
    (case l31 => k_is)
    (case c31 => k_is)
    (case k31 => k_is)
    (case a32 => k_is)
    (case l32 => k_is)
    (case c32 => k_is)
    (case k32 => k_is)
    (case a33 => k_is)
    (case l33 => k_is)
    (case c33 => k_is)
    (case k33 => k_is)
    (case a34 => k_is)
    (case l34 => k_is)
    (case c34 => k_is)
    (case k34 => k_is)
    (case a35 => k_is)
    (case l35 => k_is)
    (case c35 => k_is)
    (case k35 => k_is)
    (case a36 => k_is)
    (case l36 => k_is)
    (case c36 => k_is)
    (case k36 => k_is)
    (case a37 => k_is)
    (case l37 => k_is)
    (case c37 => k_is)
    (case k37 => k_is)
    (case zlen => k_is)
    (case zabs => k_is)
    (case zall => k_is)
    (case zany => k_is)
    (case zlist => k_is)
    (case zisinstance => k_is)
    (case zint => k_is)
    (case zbool => k_is)
    (case ztuple => k_is)
    (case zmax => k_is)
    (case zmin => k_is)
    (case zrange => k_is)
    (case zset => k_is)
    (case zenumerate => k_is)
    (case zValueError => k_is)
    (case aMost => exact ⟨_, by k_is⟩)
    (case pgTold => k_is)
    (case hdTold => k_is)
    (case poTold => k_is)
    (case saTold => k_is)
    (case haTold => k_is)
    (case hmTold => k_is)
    (case naTold => k_is)
    (case pgRound => k_is)
    (case hdRound => k_is)
    (case poRound => k_is)
    (case saRound => k_is)
    (case haRound => k_is)
    (case hmRound => k_is)
    (case naRound => k_is)
    (case pgAll => k_is)
    (case hdAll => k_is)
    (case poAll => k_is)
    (case saAll => k_is)
    (case haAll => k_is)
    (case hmAll => k_is)
    (case mkAll => k_is)
    (case inAll => k_is)
    (case kcAll => k_is)
    (case pgLost => k_is)
    (case hdLost => k_is)
    (case poLost => k_is)
    (case saLost => k_is)
    (case haLost => k_is)
    (case hmLost => k_is)
    (case naLost => k_is)
    (case be_d => k_is)
    (case be_t => k_is)
    (case be_s => k_is)
    (case xBadBase => k_exc)
    (case ekBadBase => k_is)
    (case ebBadBase => k_is)
    (case etBadBase => k_is)
    (case egBadBase => k_is)
    (case ehBadBase => k_is)
    (case edBadBase => k_is)
    (case eaBadBase => k_is)
    (case emBadBase => k_is)
    (case ksubBadBase => k_is)
    (case kkitBadBaseBadBase => kit_is)
    (case kkitBadBaseBadPair => kit_is)
    (case kkitBadBaseBadRow => kit_is)
    (case kkitBadBaseBadNumber => kit_is)
    (case kkitBadBaseNever => kit_is)
    (case kkitBadBaseValueError => kit_is)
    (case xBadPair => k_exc)
    (case ekBadPair => k_is)
    (case ebBadPair => k_is)
    (case etBadPair => k_is)
    (case egBadPair => k_is)
    (case ehBadPair => k_is)
    (case edBadPair => k_is)
    (case eaBadPair => k_is)
    (case emBadPair => k_is)
    (case ksubBadPair => k_is)
    (case kkitBadPairBadBase => kit_is)
    (case kkitBadPairBadPair => kit_is)
    (case kkitBadPairBadRow => kit_is)
    (case kkitBadPairBadNumber => kit_is)
    (case kkitBadPairNever => kit_is)
    (case kkitBadPairValueError => kit_is)
    (case xBadRow => k_exc)
    (case ekBadRow => k_is)
    (case ebBadRow => k_is)
    (case etBadRow => k_is)
    (case egBadRow => k_is)
    (case ehBadRow => k_is)
    (case edBadRow => k_is)
    (case eaBadRow => k_is)
    (case emBadRow => k_is)
    (case ksubBadRow => k_is)
    (case kkitBadRowBadBase => kit_is)
    (case kkitBadRowBadPair => kit_is)
    (case kkitBadRowBadRow => kit_is)
    (case kkitBadRowBadNumber => kit_is)
    (case kkitBadRowNever => kit_is)
    (case kkitBadRowValueError => kit_is)
    (case xBadNumber => k_exc)
    (case ekBadNumber => k_is)
    (case ebBadNumber => k_is)
    (case etBadNumber => k_is)
    (case egBadNumber => k_is)
    (case ehBadNumber => k_is)
    (case edBadNumber => k_is)
    (case eaBadNumber => k_is)
    (case emBadNumber => k_is)
    (case ksubBadNumber => k_is)
    (case kkitBadNumberBadBase => kit_is)
    (case kkitBadNumberBadPair => kit_is)
    (case kkitBadNumberBadRow => kit_is)
    (case kkitBadNumberBadNumber => kit_is)
    (case kkitBadNumberNever => kit_is)
    (case kkitBadNumberValueError => kit_is)
    (case xNever => k_exc)
    (case ekNever => k_is)
    (case ebNever => k_is)
    (case etNever => k_is)
    (case egNever => k_is)
    (case ehNever => k_is)
    (case edNever => k_is)
    (case eaNever => k_is)
    (case emNever => k_is)
    (case ksubNever => k_is)
    (case kkitNeverBadBase => kit_is)
    (case kkitNeverBadPair => kit_is)
    (case kkitNeverBadRow => kit_is)
    (case kkitNeverBadNumber => kit_is)
    (case kkitNeverNever => kit_is)
    (case kkitNeverValueError => kit_is)
    (case hN => k_is)
    (case hT => k_is)
