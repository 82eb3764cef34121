import PyProof.Rows.All
import Wide.All
import OpenK.AllK
import Wide.FinOn
import HandS.ForMost
import HandS.WideBits
import HandS.More
import HandS.NoneIn
import HandS.Small
import HandS.IsInst
import HandS.Zip
import HandS.Walk
import HandS.Evl
import HandS.Style
import HandS.Flow
import PySem.Challenge.RW_gainroads_k23_whole_none_is_the_most
import KE.GoesMore
import KE.GoesEnum
import KE.GoesZip
import KE.KDictKeyed
import KE.KDictPairs
import HandS.SetKeys
import PyProof.Rows.SetFrom
import HandS.Strs
import PyProof.StrOps2
import PyProof.NeKinds
import KE.KDictZip
import KE.KDictList
set_option Elab.async false
set_option linter.all false
set_option maxRecDepth 100000
set_option maxHeartbeats 4000000
set_option linter.all false
/-! GM1: sizes of fractions. -/
namespace GM

/-- numerator and denominator lie below 2 ^ a -/
def Sz (a : Nat) (q : Rat) : Prop := q.num.natAbs < 2 ^ a ∧ q.den < 2 ^ a

theorem Sz.mono {a b : Nat} {q : Rat} (h : Sz a q) (hab : a ≤ b) : Sz b q :=
  ⟨Nat.lt_of_lt_of_le h.1 (Nat.pow_le_pow_right (by decide) hab), Nat.lt_of_lt_of_le h.2 (Nat.pow_le_pow_right (by decide) hab)⟩

theorem mkRat_num_le (n : Int) {d : Nat} (hd : d ≠ 0) : (mkRat n d).num.natAbs ≤ n.natAbs := by
  rw [Rat.num_mkRat, if_neg hd]
  have := Int.natAbs_ediv_le_natAbs n (d.gcd n.natAbs : Int)
  omega
theorem mkRat_den_dvd (n : Int) {d : Nat} (hd : d ≠ 0) : (mkRat n d).den ∣ d := by
  rw [Rat.den_mkRat, if_neg hd]
  exact Nat.div_dvd_of_dvd (Nat.gcd_dvd_left d n.natAbs)
theorem mkRat_den_le (n : Int) {d : Nat} (hd : d ≠ 0) : (mkRat n d).den ≤ d :=
  Nat.le_of_dvd (Nat.pos_of_ne_zero hd) (mkRat_den_dvd n hd)

theorem Sz.mk {a : Nat} {n : Int} {d : Nat} (hd : d ≠ 0) (hn : n.natAbs < 2 ^ a) (h : d < 2 ^ a) : Sz a (mkRat n d) :=
  ⟨Nat.lt_of_le_of_lt (mkRat_num_le n hd) hn, Nat.lt_of_le_of_lt (mkRat_den_le n hd) h⟩

theorem mul_lt_pow {x y a b : Nat} (h : x < 2 ^ a) (k : y < 2 ^ b) : x * y < 2 ^ (a + b) := by
  rw [Nat.pow_add]
  exact Nat.mul_lt_mul'' h k

theorem Sz.mul {a b : Nat} {p q : Rat} (h : Sz a p) (k : Sz b q) : Sz (a + b) (p * q) := by
  rw [Rat.mul_def']
  refine Sz.mk (Nat.mul_ne_zero p.den_nz q.den_nz) ?_ (mul_lt_pow h.2 k.2)
  rw [Int.natAbs_mul]
  exact mul_lt_pow h.1 k.1

theorem div_def' (p q : Rat) (hq : 0 < q) : p / q = mkRat (p.num * q.den) (p.den * q.num.toNat) := by
  have h : 0 < q.num := by
    have h1 : 0 ≤ q.num := Rat.num_nonneg.mpr (Rat.le_of_lt hq)
    have h2 : q.num ≠ 0 := fun e => by
      rw [Rat.num_eq_zero.mp e] at hq
      exact absurd hq (by decide)
    omega
  obtain ⟨m, hm⟩ : ∃ m : Nat, q.num = m := ⟨q.num.toNat, by omega⟩
  have e1 : p / q = (Rat.divInt p.num p.den) * (Rat.divInt q.num q.den)⁻¹ := by rw [Rat.num_divInt_den, Rat.num_divInt_den]; rfl
  rw [e1, Rat.inv_divInt, Rat.divInt_mul_divInt, hm, Int.toNat_natCast, ← Rat.divInt_ofNat, Int.natCast_mul]

theorem num_pos {q : Rat} (hq : 0 < q) : 0 < q.num := by
  have h1 : 0 ≤ q.num := Rat.num_nonneg.mpr (Rat.le_of_lt hq)
  have h2 : q.num ≠ 0 := fun e => by
    rw [Rat.num_eq_zero.mp e] at hq
    exact absurd hq (by decide)
  omega

theorem Sz.div {a b : Nat} {p q : Rat} (h : Sz a p) (k : Sz b q) (hq : 0 < q) : Sz (a + b) (p / q) := by
  rw [div_def' p q hq]
  have hn := num_pos hq
  have hk : q.num.toNat < 2 ^ b := by have := k.1; omega
  refine Sz.mk (Nat.mul_ne_zero p.den_nz (by omega)) ?_ (mul_lt_pow h.2 hk)
  rw [Int.natAbs_mul, Int.natAbs_natCast]
  exact mul_lt_pow h.1 k.2

theorem add_lt_pow {n m : Int} {a : Nat} (h : n.natAbs < 2 ^ a) (k : m.natAbs < 2 ^ a) : (n + m).natAbs < 2 ^ (a + 1) := by
  rw [Nat.pow_succ]
  omega
theorem Sz.add {a b : Nat} {p q : Rat} (h : Sz a p) (k : Sz b q) : Sz (a + b + 1) (p + q) := by
  rw [Rat.add_def']
  refine Sz.mk (Nat.mul_ne_zero p.den_nz q.den_nz) (add_lt_pow ?_ ?_) (Nat.lt_of_lt_of_le (mul_lt_pow h.2 k.2) (Nat.pow_le_pow_right (by decide) (by omega)))
  · rw [Int.natAbs_mul, Int.natAbs_natCast]
    exact mul_lt_pow h.1 k.2
  · rw [Int.natAbs_mul, Int.natAbs_natCast, Nat.add_comm a b]
    exact mul_lt_pow k.1 h.2
theorem Sz.neg {a : Nat} {p : Rat} (h : Sz a p) : Sz a (-p) := by
  refine ⟨?_, h.2⟩
  rw [Rat.neg_num, Int.natAbs_neg]
  exact h.1
theorem Sz.sub {a b : Nat} {p q : Rat} (h : Sz a p) (k : Sz b q) : Sz (a + b + 1) (p - q) := by
  rw [Rat.sub_eq_add_neg]
  exact h.add k.neg
theorem Sz.one : Sz 1 1 := ⟨by decide, by decide⟩
theorem Sz.zero : Sz 1 0 := ⟨by decide, by decide⟩

/-- q.den divides m just where q times m is whole -/
theorem den_dvd {q : Rat} {m : Nat} {z : Int} (hm : m ≠ 0) (h : q * (m : Rat) = (z : Rat)) : q.den ∣ m := by
  have e : q = mkRat z m := by
    rw [Rat.mkRat_eq_div]
    have hm' : (m : Rat) ≠ 0 := by
      intro e
      exact hm (Rat.natCast_eq_zero_iff.mp e)
    grind
  rw [e]
  exact mkRat_den_dvd z hm
theorem dvd_den {q : Rat} {m : Nat} (h : q.den ∣ m) : ∃ z : Int, q * (m : Rat) = (z : Rat) := by
  obtain ⟨k, rfl⟩ := h
  refine ⟨q.num * k, ?_⟩
  have e : q * (q.den : Rat) = (q.num : Rat) := by
    have h1 : q = q.num / (q.den : Rat) := by
      rw [← Rat.mkRat_eq_div, Rat.mkRat_self]
    have h2 : (q.den : Rat) ≠ 0 := fun e => q.den_nz (Rat.natCast_eq_zero_iff.mp e)
    grind
  rw [Rat.natCast_mul, Rat.intCast_mul, Rat.intCast_natCast, ← Rat.mul_assoc, e]
theorem den_dvd_iff {q : Rat} {m : Nat} (hm : m ≠ 0) : q.den ∣ m ↔ ∃ z : Int, q * (m : Rat) = (z : Rat) :=
  ⟨dvd_den, fun ⟨_, h⟩ => den_dvd hm h⟩

/-- q times m is whole -/
def Wh (m : Nat) (q : Rat) : Prop := ∃ z : Int, q * (m : Rat) = (z : Rat)
theorem Wh.add {m : Nat} {p q : Rat} (h : Wh m p) (k : Wh m q) : Wh m (p + q) := by
  obtain ⟨x, hx⟩ := h
  obtain ⟨y, hy⟩ := k
  exact ⟨x + y, by rw [Rat.intCast_add]; grind⟩
theorem Wh.sub {m : Nat} {p q : Rat} (h : Wh m p) (k : Wh m q) : Wh m (p - q) := by
  obtain ⟨x, hx⟩ := h
  obtain ⟨y, hy⟩ := k
  exact ⟨x - y, by rw [Rat.intCast_sub]; grind⟩
theorem Wh.mul {m n : Nat} {p q : Rat} (h : Wh m p) (k : Wh n q) : Wh (m * n) (p * q) := by
  obtain ⟨x, hx⟩ := h
  obtain ⟨y, hy⟩ := k
  exact ⟨x * y, by rw [Rat.intCast_mul, Rat.natCast_mul]; grind⟩
theorem Wh.more {m : Nat} (n : Nat) {p : Rat} (h : Wh m p) : Wh (m * n) p := by
  obtain ⟨x, hx⟩ := h
  exact ⟨x * n, by rw [Rat.intCast_mul, Rat.natCast_mul, Rat.intCast_natCast]; grind⟩
theorem Wh.dvd {m n : Nat} {p : Rat} (h : Wh m p) (d : m ∣ n) : Wh n p := by
  obtain ⟨k, rfl⟩ := d
  exact h.more k
theorem Wh.den (q : Rat) : Wh q.den q := dvd_den (Nat.dvd_refl _)
theorem Wh.zero (m : Nat) : Wh m 0 := ⟨0, by grind⟩
theorem Wh.int (m : Nat) (z : Int) : Wh m (z : Rat) := ⟨z * m, by rw [Rat.intCast_mul, Rat.intCast_natCast]⟩
/-- 1 over a fraction above 0 -/
theorem Wh.inv {q : Rat} (hq : 0 < q) : Wh q.num.toNat (1 / q) := by
  refine ⟨q.den, ?_⟩
  have hn := num_pos hq
  have e : q * (q.den : Rat) = (q.num : Rat) := by
    have h1 : q = q.num / (q.den : Rat) := by
      rw [← Rat.mkRat_eq_div, Rat.mkRat_self]
    have h2 : (q.den : Rat) ≠ 0 := fun e => q.den_nz (Rat.natCast_eq_zero_iff.mp e)
    grind
  have e2 : ((q.num.toNat : Nat) : Rat) = (q.num : Rat) := by
    rw [← Rat.intCast_natCast]
    congr 1
    omega
  rw [e2, ← e, Rat.intCast_natCast]
  have hq0 : q ≠ 0 := fun e => by rw [e] at hq; exact absurd hq (by decide)
  grind
/-- a bound by a whole multiple -/
theorem Wh.sz {m b v : Nat} {q : Rat} (h : Wh m q) (hm : 0 < m) (hb : m < 2 ^ b) (h1 : q ≤ 2 ^ v) (h2 : -(2 ^ v) ≤ q) : Sz (b + v) q := by
  have hm0 : m ≠ 0 := by omega
  obtain ⟨z, hz⟩ := h
  have e : q = mkRat z m := by
    rw [Rat.mkRat_eq_div]
    have hm' : (m : Rat) ≠ 0 := by
      intro e
      exact hm0 (Rat.natCast_eq_zero_iff.mp e)
    grind
  have hmp : (0 : Rat) < (m : Rat) := Rat.natCast_pos.mpr hm
  have l1 : (z : Rat) ≤ ((2 ^ v * m : Nat) : Rat) := by
    rw [← hz, Rat.natCast_mul, Rat.natCast_pow]
    exact Rat.mul_le_mul_of_nonneg_right h1 (Rat.le_of_lt hmp)
  have l2 : -((2 ^ v * m : Nat) : Rat) ≤ (z : Rat) := by
    rw [← hz, Rat.natCast_mul, Rat.natCast_pow, ← Rat.neg_mul]
    exact Rat.mul_le_mul_of_nonneg_right h2 (Rat.le_of_lt hmp)
  have l3 : z ≤ ((2 ^ v * m : Nat) : Int) := by
    rw [← Rat.intCast_natCast] at l1
    exact Rat.intCast_le_intCast.mp l1
  have l4 : -((2 ^ v * m : Nat) : Int) ≤ z := by
    rw [← Rat.intCast_natCast, ← Rat.intCast_neg] at l2
    exact Rat.intCast_le_intCast.mp l2
  have l5 : z.natAbs ≤ 2 ^ v * m := by omega
  have l6 : 2 ^ v * m < 2 ^ (b + v) := by
    rw [Nat.add_comm, Nat.pow_add]
    exact Nat.mul_lt_mul_of_pos_left hb (Nat.pow_pos (by decide))
  rw [e]
  refine Sz.mk hm0 (by omega) ?_
  exact Nat.lt_of_lt_of_le hb (Nat.pow_le_pow_right (by decide) (by omega))

/-- fraction(n, d) as the program reckons it -/
theorem mkRat_gcd (n : Int) {d : Nat} (hd : d ≠ 0) : (mkRat n d).num = n / ((n.natAbs.gcd d : Nat) : Int) ∧ ((mkRat n d).den : Int) = (d : Int) / ((n.natAbs.gcd d : Nat) : Int) := by
  rw [Rat.num_mkRat, if_neg hd, Rat.den_mkRat, if_neg hd, Nat.gcd_comm d n.natAbs]
  exact ⟨rfl, by rw [Int.natCast_ediv]⟩
/-- the sign of a cross difference -/
theorem cross_lt (p q : Rat) : p.num * (q.den : Int) < q.num * (p.den : Int) ↔ p < q := (Rat.lt_iff p q).symm
theorem cross_le (p q : Rat) : p.num * (q.den : Int) ≤ q.num * (p.den : Int) ↔ p ≤ q := (Rat.le_iff p q).symm
theorem num_pos_iff {q : Rat} : 0 < q.num ↔ 0 < q := by
  constructor
  · intro h
    have h1 : 0 ≤ q := Rat.num_nonneg.mp (by omega)
    have h2 : q ≠ 0 := fun e => by rw [e] at h; exact absurd h (by decide)
    exact Rat.lt_of_le_of_ne h1 (fun e => h2 e.symm)
  · exact num_pos
theorem num_neg_iff {q : Rat} : q.num < 0 ↔ q < 0 := by
  have h := Rat.num_nonneg (q := q)
  have h2 := @Rat.not_le 0 q
  constructor
  · intro a
    refine h2.mp fun b => ?_
    have := h.mpr b
    omega
  · intro a
    have := h2.mpr a
    have : ¬ 0 ≤ q.num := fun b => this (h.mp b)
    omega
end GM
set_option linter.all false
/-! GM2: nets, steps, chains, what is left at a place. -/
namespace GM
variable {α : Type} [DecidableEq α]

structure Tie (α : Type) where
  b : α
  e : α
  most : Rat
  gain : Rat

structure Step (α : Type) where
  n : Nat
  k : Bool
  b : α
  e : α
  room : Rat
  gain : Rat

/-- the steps that a tie leaves -/
def stepsOfTie (i : Nat) (t : Tie α) (x : Rat) : List (Step α) :=
  (if x < t.most then [⟨i, false, t.b, t.e, t.most - x, t.gain⟩] else []) ++ (if 0 < x then [⟨i, true, t.e, t.b, x * t.gain, 1 / t.gain⟩] else [])
def stepsAt (ts : List (Tie α)) (f : List Rat) (i : Nat) : List (Step α) :=
  match ts[i]?, f[i]? with
  | some t, some x => stepsOfTie i t x
  | _, _ => []
/-- the steps of the first n ties -/
def stepsTo (ts : List (Tie α)) (f : List Rat) : Nat → List (Step α)
  | 0 => []
  | n + 1 => stepsTo ts f n ++ stepsAt ts f n
def stepsOf (ts : List (Tie α)) (f : List Rat) : List (Step α) := stepsTo ts f ts.length

theorem stepsTo_succ {ts : List (Tie α)} {f : List Rat} {n : Nat} {t : Tie α} {x : Rat} (ht : ts[n]? = some t) (hx : f[n]? = some x) :
    stepsTo ts f (n + 1) = stepsTo ts f n ++ stepsOfTie n t x := by
  show stepsTo ts f n ++ stepsAt ts f n = _
  unfold stepsAt
  rw [ht, hx]

/-- s is a step that f leaves -/
def IsStep (ts : List (Tie α)) (f : List Rat) (s : Step α) : Prop :=
  ∃ t x, ts[s.n]? = some t ∧ f[s.n]? = some x ∧
    ((s.k = false ∧ s.b = t.b ∧ s.e = t.e ∧ s.room = t.most - x ∧ s.gain = t.gain ∧ x < t.most) ∨
     (s.k = true ∧ s.b = t.e ∧ s.e = t.b ∧ s.room = x * t.gain ∧ s.gain = 1 / t.gain ∧ 0 < x))

theorem mem_stepsOfTie {i : Nat} {t : Tie α} {x : Rat} {s : Step α} : s ∈ stepsOfTie i t x ↔ s.n = i ∧
    ((s.k = false ∧ s.b = t.b ∧ s.e = t.e ∧ s.room = t.most - x ∧ s.gain = t.gain ∧ x < t.most) ∨
     (s.k = true ∧ s.b = t.e ∧ s.e = t.b ∧ s.room = x * t.gain ∧ s.gain = 1 / t.gain ∧ 0 < x)) := by
  obtain ⟨n, k, b, e, room, gain⟩ := s
  unfold stepsOfTie
  by_cases h1 : x < t.most <;> by_cases h2 : 0 < x <;> simp [h1, h2] <;> grind

theorem mem_stepsTo {ts : List (Tie α)} {f : List Rat} {s : Step α} : ∀ {n : Nat}, s ∈ stepsTo ts f n ↔ s.n < n ∧ IsStep ts f s
  | 0 => by simp [stepsTo]
  | n + 1 => by
    show s ∈ stepsTo ts f n ++ stepsAt ts f n ↔ _
    rw [List.mem_append, mem_stepsTo (n := n)]
    constructor
    · rintro (⟨h, k⟩ | h)
      · exact ⟨by omega, k⟩
      · unfold stepsAt at h
        split at h
        · rename_i t x ht hx
          obtain ⟨e, h2⟩ := mem_stepsOfTie.mp h
          rw [← e] at ht hx
          exact ⟨by omega, t, x, ht, hx, h2⟩
        · exact nomatch h
    · rintro ⟨h, k⟩
      by_cases hn : s.n < n
      · exact .inl ⟨hn, k⟩
      · have e : s.n = n := by omega
        obtain ⟨t, x, ht, hx, k⟩ := k
        refine .inr ?_
        unfold stepsAt
        subst e
        rw [ht, hx]
        exact mem_stepsOfTie.mpr ⟨rfl, k⟩
theorem mem_stepsOf {ts : List (Tie α)} {f : List Rat} {s : Step α} : s ∈ stepsOf ts f ↔ IsStep ts f s := by
  unfold stepsOf
  rw [mem_stepsTo]
  constructor
  · exact fun h => h.2
  · intro h
    obtain ⟨t, _, ht, _⟩ := id h
    exact ⟨(List.getElem?_eq_some_iff.mp ht).1, h⟩
theorem stepsOfTie_len (i : Nat) (t : Tie α) (x : Rat) : (stepsOfTie i t x).length ≤ 2 := by
  unfold stepsOfTie
  split <;> split <;> simp
theorem stepsTo_len (ts : List (Tie α)) (f : List Rat) : ∀ n, (stepsTo ts f n).length ≤ 2 * n
  | 0 => by simp [stepsTo]
  | n + 1 => by
    have h := stepsTo_len ts f n
    show (stepsTo ts f n ++ stepsAt ts f n).length ≤ _
    have h2 : (stepsAt ts f n).length ≤ 2 := by
      unfold stepsAt
      split
      · exact stepsOfTie_len ..
      · simp
    rw [List.length_append]
    omega
/-- a tie's number and whether it's back tell the step -/
theorem IsStep.unique {ts : List (Tie α)} {f : List Rat} {s u : Step α} (h : IsStep ts f s) (k : IsStep ts f u) (hn : s.n = u.n) (hk : s.k = u.k) : s = u := by
  obtain ⟨n, k1, b, e, room, gain⟩ := s
  obtain ⟨n', k', b', e', room', gain'⟩ := u
  obtain ⟨t, x, h1, h2, h3⟩ := h
  obtain ⟨t', x', g1, g2, g3⟩ := k
  simp only at *
  subst hn
  rw [h1] at g1
  rw [h2] at g2
  cases g1
  cases g2
  grind

/-! ### chains of steps -/
def Chain : α → List (Step α) → α → Prop
  | b, [], e => b = e
  | b, s :: l, e => s.b = b ∧ Chain s.e l e
theorem Chain.append {b c e : α} : ∀ {l m : List (Step α)}, Chain b l c → Chain c m e → Chain b (l ++ m) e
  | [], _, h, k => by cases h; exact k
  | s :: l, _, ⟨h1, h2⟩, k => ⟨h1, Chain.append h2 k⟩
theorem Chain.split {b e : α} : ∀ {l m : List (Step α)}, Chain b (l ++ m) e → ∃ c, Chain b l c ∧ Chain c m e
  | [], _, h => ⟨b, rfl, h⟩
  | s :: l, _, ⟨h1, h2⟩ => by
    obtain ⟨c, h3, h4⟩ := Chain.split h2
    exact ⟨c, ⟨h1, h3⟩, h4⟩
def gainOf : List (Step α) → Rat
  | [] => 1
  | s :: l => s.gain * gainOf l
theorem gainOf_append : ∀ (l m : List (Step α)), gainOf (l ++ m) = gainOf l * gainOf m
  | [], m => by show gainOf m = 1 * gainOf m; grind
  | s :: l, m => by
    show s.gain * gainOf (l ++ m) = s.gain * gainOf l * gainOf m
    rw [gainOf_append l m]
    grind
theorem gainOf_pos : ∀ {l : List (Step α)}, (∀ s ∈ l, 0 < s.gain) → 0 < gainOf l
  | [], _ => by show (0 : Rat) < 1; decide
  | s :: l, h => Rat.mul_pos (h s (by simp)) (gainOf_pos fun u hu => h u (by simp [hu]))

/-! ### parts -/
def partsAlong : List (Step α) → Rat → List (Step α × Rat)
  | [], _ => []
  | s :: l, p => (s, p) :: partsAlong l (p * s.gain)
theorem partsAlong_append : ∀ (l m : List (Step α)) (p : Rat), partsAlong (l ++ m) p = partsAlong l p ++ partsAlong m (p * gainOf l)
  | [], m, p => by show partsAlong m p = partsAlong m (p * 1); rw [Rat.mul_one]
  | s :: l, m, p => by
    show (s, p) :: partsAlong (l ++ m) (p * s.gain) = (s, p) :: (partsAlong l (p * s.gain) ++ partsAlong m (p * (s.gain * gainOf l)))
    rw [partsAlong_append l m, Rat.mul_assoc]
theorem partsAlong_len : ∀ (l : List (Step α)) (p : Rat), (partsAlong l p).length = l.length
  | [], _ => rfl
  | s :: l, p => by show _ + 1 = _ + 1; rw [partsAlong_len l]
theorem partsAlong_fst : ∀ (l : List (Step α)) (p : Rat), (partsAlong l p).map (·.1) = l
  | [], _ => rfl
  | s :: l, p => by show s :: (partsAlong l (p * s.gain)).map (·.1) = s :: l; rw [partsAlong_fst l]
theorem partsAlong_pos : ∀ {l : List (Step α)} {p : Rat}, 0 < p → (∀ s ∈ l, 0 < s.gain) → ∀ q ∈ partsAlong l p, 0 < q.2
  | [], _, _, _, q, h => nomatch h
  | s :: l, p, hp, hg, q, h => by
    rcases List.mem_cons.mp (show q ∈ (s, p) :: partsAlong l (p * s.gain) from h) with rfl | h
    · exact hp
    · exact partsAlong_pos (Rat.mul_pos hp (hg s (by simp))) (fun u hu => hg u (by simp [hu])) q h

/-! ### what is left at a place -/
def coef (t : Tie α) (x : α) : Rat := (if t.e = x then t.gain else 0) - (if t.b = x then 1 else 0)
def left : List (Tie α) → List Rat → α → Rat
  | t :: ts, v :: f, x => v * coef t x + left ts f x
  | _, _, _ => 0
/-- one tie's stream changed -/
theorem left_set : ∀ {ts : List (Tie α)} {f : List Rat} {i : Nat} {t : Tie α} {v : Rat} (d : Rat) (x : α), ts[i]? = some t → f[i]? = some v → left ts (f.set i (v + d)) x = left ts f x + d * coef t x
  | [], _, _, _, _, _, _, h, _ => by simp at h
  | _ :: _, [], _, _, _, _, _, _, h => by simp at h
  | t :: ts, v :: f, 0, t', v', d, x, h, k => by
    simp at h k
    subst h; subst k
    show (v + d) * coef t x + left ts f x = v * coef t x + left ts f x + d * coef t x
    grind
  | t :: ts, v :: f, i + 1, t', v', d, x, h, k => by
    have ih := left_set (ts := ts) (f := f) (i := i) (t := t') (v := v') d x (by simpa using h) (by simpa using k)
    show v * coef t x + left ts (f.set i (v' + d)) x = v * coef t x + left ts f x + d * coef t' x
    rw [ih]
    grind
theorem left_snoc : ∀ {ts : List (Tie α)} {f : List Rat} (t : Tie α) (v : Rat) (x : α), ts.length = f.length → left (ts ++ [t]) (f ++ [v]) x = left ts f x + v * coef t x
  | [], [], t, v, x, _ => by show v * coef t x + 0 = 0 + v * coef t x; grind
  | [], _ :: _, _, _, _, h => by simp at h
  | _ :: _, [], _, _, _, h => by simp at h
  | t :: ts, v :: f, t', v', x, h => by
    show v * coef t x + left (ts ++ [t']) (f ++ [v']) x = v * coef t x + left ts f x + v' * coef t' x
    rw [left_snoc t' v' x (by simpa using h)]
    grind
theorem take_snoc {β : Type} {l : List β} {i : Nat} {x : β} (h : l[i]? = some x) : l.take (i + 1) = l.take i ++ [x] := by
  rw [List.take_succ, h]
  rfl
theorem left_take {ts : List (Tie α)} {f : List Rat} {i : Nat} {t : Tie α} {v : Rat} (x : α) (ht : ts[i]? = some t) (hv : f[i]? = some v) :
    left (ts.take (i + 1)) (f.take (i + 1)) x = left (ts.take i) (f.take i) x + v * coef t x := by
  rw [take_snoc ht, take_snoc hv]
  refine left_snoc t v x ?_
  have h1 := (List.getElem?_eq_some_iff.mp ht).1
  have h2 := (List.getElem?_eq_some_iff.mp hv).1
  rw [List.length_take, List.length_take]
  omega

/-- so much more along a list of steps with parts -/
def putOne (much : Rat) (f : List Rat) (q : Step α × Rat) : List Rat :=
  if q.1.k then f.set q.1.n (f.getD q.1.n 0 - much * q.2 * q.1.gain) else f.set q.1.n (f.getD q.1.n 0 + much * q.2)
def putAll (much : Rat) (f : List Rat) (ps : List (Step α × Rat)) : List Rat := ps.foldl (putOne much) f
theorem putAll_nil (much : Rat) (f : List Rat) : putAll much f ([] : List (Step α × Rat)) = f := rfl
theorem putAll_cons (much : Rat) (f : List Rat) (q : Step α × Rat) (ps : List (Step α × Rat)) : putAll much f (q :: ps) = putAll much (putOne much f q) ps := rfl
theorem putAll_snoc (much : Rat) (f : List Rat) (q : Step α × Rat) (ps : List (Step α × Rat)) : putAll much f (ps ++ [q]) = putOne much (putAll much f ps) q := by
  unfold putAll
  rw [List.foldl_append]
  rfl
theorem putOne_len (much : Rat) (f : List Rat) (q : Step α × Rat) : (putOne much f q).length = f.length := by
  unfold putOne
  split <;> simp
theorem putAll_len (much : Rat) : ∀ (ps : List (Step α × Rat)) (f : List Rat), (putAll much f ps).length = f.length
  | [], _ => rfl
  | q :: ps, f => by rw [putAll_cons, putAll_len much ps, putOne_len]

/-- s is a step of a tie of ts, whatever goes -/
def Fits (ts : List (Tie α)) (s : Step α) : Prop :=
  ∃ t, ts[s.n]? = some t ∧ ((s.k = false ∧ s.b = t.b ∧ s.e = t.e ∧ s.gain = t.gain) ∨ (s.k = true ∧ s.b = t.e ∧ s.e = t.b ∧ s.gain = 1 / t.gain)) ∧ 0 < t.gain
theorem IsStep.fits {ts : List (Tie α)} {f : List Rat} {s : Step α} (h : IsStep ts f s) (hg : ∀ t ∈ ts, 0 < t.gain) : Fits ts s := by
  obtain ⟨t, x, h1, h2, h3⟩ := h
  refine ⟨t, h1, ?_, hg t (List.mem_of_getElem? h1)⟩
  rcases h3 with ⟨a, b, c, d, e, g⟩ | ⟨a, b, c, d, e, g⟩
  · exact .inl ⟨a, b, c, e⟩
  · exact .inr ⟨a, b, c, e⟩
theorem one_div_pos {q : Rat} (h : 0 < q) : 0 < 1 / q := by
  rw [Rat.div_def, Rat.one_mul]
  exact Rat.inv_pos.mpr h
theorem Fits.pos {ts : List (Tie α)} {s : Step α} (h : Fits ts s) : 0 < s.gain := by
  obtain ⟨t, h1, h2, h3⟩ := h
  rcases h2 with ⟨_, _, _, e⟩ | ⟨_, _, _, e⟩
  · rw [e]; exact h3
  · rw [e]; exact one_div_pos h3
def at_ (b x : α) : Rat := if b = x then 1 else 0
theorem left_putOne {ts : List (Tie α)} {f : List Rat} {s : Step α} {p : Rat} (much : Rat) (h : Fits ts s) (hl : f.length = ts.length) (x : α) :
    left ts (putOne much f (s, p)) x = left ts f x + much * (p * s.gain * at_ s.e x - p * at_ s.b x) := by
  obtain ⟨t, h1, h2, h3⟩ := h
  have hi : s.n < f.length := by rw [hl]; exact (List.getElem?_eq_some_iff.mp h1).1
  have hv : f[s.n]? = some (f.getD s.n 0) := by
    rw [List.getD_eq_getElem?_getD, List.getElem?_eq_getElem hi]
    rfl
  have h0 : t.gain ≠ 0 := fun e => by rw [e] at h3; exact absurd h3 (by decide)
  rcases h2 with ⟨k, b, e, g⟩ | ⟨k, b, e, g⟩
  · unfold putOne
    rw [k]
    simp only [Bool.false_eq_true, if_false]
    rw [left_set _ x h1 hv]
    unfold coef at_
    rw [b, e, g]
    grind
  · unfold putOne
    rw [k]
    simp only [if_true]
    rw [Rat.sub_eq_add_neg, left_set _ x h1 hv]
    unfold coef at_
    rw [b, e, g]
    by_cases c1 : t.e = x <;> by_cases c2 : t.b = x <;> simp only [c1, c2, if_true, if_false] <;> grind
theorem left_putAlong {ts : List (Tie α)} (much : Rat) (x : α) : ∀ {l : List (Step α)} {f : List Rat} {p : Rat} {b e : α}, (∀ s ∈ l, Fits ts s) → f.length = ts.length → Chain b l e →
    left ts (putAll much f (partsAlong l p)) x = left ts f x + much * (p * gainOf l * at_ e x - p * at_ b x)
  | [], f, p, b, e, _, _, h => by
    cases h
    show left ts f x = left ts f x + much * (p * 1 * at_ b x - p * at_ b x)
    grind
  | s :: l, f, p, b, e, hs, hl, ⟨h1, h2⟩ => by
    show left ts (putAll much (putOne much f (s, p)) (partsAlong l (p * s.gain))) x = _
    rw [left_putAlong much x (fun u hu => hs u (by simp [hu])) (by rw [putOne_len]; exact hl) h2, left_putOne much (hs s (by simp)) hl, h1]
    show _ = left ts f x + much * (p * (s.gain * gainOf l) * at_ e x - p * at_ b x)
    grind
end GM
set_option linter.all false
/-! GM3: worths that grow by lanes; rings among the lanes that places go on by. -/
namespace GM
variable {α : Type} [DecidableEq α]

/-- p goes on by the lane s -/
def Nx (L : List (Step α)) (N : α → Option Nat) (s : Step α) : Prop := ∃ i, N s.b = some i ∧ L[i]? = some s

structure LaneOk (ps : List α) (L : List (Step α)) : Prop where
  b : ∀ s ∈ L, s.b ∈ ps
  e : ∀ s ∈ L, s.e ∈ ps
  ne : ∀ s ∈ L, s.b ≠ s.e
  pos : ∀ s ∈ L, 0 < s.gain
  sz : ∀ s ∈ L, Sz 6 s.gain

/-- worths W, the lanes N that places go on by; ghosts: when each last grew (ts, below T), in which round (rk) -/
structure Grow (L : List (Step α)) (W : α → Rat) (N : α → Option Nat) (ts rk : α → Nat) (T : Nat) : Prop where
  pos : ∀ p, 0 < W p
  sz : ∀ p, Sz (6 * ts p + 1) (W p)
  tT : ∀ p, ts p ≤ T
  out : ∀ p, N p = none → rk p = 0
  nx : ∀ p i, N p = some i → ∃ s, L[i]? = some s ∧ s.b = p ∧ W p ≤ s.gain * W s.e ∧ (W p < s.gain * W s.e ∨ ts s.e < ts p) ∧ rk p ≤ rk s.e + 1

def up {β : Type} (f : α → β) (p : α) (x : β) : α → β := fun y => if y = p then x else f y
theorem up_same {β : Type} (f : α → β) (p : α) (x : β) : up f p x p = x := by unfold up; rw [if_pos rfl]
theorem up_ne {β : Type} (f : α → β) {p y : α} (x : β) (h : y ≠ p) : up f p x y = f y := by unfold up; rw [if_neg h]

theorem Grow.start (L : List (Step α)) : Grow L (fun _ => 1) (fun _ => none) (fun _ => 0) (fun _ => 0) 0 :=
  ⟨fun _ => by decide, fun _ => Sz.one, fun _ => Nat.le_refl _, fun _ _ => rfl, fun _ _ h => nomatch h⟩
theorem Grow.mono {L : List (Step α)} {W : α → Rat} {N : α → Option Nat} {ts rk : α → Nat} {T T' : Nat} (G : Grow L W N ts rk T) (h : T ≤ T') : Grow L W N ts rk T' :=
  ⟨G.pos, G.sz, fun p => Nat.le_trans (G.tT p) h, G.out, G.nx⟩

/-- a place's worth grows by the lane s, in round r -/
theorem Grow.step {ps : List α} {L : List (Step α)} {W : α → Rat} {N : α → Option Nat} {ts rk : α → Nat} {T r i : Nat} {s : Step α} (G : Grow L W N ts rk T) (O : LaneOk ps L)
    (hi : L[i]? = some s) (hgt : W s.b < s.gain * W s.e) (hr : r ≤ rk s.e + 1) (hrk : rk s.b ≤ r) :
    Grow L (up W s.b (s.gain * W s.e)) (up N s.b (some i)) (up ts s.b (T + 1)) (up rk s.b r) (T + 1) := by
  have hs : s ∈ L := List.mem_of_getElem? hi
  have hne : s.e ≠ s.b := fun q => O.ne s hs q.symm
  refine ⟨fun p => ?_, fun p => ?_, fun p => ?_, fun p h => ?_, fun p j h => ?_⟩
  · by_cases e : p = s.b
    · subst e; rw [up_same]; exact Rat.mul_pos (O.pos s hs) (G.pos _)
    · rw [up_ne _ _ e]; exact G.pos p
  · by_cases e : p = s.b
    · subst e
      rw [up_same, up_same]
      refine ((O.sz s hs).mul (G.sz s.e)).mono ?_
      have := G.tT s.e
      omega
    · rw [up_ne _ _ e, up_ne _ _ e]; exact G.sz p
  · by_cases e : p = s.b
    · subst e; rw [up_same]; exact Nat.le_refl _
    · rw [up_ne _ _ e]; exact Nat.le_succ_of_le (G.tT p)
  · by_cases e : p = s.b
    · subst e; rw [up_same] at h; cases h
    · rw [up_ne _ _ e] at h ⊢; exact G.out p h
  · by_cases e : p = s.b
    · subst e
      rw [up_same] at h
      cases h
      refine ⟨s, hi, rfl, ?_, ?_, ?_⟩
      · rw [up_same, up_ne _ _ hne]; exact Rat.le_refl
      · rw [up_same, up_ne _ _ hne, up_same, up_ne _ _ hne]
        exact .inr (Nat.lt_succ_of_le (G.tT s.e))
      · rw [up_same, up_ne _ _ hne]; exact hr
    · rw [up_ne _ _ e] at h
      obtain ⟨u, h1, h2, h3, h4, h5⟩ := G.nx p j h
      have hu : u ∈ L := List.mem_of_getElem? h1
      refine ⟨u, h1, h2, ?_, ?_, ?_⟩
      · rw [up_ne _ _ e]
        by_cases q : u.e = s.b
        · rw [q, up_same]
          rw [q] at h3
          exact Rat.le_trans h3 (Rat.mul_le_mul_of_nonneg_left (Rat.le_of_lt hgt) (Rat.le_of_lt (O.pos u hu)))
        · rw [up_ne _ _ q]; exact h3
      · rw [up_ne _ _ e, up_ne _ _ e]
        by_cases q : u.e = s.b
        · rw [q, up_same]
          rw [q] at h3
          refine .inl ?_
          have h6 : u.gain * W s.b < u.gain * (s.gain * W s.e) := Rat.mul_lt_mul_of_pos_left hgt (O.pos u hu)
          grind
        · rw [up_ne _ _ q, up_ne _ _ q]; exact h4
      · rw [up_ne _ _ e]
        by_cases q : u.e = s.b
        · rw [q, up_same]
          rw [q] at h5
          omega
        · rw [up_ne _ _ q]; exact h5

/-- lanes below j have been looked at in round r -/
def Seen (L : List (Step α)) (W : α → Rat) (rk : α → Nat) (r j : Nat) : Prop :=
  ∀ i s, L[i]? = some s → W s.b < s.gain * W s.e → (if i < j then r ≤ rk s.e else r ≤ rk s.e + 1)
theorem Seen.skip {L : List (Step α)} {W : α → Rat} {rk : α → Nat} {r j : Nat} {s : Step α} (h : Seen L W rk r j) (hs : L[j]? = some s) (hn : ¬ W s.b < s.gain * W s.e) : Seen L W rk r (j + 1) := by
  intro i u hi hu
  by_cases e : i = j
  · subst e
    rw [hs] at hi
    cases hi
    exact absurd hu hn
  · have := h i u hi hu
    by_cases c : i < j
    · rw [if_pos (by omega)]; rw [if_pos c] at this; exact this
    · rw [if_neg (by omega)]; rw [if_neg c] at this; exact this
theorem Seen.grow {ps : List α} {L : List (Step α)} {W : α → Rat} {rk : α → Nat} {r j : Nat} {s : Step α} (O : LaneOk ps L) (h : Seen L W rk r j) (hs : L[j]? = some s) (hgt : W s.b < s.gain * W s.e) (hrk : ∀ p, rk p ≤ r) :
    Seen L (up W s.b (s.gain * W s.e)) (up rk s.b r) r (j + 1) := by
  have hsL : s ∈ L := List.mem_of_getElem? hs
  have hne : s.e ≠ s.b := fun q => O.ne s hsL q.symm
  intro i u hi hu
  have huL : u ∈ L := List.mem_of_getElem? hi
  by_cases q : u.e = s.b
  · rw [q, up_same]
    split <;> omega
  · rw [up_ne _ _ q] at hu ⊢
    have hold : W u.b < u.gain * W u.e := by
      by_cases c : u.b = s.b
      · rw [c, up_same] at hu
        rw [c]
        exact Std.lt_trans hgt hu
      · rw [up_ne _ _ c] at hu
        exact hu
    by_cases e : i = j
    · subst e
      rw [hs] at hi
      cases hi
      rw [up_same] at hu
      exact absurd hu (Std.lt_irrefl)
    · have := h i u hi hold
      by_cases c : i < j
      · rw [if_pos (by omega)]; rw [if_pos c] at this; exact this
      · rw [if_neg (by omega)]; rw [if_neg c] at this; exact this

/-! ### along the lanes that places go on by -/
theorem Grow.chain {L : List (Step α)} {W : α → Rat} {N : α → Option Nat} {ts rk : α → Nat} {T : Nat} (G : Grow L W N ts rk T) (gp : ∀ s ∈ L, 0 < s.gain) : ∀ {l : List (Step α)} {b e : α}, Chain b l e → (∀ s ∈ l, Nx L N s) →
    W b ≤ gainOf l * W e ∧ (l ≠ [] → W b < gainOf l * W e ∨ ts e < ts b) ∧ rk b ≤ rk e + l.length
  | [], b, e, h, _ => by
    cases h
    refine ⟨?_, fun q => (q rfl).elim, by simp⟩
    show W b ≤ 1 * W b
    rw [Rat.one_mul]
    exact Rat.le_refl
  | s :: l, b, e, ⟨h1, h2⟩, hn => by
    obtain ⟨i, hi, hL⟩ := hn s (by simp)
    subst h1
    obtain ⟨u, g1, g2, g3, g4, g5⟩ := G.nx _ i hi
    rw [hL] at g1
    cases g1
    have gs : 0 < s.gain := gp s (List.mem_of_getElem? hL)
    obtain ⟨k1, k2, k3⟩ := Grow.chain G gp h2 fun u hu => hn u (by simp [hu])
    have m : s.gain * W s.e ≤ s.gain * (gainOf l * W e) := Rat.mul_le_mul_of_nonneg_left k1 (Rat.le_of_lt gs)
    have ee : gainOf (s :: l) * W e = s.gain * (gainOf l * W e) := by
      show s.gain * gainOf l * W e = _
      rw [Rat.mul_assoc]
    rw [ee]
    refine ⟨Rat.le_trans g3 m, fun _ => ?_, by simp; omega⟩
    rcases g4 with g4 | g4
    · exact .inl (Std.lt_of_lt_of_le g4 m)
    · cases l with
      | nil =>
        cases h2
        exact .inr g4
      | cons v l =>
        rcases k2 (by simp) with k2 | k2
        · refine .inl (Std.lt_of_le_of_lt g3 ?_)
          exact Rat.mul_lt_mul_of_pos_left k2 gs
        · exact .inr (by omega)
/-- a ring of lanes that places go on by gains -/
theorem Grow.ring {L : List (Step α)} {W : α → Rat} {N : α → Option Nat} {ts rk : α → Nat} {T : Nat} (G : Grow L W N ts rk T) (gp : ∀ s ∈ L, 0 < s.gain) {l : List (Step α)} {b : α} (h : Chain b l b) (hn : ∀ s ∈ l, Nx L N s) (hl : l ≠ []) : 1 < gainOf l := by
  obtain ⟨_, k, _⟩ := G.chain gp h hn
  rcases k hl with k | k
  · have p := G.pos b
    refine Rat.not_le.mp fun q => ?_
    have m : gainOf l * W b ≤ 1 * W b := Rat.mul_le_mul_of_nonneg_right q (Rat.le_of_lt p)
    rw [Rat.one_mul] at m
    exact absurd (Std.lt_of_lt_of_le k m) Std.lt_irrefl
  · omega
/-- without a repeated place in a list there are no more than places -/
theorem nodup_le {l ps : List α} (h : l.Nodup) (hs : ∀ x ∈ l, x ∈ ps) : l.length ≤ ps.length := by
  induction l generalizing ps with
  | nil => simp
  | cons a l ih =>
    obtain ⟨h1, h2⟩ := List.nodup_cons.mp h
    have ha : a ∈ ps := hs a (by simp)
    have := ih (ps := ps.erase a) h2 fun x hx => by
      have hxa : x ≠ a := fun q => h1 (q ▸ hx)
      exact (List.mem_erase_of_ne hxa).mpr (hs x (by simp [hx]))
    rw [List.length_erase_of_mem ha] at this
    have : 0 < ps.length := List.length_pos_of_mem ha
    simp
    omega
theorem Grow.rank {ps : List α} {L : List (Step α)} {W : α → Rat} {N : α → Option Nat} {ts rk : α → Nat} {T : Nat} (G : Grow L W N ts rk T) (gp : ∀ s ∈ L, 0 < s.gain) {l : List (Step α)} {b e : α} (h : Chain b l e) (hn : ∀ s ∈ l, Nx L N s) (he : N e = none)
    (hd : (b :: l.map (·.e)).Nodup) (hp : ∀ x ∈ b :: l.map (·.e), x ∈ ps) : rk b < ps.length := by
  obtain ⟨_, _, k⟩ := G.chain gp h hn
  rw [G.out e he] at k
  have := nodup_le hd hp
  simp at this
  omega
end GM
set_option linter.all false
/-! GM4: betterings: what they are, what they bring; worths that show that nothing brings more. -/
namespace GM
variable {α : Type} [DecidableEq α]

structure WayOk (ss : List (Step α)) (b e : α) (c : List (Step α)) : Prop where
  ch : Chain b c e
  mem : ∀ s ∈ c, s ∈ ss
  nd : (b :: c.map (·.e)).Nodup
structure RingOk (ss : List (Step α)) (e : α) (r c : List (Step α)) (x : α) : Prop where
  chr : Chain x r x
  memr : ∀ s ∈ r, s ∈ ss
  ndr : (r.map (·.b)).Nodup
  two : 2 ≤ r.length
  gain : 1 < gainOf r
  chc : Chain x c e
  memc : ∀ s ∈ c, s ∈ ss
  ndc : (x :: c.map (·.e)).Nodup
  off : ∀ s ∈ c, s.e ∉ r.map (·.b)
inductive Bet (α : Type) where
  | way (c : List (Step α))
  | ring (r c : List (Step α))
def BetOk (ss : List (Step α)) (b e : α) : Bet α → Prop
  | .way c => WayOk ss b e c
  | .ring r c => ∃ x, RingOk ss e r c x
def partsOf : Bet α → List (Step α × Rat)
  | .way c => partsAlong c 1
  | .ring r c => partsAlong r 1 ++ partsAlong c (gainOf r - 1)
/-- its steps -/
def Bet.steps : Bet α → List (Step α)
  | .way c => c
  | .ring r c => r ++ c

theorem gainOf_comm (l m : List (Step α)) : gainOf (l ++ m) = gainOf (m ++ l) := by
  rw [gainOf_append, gainOf_append, Rat.mul_comm]
theorem chain_head {l : List (Step α)} {b e : α} {s : Step α} (h : Chain b (s :: l) e) : s.b = b := h.1
theorem ring_rotate {r : List (Step α)} {x : α} (h : Chain x r x) {j : Nat} {s : Step α} (hj : r[j]? = some s) : Chain s.b (r.drop j ++ r.take j) s.b ∧ gainOf (r.drop j ++ r.take j) = gainOf r := by
  have hs : Chain x (r.take j ++ r.drop j) x := by rw [List.take_append_drop]; exact h
  obtain ⟨c, h1, h2⟩ := hs.split
  have hlt := (List.getElem?_eq_some_iff.mp hj).1
  have ed : r.drop j = s :: r.drop (j + 1) := by
    rw [List.drop_eq_getElem_cons hlt]
    congr 1
    exact Option.some.inj ((List.getElem?_eq_getElem hlt).symm.trans hj)
  have hc : s.b = c := by
    rw [ed] at h2
    exact h2.1
  rw [hc]
  refine ⟨h2.append h1, ?_⟩
  rw [gainOf_comm, List.take_append_drop]
theorem rotate_nodup {β : Type} [DecidableEq β] {l : List β} (h : l.Nodup) (j : Nat) : (l.drop j ++ l.take j).Nodup := by
  have p : (l.drop j ++ l.take j).Perm l := by
    have := List.perm_append_comm (l₁ := l.drop j) (l₂ := l.take j)
    rwa [List.take_append_drop] at this
  exact p.nodup_iff.mpr h
theorem rotate_mem {β : Type} {l : List β} {j : Nat} {x : β} (h : x ∈ l.drop j ++ l.take j) : x ∈ l := by
  rcases List.mem_append.mp h with q | q
  · exact List.mem_of_mem_drop q
  · exact List.mem_of_mem_take q

/-! ### a tie stands at most once in a bettering -/
theorem chain_ends_mem : ∀ {l : List (Step α)} {b e : α} {s : Step α}, Chain b l e → s ∈ l → s.b ∈ b :: l.map (·.e) ∧ s.e ∈ l.map (·.e)
  | [], _, _, _, _, h => nomatch h
  | u :: l, b, e, s, ⟨h1, h2⟩, h => by
    rcases List.mem_cons.mp h with rfl | h
    · exact ⟨by simp [h1], by simp⟩
    · obtain ⟨k1, k2⟩ := chain_ends_mem h2 h
      refine ⟨?_, by simp; right; simpa using k2⟩
      simp only [List.mem_cons, List.map_cons] at k1 ⊢
      exact .inr k1
/-- in a simple course no step comes back to where an earlier one began -/
theorem course_pair : ∀ {l : List (Step α)} {b e : α}, Chain b l e → (b :: l.map (·.e)).Nodup → l.Pairwise fun s u => s.b ≠ u.b ∧ s.b ≠ u.e
  | [], _, _, _, _ => .nil
  | s :: l, b, e, ⟨h1, h2⟩, hn => by
    obtain ⟨n1, n2⟩ := List.nodup_cons.mp hn
    refine .cons (fun u hu => ?_) (course_pair h2 n2)
    obtain ⟨k1, k2⟩ := chain_ends_mem h2 hu
    refine ⟨fun q => n1 ?_, fun q => n1 ?_⟩
    · rw [← h1, q]; exact k1
    · rw [← h1, q]; exact List.mem_cons_of_mem _ k2
/-- two steps of one tie begin alike, or one begins where the other ends (and the other way round) -/
theorem Fits.same {ts : List (Tie α)} {s u : Step α} (h : Fits ts s) (k : Fits ts u) (e : s.n = u.n) : (s.k = u.k ∧ s.b = u.b ∧ s.e = u.e ∧ s.gain = u.gain) ∨ (s.b = u.e ∧ s.e = u.b ∧ s.gain * u.gain = 1) := by
  obtain ⟨t, h1, h2, h3⟩ := h
  obtain ⟨t', k1, k2, k3⟩ := k
  rw [e, k1] at h1
  cases h1
  have h0 : t.gain ≠ 0 := fun q => by rw [q] at h3; exact absurd h3 (by decide)
  rcases h2 with ⟨a1, a2, a3, a4⟩ | ⟨a1, a2, a3, a4⟩ <;> rcases k2 with ⟨b1, b2, b3, b4⟩ | ⟨b1, b2, b3, b4⟩
  · exact .inl ⟨by rw [a1, b1], by rw [a2, b2], by rw [a3, b3], by rw [a4, b4]⟩
  · refine .inr ⟨by rw [a2, b3], by rw [a3, b2], ?_⟩
    rw [a4, b4]
    grind
  · refine .inr ⟨by rw [a2, b3], by rw [a3, b2], ?_⟩
    rw [a4, b4]
    grind
  · exact .inl ⟨by rw [a1, b1], by rw [a2, b2], by rw [a3, b3], by rw [a4, b4]⟩
theorem course_ties {ts : List (Tie α)} {l : List (Step α)} {b e : α} (hf : ∀ s ∈ l, Fits ts s) (h : Chain b l e) (hn : (b :: l.map (·.e)).Nodup) : (l.map (·.n)).Nodup := by
  have p := course_pair h hn
  refine List.pairwise_map.mpr ((List.pairwise_iff_forall_sublist.mpr fun {s u} hsu => ?_))
  have hs : s ∈ l := hsu.subset (by simp)
  have hu : u ∈ l := hsu.subset (by simp)
  have q := List.pairwise_iff_forall_sublist.mp p hsu
  intro en
  rcases (hf s hs).same (hf u hu) en with ⟨_, z, _⟩ | ⟨z, _⟩
  · exact q.1 z
  · exact q.2 z
/-- a ring: its first step aside it is a simple course -/
theorem ring_ties {ts : List (Tie α)} {r : List (Step α)} {x : α} (hf : ∀ s ∈ r, Fits ts s) (h : Chain x r x) (hn : (r.map (·.b)).Nodup) (hg : 1 < gainOf r) : (r.map (·.n)).Nodup := by
  cases r with
  | nil => exact List.nodup_nil
  | cons s l =>
    obtain ⟨h1, h2⟩ := h
    subst h1
    have hl : (s.e :: l.map (·.e)).Nodup := by
      have hb := show l.map (·.b) ++ [s.b] = s.e :: l.map (·.e) from by
        clear hn hg hf
        generalize s.e = y at h2
        generalize s.b = z at h2
        induction l generalizing y with
        | nil => cases h2; rfl
        | cons u l ih =>
          obtain ⟨k1, k2⟩ := h2
          show u.b :: (l.map (·.b) ++ [z]) = y :: u.e :: l.map (·.e)
          rw [ih u.e k2, k1]
      rw [← hb]
      have hn : (s.b :: l.map (·.b)).Nodup := hn
      obtain ⟨n1, n2⟩ := List.nodup_cons.mp hn
      exact List.nodup_append.mpr ⟨n2, by simp, fun a ha b hb q => n1 (by rw [List.mem_singleton.mp hb] at q; rw [← q]; exact ha)⟩
    have hlt := course_ties (fun u hu => hf u (by simp [hu])) h2 hl
    refine List.nodup_cons.mpr ⟨fun hm => ?_, hlt⟩
    obtain ⟨u, hu, hun⟩ := List.mem_map.mp hm
    have hn : (s.b :: l.map (·.b)).Nodup := hn
    obtain ⟨n1, n2⟩ := List.nodup_cons.mp hn
    rcases (hf s (by simp)).same (hf u (by simp [hu])) hun.symm with ⟨_, z, _⟩ | ⟨z1, z2, z3⟩
    · exact n1 (z ▸ List.mem_map.mpr ⟨u, hu, rfl⟩)
    · -- u goes from s.e to s.b: then it is all that is left
      cases l with
      | nil => exact nomatch hu
      | cons v l =>
        obtain ⟨k1, k2⟩ := h2
        have hv : v = u := by
          rcases List.mem_cons.mp hu with q | q
          · exact q.symm
          · have n2 : (v.b :: l.map (·.b)).Nodup := n2
            obtain ⟨n3, _⟩ := List.nodup_cons.mp n2
            exact absurd (List.mem_map.mpr ⟨u, q, by rw [← z2, k1]⟩) n3
        subst hv
        cases l with
        | nil =>
          have : gainOf [s, v] = s.gain * v.gain := by show s.gain * (v.gain * 1) = _; rw [Rat.mul_one]
          rw [this, z3] at hg
          exact absurd hg Std.lt_irrefl
        | cons y l =>
          obtain ⟨k3, _⟩ := k2
          exact n1 (by rw [z1, ← k3]; simp)
theorem bet_ties {ts : List (Tie α)} {ss : List (Step α)} {b e : α} {x : Bet α} (hf : ∀ s ∈ ss, Fits ts s) (h : BetOk ss b e x) : (x.steps.map (·.n)).Nodup := by
  cases x with
  | way c => exact course_ties (fun s hs => hf s (h.mem s hs)) h.ch h.nd
  | ring r c =>
    obtain ⟨x, h⟩ := h
    show ((r ++ c).map (·.n)).Nodup
    rw [List.map_append]
    refine List.nodup_append.mpr ⟨ring_ties (fun s hs => hf s (h.memr s hs)) h.chr h.ndr h.gain, course_ties (fun s hs => hf s (h.memc s hs)) h.chc h.ndc, fun a ha b hb q => ?_⟩
    obtain ⟨s, hs, rfl⟩ := List.mem_map.mp ha
    obtain ⟨u, hu, rfl⟩ := List.mem_map.mp hb
    have hsb : s.b ∈ r.map (·.b) := List.mem_map.mpr ⟨s, hs, rfl⟩
    have hse : s.e ∈ r.map (·.b) := by
      -- the ends of a ring are its begins
      have hb : ∀ {l : List (Step α)} {y z : α}, Chain y l z → l.map (·.b) ++ [z] = y :: l.map (·.e) := by
        intro l
        induction l with
        | nil => intro y z h; cases h; rfl
        | cons v l ih =>
          intro y z ⟨k1, k2⟩
          show v.b :: (l.map (·.b) ++ [z]) = y :: v.e :: l.map (·.e)
          rw [ih k2, k1]
      have h1 := hb h.chr
      have hx : s.e ∈ r.map (·.b) ++ [x] := by rw [h1]; exact List.mem_cons_of_mem _ (List.mem_map.mpr ⟨s, hs, rfl⟩)
      rcases List.mem_append.mp hx with z | z
      · exact z
      · rw [List.mem_singleton.mp z]
        have hr : r ≠ [] := fun q => by rw [q] at hs; exact nomatch hs
        obtain ⟨v, l, rfl⟩ : ∃ v l, r = v :: l := by
          cases r with
          | nil => exact (hr rfl).elim
          | cons v l => exact ⟨v, l, rfl⟩
        rw [← h.chr.1]
        simp
    rcases (hf s (h.memr s hs)).same (hf u (h.memc u hu)) q with ⟨_, _, z, _⟩ | ⟨z, _, _⟩
    · exact h.off u hu (z ▸ hse)
    · exact h.off u hu (z ▸ hsb)

/-! ### putting more along steps of unlike ties -/
theorem putOne_other {much : Rat} {f : List Rat} {q : Step α × Rat} {i : Nat} (h : i ≠ q.1.n) : (putOne much f q)[i]? = f[i]? := by
  unfold putOne
  split <;> rw [List.getElem?_set_ne (Ne.symm h)]
theorem putAll_other {much : Rat} {i : Nat} : ∀ {ps : List (Step α × Rat)} {f : List Rat}, i ∉ ps.map (·.1.n) → (putAll much f ps)[i]? = f[i]?
  | [], _, _ => rfl
  | q :: ps, f, h => by
    rw [putAll_cons, putAll_other (ps := ps) (fun z => h (by simp; right; simpa using z)), putOne_other (fun z => h (by simp [z]))]
/-- what stands at a step's tie behind all -/
theorem putAll_at {much : Rat} : ∀ {ps : List (Step α × Rat)} {f : List Rat} {q : Step α × Rat} {v : Rat}, (ps.map (·.1.n)).Nodup → q ∈ ps → f[q.1.n]? = some v →
    (putAll much f ps)[q.1.n]? = some (if q.1.k then v - much * q.2 * q.1.gain else v + much * q.2)
  | [], _, _, _, _, h, _ => nomatch h
  | p :: ps, f, q, v, hn, h, hv => by
    have hn : (p.1.n :: ps.map (·.1.n)).Nodup := hn
    obtain ⟨n1, n2⟩ := List.nodup_cons.mp hn
    rw [putAll_cons]
    rcases List.mem_cons.mp h with rfl | h
    · rw [putAll_other n1]
      have hd : f.getD q.1.n 0 = v := by rw [List.getD_eq_getElem?_getD, hv]; rfl
      have hl := (List.getElem?_eq_some_iff.mp hv).1
      unfold putOne
      split <;> rename_i c <;> simp [hl, hd, c, hv]
      all_goals grind
    · have ne : q.1.n ≠ p.1.n := fun z => n1 (z ▸ List.mem_map.mpr ⟨q, h, rfl⟩)
      exact putAll_at n2 h (by rw [putOne_other ne]; exact hv)

/-- f is a stream that keeps all but begin and end -/
structure Flow (ts : List (Tie α)) (ps : List α) (b e : α) (f : List Rat) : Prop where
  len : f.length = ts.length
  lo : ∀ (i : Nat) x, f[i]? = some x → 0 ≤ x
  hi : ∀ (i : Nat) t x, ts[i]? = some t → f[i]? = some x → x ≤ t.most
  keep : ∀ p ∈ ps, p ≠ b → p ≠ e → left ts f p = 0

theorem mem_parts_step : ∀ {l : List (Step α)} {p : Rat} {q : Step α × Rat}, q ∈ partsAlong l p → q.1 ∈ l
  | [], _, _, h => nomatch h
  | s :: l, p, q, h => by
    rcases List.mem_cons.mp (show q ∈ (s, p) :: partsAlong l (p * s.gain) from h) with rfl | h
    · simp
    · exact List.mem_cons_of_mem _ (mem_parts_step h)
theorem partsOf_fst (x : Bet α) : (partsOf x).map (·.1) = x.steps := by
  cases x with
  | way c => exact partsAlong_fst c 1
  | ring r c =>
    show (partsAlong r 1 ++ partsAlong c (gainOf r - 1)).map (·.1) = r ++ c
    rw [List.map_append, partsAlong_fst, partsAlong_fst]
theorem bet_mem {ss : List (Step α)} {b e : α} {x : Bet α} (h : BetOk ss b e x) : ∀ s ∈ x.steps, s ∈ ss := by
  cases x with
  | way c => exact h.mem
  | ring r c =>
    obtain ⟨x, h⟩ := h
    intro s hs
    rcases List.mem_append.mp hs with q | q
    · exact h.memr s q
    · exact h.memc s q
theorem parts_pos {ss : List (Step α)} {b e : α} {x : Bet α} (hp : ∀ s ∈ ss, 0 < s.gain) (h : BetOk ss b e x) : ∀ q ∈ partsOf x, 0 < q.2 := by
  cases x with
  | way c => exact partsAlong_pos (by decide) fun s hs => hp s (h.mem s hs)
  | ring r c =>
    obtain ⟨x, h⟩ := h
    intro q hq
    rcases List.mem_append.mp hq with z | z
    · exact partsAlong_pos (by decide) (fun s hs => hp s (h.memr s hs)) q z
    · refine partsAlong_pos ?_ (fun s hs => hp s (h.memc s hs)) q z
      have := h.gain
      grind
theorem bet_ne {ss : List (Step α)} {b e : α} {x : Bet α} (hbe : b ≠ e) (h : BetOk ss b e x) : partsOf x ≠ [] := by
  intro z
  have hs := partsOf_fst x
  rw [z] at hs
  cases x with
  | way c =>
    have : c = [] := hs.symm
    subst this
    exact hbe h.ch
  | ring r c =>
    obtain ⟨x, h⟩ := h
    have : r ++ c = [] := hs.symm
    have hr : r = [] := (List.append_eq_nil_iff.mp this).1
    have := h.two
    rw [hr] at this
    exact absurd this (by simp)

/-- THE BETTERED STREAM: with so much that no step is above its room it keeps, is a stream, and brings more -/
theorem bettered_flow {ts : List (Tie α)} {ps : List α} {b e : α} {f : List Rat} {x : Bet α} {much : Rat} (F : Flow ts ps b e f) (hg : ∀ t ∈ ts, 0 < t.gain) (hbe : b ≠ e) (h : BetOk (stepsOf ts f) b e x)
    (h0 : 0 < much) (hm : ∀ q ∈ partsOf x, much * q.2 ≤ q.1.room) : Flow ts ps b e (putAll much f (partsOf x)) ∧ left ts f e < left ts (putAll much f (partsOf x)) e := by
  have hst : ∀ s ∈ x.steps, IsStep ts f s := fun s hs => mem_stepsOf.mp (bet_mem h s hs)
  have hfit : ∀ s ∈ stepsOf ts f, Fits ts s := fun s hs => (mem_stepsOf.mp hs).fits hg
  have hnd : ((partsOf x).map (·.1.n)).Nodup := by
    have := bet_ties hfit h
    rw [← partsOf_fst x, List.map_map] at this
    exact this
  have hpp := parts_pos (fun s hs => (hfit s hs).pos) h
  -- what is left at each place
  have hleft : ∀ p, left ts (putAll much f (partsOf x)) p = left ts f p + (if p = e then much * (match x with | .way c => gainOf c | .ring r c => (gainOf r - 1) * gainOf c) else 0) - (if p = b then (match x with | .way _ => much | .ring _ _ => 0) else 0) := by
    intro p
    cases x with
    | way c =>
      show left ts (putAll much f (partsAlong c 1)) p = left ts f p + (if p = e then much * gainOf c else 0) - (if p = b then much else 0)
      rw [left_putAlong much p (fun s hs => hfit s (h.mem s hs)) F.len h.ch]
      unfold at_
      by_cases c1 : e = p <;> by_cases c2 : b = p <;> simp only [c1, c2, eq_comm, if_true, if_false] <;> grind
    | ring r c =>
      obtain ⟨y, h⟩ := h
      show left ts (putAll much f (partsAlong r 1 ++ partsAlong c (gainOf r - 1))) p = left ts f p + (if p = e then much * ((gainOf r - 1) * gainOf c) else 0) - (if p = b then 0 else 0)
      unfold putAll
      rw [List.foldl_append]
      show left ts (putAll much (putAll much f (partsAlong r 1)) (partsAlong c (gainOf r - 1))) p = _
      rw [left_putAlong much p (fun s hs => hfit s (h.memc s hs)) (by rw [putAll_len]; exact F.len) h.chc, left_putAlong much p (fun s hs => hfit s (h.memr s hs)) F.len h.chr]
      unfold at_
      by_cases c1 : e = p <;> by_cases c2 : y = p <;> by_cases c3 : p = b <;> simp only [c1, c2, c3, eq_comm, if_true, if_false] <;> grind
  have hgp : 0 < (match x with | .way c => gainOf c | .ring r c => (gainOf r - 1) * gainOf c) := by
    cases x with
    | way c => exact gainOf_pos fun s hs => (hfit s (h.mem s hs)).pos
    | ring r c =>
      obtain ⟨y, h⟩ := h
      have g1 := h.gain
      exact Rat.mul_pos (by grind) (gainOf_pos fun s hs => (hfit s (h.memc s hs)).pos)
  refine ⟨⟨by rw [putAll_len]; exact F.len, fun i v hv => ?_, fun i t v ht hv => ?_, fun p hp hpb hpe => ?_⟩, ?_⟩
  · by_cases hi : i ∈ (partsOf x).map (·.1.n)
    · obtain ⟨q, hq, rfl⟩ := List.mem_map.mp hi
      have hqs : q.1 ∈ x.steps := by rw [← partsOf_fst x]; exact List.mem_map.mpr ⟨q, hq, rfl⟩
      obtain ⟨t, v0, ht, hv0, k⟩ := hst q.1 hqs
      rw [putAll_at hnd hq hv0] at hv
      have hv := Option.some.inj hv
      have hp2 := hpp q hq
      have hmq := hm q hq
      have hgt := hg t (List.mem_of_getElem? ht)
      have h1 : 0 < much * q.2 := Rat.mul_pos h0 hp2
      rcases k with ⟨k1, _, _, k4, k5, _⟩ | ⟨k1, _, _, k4, k5, _⟩
      · rw [k1] at hv
        have := F.lo _ _ hv0
        simp only [Bool.false_eq_true, if_false] at hv
        grind
      · rw [k1] at hv
        simp only [if_true] at hv
        rw [k4] at hmq
        rw [k5] at hv
        -- v0 - (much q2) / gain, much q2 ≤ v0 * gain
        have h2 : much * q.2 * (1 / t.gain) ≤ v0 * t.gain * (1 / t.gain) := Rat.mul_le_mul_of_nonneg_right hmq (Rat.le_of_lt (one_div_pos hgt))
        have h3 : v0 * t.gain * (1 / t.gain) = v0 := by
          have : t.gain ≠ 0 := fun z => by rw [z] at hgt; exact absurd hgt (by decide)
          grind
        grind
    · rw [putAll_other hi] at hv
      exact F.lo _ _ hv
  · by_cases hi : i ∈ (partsOf x).map (·.1.n)
    · obtain ⟨q, hq, rfl⟩ := List.mem_map.mp hi
      have hqs : q.1 ∈ x.steps := by rw [← partsOf_fst x]; exact List.mem_map.mpr ⟨q, hq, rfl⟩
      obtain ⟨t', v0, ht', hv0, k⟩ := hst q.1 hqs
      rw [ht] at ht'
      cases ht'
      rw [putAll_at hnd hq hv0] at hv
      have hv := Option.some.inj hv
      have hp2 := hpp q hq
      have hmq := hm q hq
      have hgt := hg t (List.mem_of_getElem? ht)
      have h1 : 0 < much * q.2 := Rat.mul_pos h0 hp2
      rcases k with ⟨k1, _, _, k4, k5, _⟩ | ⟨k1, _, _, k4, k5, _⟩
      · rw [k1] at hv
        simp only [Bool.false_eq_true, if_false] at hv
        rw [k4] at hmq
        grind
      · rw [k1] at hv
        simp only [if_true] at hv
        have := F.hi _ _ _ ht hv0
        have h2 : 0 < much * q.2 * q.1.gain := by
          rw [k5]
          exact Rat.mul_pos h1 (one_div_pos hgt)
        grind
    · rw [putAll_other hi] at hv
      exact F.hi _ _ _ ht hv
  · rw [hleft, F.keep p hp hpb hpe, if_neg hpe, if_neg hpb]
    grind
  · rw [hleft, if_pos rfl, if_neg (fun z => hbe z.symm)]
    have := Rat.mul_pos h0 hgp
    grind

/-! ### worths that show that nothing brings more -/
/-- no step leads into R but from R, and there worths hold: so nothing brings more -/
structure Stuck (ts : List (Tie α)) (f : List Rat) (b e : α) (R : α → Prop) (h : α → Rat) : Prop where
  e : R e
  b : ¬ R b
  pos : ∀ x, 0 < h x
  inn : ∀ s, IsStep ts f s → R s.e → R s.b
  hold : ∀ s, IsStep ts f s → R s.e → s.gain * h s.e ≤ h s.b

/-- worths' sum over the ties -/
def wsum (w : α → Rat) : List (Tie α) → List Rat → Rat
  | t :: ts, v :: f => v * (t.gain * w t.e - w t.b) + wsum w ts f
  | _, _ => 0
def psum (w : α → Rat) (g : α → Rat) : List α → Rat
  | [] => 0
  | p :: ps => w p * g p + psum w g ps
theorem psum_add (w g g' : α → Rat) (c : Rat) : ∀ ps : List α, psum w (fun p => c * g p + g' p) ps = c * psum w g ps + psum w g' ps
  | [] => by show (0 : Rat) = c * 0 + 0; grind
  | p :: ps => by
    show w p * (c * g p + g' p) + psum w (fun p => c * g p + g' p) ps = c * (w p * g p + psum w g ps) + (w p * g' p + psum w g' ps)
    rw [psum_add w g g' c ps]
    grind
theorem psum_coef (w : α → Rat) (t : Tie α) : ∀ {ps : List α}, ps.Nodup → (t.e ∈ ps) → (t.b ∈ ps) → psum w (coef t) ps = t.gain * w t.e - w t.b := by
  have one : ∀ (x : α) (c : Rat) (ps : List α), ps.Nodup → psum w (fun p => if x = p then c else 0) ps = if x ∈ ps then c * w x else 0 := by
    intro x c ps
    induction ps with
    | nil => intro _; rfl
    | cons p ps ih =>
      intro hn
      obtain ⟨n1, n2⟩ := List.nodup_cons.mp hn
      show w p * (if x = p then c else 0) + psum w (fun p => if x = p then c else 0) ps = _
      rw [ih n2]
      by_cases hx : x = p
      · subst hx
        rw [if_pos rfl, if_neg n1, if_pos (by simp)]
        grind
      · rw [if_neg hx]
        by_cases h2 : x ∈ ps
        · rw [if_pos h2, if_pos (by simp [h2])]; grind
        · rw [if_neg h2, if_neg (by simp [hx, h2])]; grind
  intro ps hn he hb
  have e1 : coef t = fun p => (-1) * (if t.b = p then (1 : Rat) else 0) + (if t.e = p then t.gain else 0) := by
    funext p
    unfold coef
    grind
  rw [e1, psum_add, one _ _ _ hn, one _ _ _ hn, if_pos he, if_pos hb]
  grind
theorem psum_left (w : α → Rat) {ps : List α} (hn : ps.Nodup) : ∀ {ts : List (Tie α)} {f : List Rat}, ts.length = f.length → (∀ t ∈ ts, t.b ∈ ps ∧ t.e ∈ ps) → psum w (left ts f) ps = wsum w ts f
  | [], [], _, _ => by
    have z : ∀ qs : List α, psum w (fun _ => (0 : Rat)) qs = 0 := by
      intro qs
      induction qs with
      | nil => rfl
      | cons p qs ih => show w p * 0 + psum w (fun _ => 0) qs = 0; rw [ih]; grind
    have e : (left ([] : List (Tie α)) []) = fun _ => (0 : Rat) := rfl
    rw [e, z]
    rfl
  | t :: ts, v :: f, hl, hp => by
    have e : left (t :: ts) (v :: f) = fun p => v * coef t p + left ts f p := rfl
    have ht := hp t (by simp)
    rw [e, psum_add, psum_left w hn (by simpa using hl) (fun u hu => hp u (by simp [hu])), psum_coef w t hn ht.2 ht.1]
    rfl
  | [], _ :: _, h, _ => by simp at h
  | _ :: _, [], h, _ => by simp at h
theorem psum_zero (w g : α → Rat) : ∀ {ps : List α}, (∀ p ∈ ps, w p * g p = 0) → psum w g ps = 0
  | [], _ => rfl
  | p :: ps, h => by
    show w p * g p + psum w g ps = 0
    rw [h p (by simp), psum_zero w g (fun q hq => h q (by simp [hq]))]
    grind
theorem psum_one (w g : α → Rat) {x : α} : ∀ {ps : List α}, ps.Nodup → x ∈ ps → (∀ p ∈ ps, p ≠ x → w p * g p = 0) → psum w g ps = w x * g x
  | [], _, h, _ => nomatch h
  | p :: ps, hn, hx, h => by
    obtain ⟨n1, n2⟩ := List.nodup_cons.mp hn
    show w p * g p + psum w g ps = _
    by_cases q : p = x
    · subst q
      rw [psum_zero w g fun y hy => h y (by simp [hy]) fun z => n1 (z ▸ hy)]
      grind
    · have hx' : x ∈ ps := by
        rcases List.mem_cons.mp hx with z | z
        · exact absurd z.symm q
        · exact z
      rw [h p (by simp) q, psum_one w g n2 hx' fun y hy => h y (by simp [hy])]
      grind
/-- of a stream that keeps: what worths with 0 of begin make over the ties is what comes to end, times its worth -/
theorem wsum_flow {ts : List (Tie α)} {ps : List α} {b e : α} {f : List Rat} (F : Flow ts ps b e f) (w : α → Rat) (hn : ps.Nodup) (he : e ∈ ps) (hp : ∀ t ∈ ts, t.b ∈ ps ∧ t.e ∈ ps) (hb : w b = 0) : wsum w ts f = w e * left ts f e := by
  rw [← psum_left w hn F.len.symm hp]
  refine psum_one w _ hn he fun p hpp hpe => ?_
  by_cases q : p = b
  · rw [q, hb]; grind
  · rw [F.keep p hpp q hpe]; grind
theorem wsum_le (w : α → Rat) : ∀ {ts : List (Tie α)} {f g : List Rat}, ts.length = f.length → ts.length = g.length → (∀ (i : Nat) t x y, ts[i]? = some t → f[i]? = some x → g[i]? = some y → y * (t.gain * w t.e - w t.b) ≤ x * (t.gain * w t.e - w t.b)) → wsum w ts g ≤ wsum w ts f
  | [], [], [], _, _, _ => Rat.le_refl
  | t :: ts, x :: f, y :: g, h1, h2, h => by
    have a := h 0 t x y rfl rfl rfl
    have b := wsum_le w (ts := ts) (f := f) (g := g) (by simpa using h1) (by simpa using h2) fun i t x y p q r => h (i + 1) t x y (by simpa using p) (by simpa using q) (by simpa using r)
    show y * (t.gain * w t.e - w t.b) + wsum w ts g ≤ x * (t.gain * w t.e - w t.b) + wsum w ts f
    grind
  | [], _ :: _, _, h, _, _ => by simp at h
  | [], [], _ :: _, _, h, _ => by simp at h
  | _ :: _, [], _, h, _, _ => by simp at h
  | _ :: _, _ :: _, [], _, h, _ => by simp at h
/-- each tie that the worths cut is full, each that they don't want empty -/
def Slack (w : α → Rat) (ts : List (Tie α)) (f : List Rat) : Prop :=
  ∀ (i : Nat) t x, ts[i]? = some t → f[i]? = some x → (0 < t.gain * w t.e - w t.b → x = t.most) ∧ (t.gain * w t.e - w t.b < 0 → x = 0)
theorem slack_best {ts : List (Tie α)} {ps : List α} {b e : α} {f g : List Rat} (F : Flow ts ps b e f) (G : Flow ts ps b e g) (w : α → Rat) (hn : ps.Nodup) (he : e ∈ ps) (hp : ∀ t ∈ ts, t.b ∈ ps ∧ t.e ∈ ps) (hb : w b = 0) (hw : 0 < w e) (S : Slack w ts f) :
    left ts g e ≤ left ts f e := by
  have h1 := wsum_flow F w hn he hp hb
  have h2 := wsum_flow G w hn he hp hb
  have h3 := wsum_le w F.len.symm G.len.symm fun i t x y ht hx hy => by
    obtain ⟨s1, s2⟩ := S i t x ht hx
    by_cases c1 : 0 < t.gain * w t.e - w t.b
    · rw [s1 c1]
      exact Rat.mul_le_mul_of_nonneg_right (G.hi i t y ht hy) (Rat.le_of_lt c1)
    · by_cases c2 : t.gain * w t.e - w t.b < 0
      · rw [s2 c2]
        have hy0 := G.lo i y hy
        have : 0 ≤ y * -(t.gain * w t.e - w t.b) := Rat.mul_nonneg hy0 (by grind)
        grind
      · have : t.gain * w t.e - w t.b = 0 := by grind
        rw [this]
        grind
  rw [h1, h2] at h3
  exact Rat.le_of_mul_le_mul_left h3 hw
open Classical in
theorem Stuck.slack {ts : List (Tie α)} {f : List Rat} {b e : α} {R : α → Prop} {h : α → Rat} {ps : List α} (S : Stuck ts f b e R h) (F : Flow ts ps b e f) (hg : ∀ t ∈ ts, 0 < t.gain) : Slack (fun x => if R x then h x else 0) ts f := by
  intro i t x ht hx
  have gt := hg t (List.mem_of_getElem? ht)
  have g0 : t.gain ≠ 0 := fun z => by rw [z] at gt; exact absurd gt (by decide)
  refine ⟨fun c => ?_, fun c => ?_⟩
  · replace c : 0 < t.gain * (if R t.e then h t.e else 0) - (if R t.b then h t.b else 0) := c
    have hle := F.hi i t x ht hx
    refine Std.le_antisymm hle (Rat.not_lt.mp fun hlt => ?_)
    have st : IsStep ts f ⟨i, false, t.b, t.e, t.most - x, t.gain⟩ := ⟨t, x, ht, hx, .inl ⟨rfl, rfl, rfl, rfl, rfl, hlt⟩⟩
    by_cases re : R t.e
    · have h1 := S.inn _ st re
      have h2 := S.hold _ st re
      simp only at h1 h2
      rw [if_pos re, if_pos h1] at c
      grind
    · rw [if_neg re] at c
      by_cases rb : R t.b
      · rw [if_pos rb] at c
        have := S.pos t.b
        grind
      · rw [if_neg rb] at c
        grind
  · replace c : t.gain * (if R t.e then h t.e else 0) - (if R t.b then h t.b else 0) < 0 := c
    have h0 := F.lo i x hx
    refine Std.le_antisymm (Rat.not_lt.mp fun hlt => ?_) h0
    have st : IsStep ts f ⟨i, true, t.e, t.b, x * t.gain, 1 / t.gain⟩ := ⟨t, x, ht, hx, .inr ⟨rfl, rfl, rfl, rfl, rfl, hlt⟩⟩
    by_cases rb : R t.b
    · have h1 := S.inn _ st rb
      have h2 := S.hold _ st rb
      simp only at h1 h2
      rw [if_pos h1, if_pos rb] at c
      have h3 : t.gain * (1 / t.gain * h t.b) ≤ t.gain * h t.e := Rat.mul_le_mul_of_nonneg_left h2 (Rat.le_of_lt gt)
      have h4 : t.gain * (1 / t.gain * h t.b) = h t.b := by grind
      grind
    · rw [if_neg rb] at c
      by_cases re : R t.e
      · rw [if_pos re] at c
        have := Rat.mul_pos gt (S.pos t.e)
        grind
      · rw [if_neg re] at c
        grind
open Classical in
theorem Stuck.best {ts : List (Tie α)} {f g : List Rat} {b e : α} {R : α → Prop} {h : α → Rat} {ps : List α} (S : Stuck ts f b e R h) (F : Flow ts ps b e f) (G : Flow ts ps b e g) (hg : ∀ t ∈ ts, 0 < t.gain) (hn : ps.Nodup) (he : e ∈ ps) (hp : ∀ t ∈ ts, t.b ∈ ps ∧ t.e ∈ ps) :
    left ts g e ≤ left ts f e :=
  slack_best F G (fun x => if R x then h x else 0) hn he hp (if_neg S.b) (by show 0 < if R e then h e else 0; rw [if_pos S.e]; exact S.pos e) (S.slack F hg)
end GM
set_option linter.all false
/-! GM5: nets and streams within bounds; how denominators grow. -/
namespace GM
variable {α : Type} [DecidableEq α]

structure NetOk (ps : List α) (ts : List (Tie α)) : Prop where
  nd : ps.Nodup
  p2 : 2 ≤ ps.length
  p10 : ps.length ≤ 10
  t24 : ts.length ≤ 24
  ends : ∀ t ∈ ts, t.b ∈ ps ∧ t.e ∈ ps ∧ t.b ≠ t.e
  gpos : ∀ t ∈ ts, 0 < t.gain
  gsz : ∀ t ∈ ts, Sz 6 t.gain
  mlo : ∀ t ∈ ts, 0 ≤ t.most
  mhi : ∀ t ∈ ts, t.most ≤ 2 ^ 20
  mden : ∀ t ∈ ts, Wh 42 t.most
/-- a stream that keeps, its fractions over one number below 2 ^ B -/
structure StreamOk (ts : List (Tie α)) (ps : List α) (b e : α) (B : Nat) (f : List Rat) : Prop where
  flow : Flow ts ps b e f
  den : ∃ D : Nat, 0 < D ∧ D < 2 ^ B ∧ 42 ∣ D ∧ ∀ (i : Nat) x, f[i]? = some x → Wh D x

theorem inv_sz {a : Nat} {q : Rat} (h : Sz a q) (hq : 0 < q) : Sz a (1 / q) := by
  have e : (1 : Rat) / q = q⁻¹ := by rw [Rat.div_def, Rat.one_mul]
  have hn := num_pos hq
  rw [e]
  refine ⟨?_, ?_⟩
  · rw [Rat.num_inv, Int.sign_eq_one_of_pos hn, Int.one_mul, Int.natAbs_natCast]
    exact h.2
  · rw [Rat.den_inv, if_neg (by omega)]
    exact h.1
theorem sz_den {a : Nat} {q : Rat} (h : Sz a q) : q.den < 2 ^ a := h.2

section
variable {ts : List (Tie α)} {ps : List α} {b e : α} {f : List Rat} {B : Nat}
theorem IsStep.lane (N : NetOk ps ts) {s : Step α} (h : IsStep ts f s) : s.b ∈ ps ∧ s.e ∈ ps ∧ s.b ≠ s.e ∧ 0 < s.gain ∧ Sz 6 s.gain := by
  obtain ⟨t, x, h1, h2, h3⟩ := h
  have ht := List.mem_of_getElem? h1
  obtain ⟨a1, a2, a3⟩ := N.ends t ht
  rcases h3 with ⟨_, b1, b2, _, b3, _⟩ | ⟨_, b1, b2, _, b3, _⟩
  · rw [b1, b2, b3]
    exact ⟨a1, a2, a3, N.gpos t ht, N.gsz t ht⟩
  · rw [b1, b2, b3]
    exact ⟨a2, a1, Ne.symm a3, one_div_pos (N.gpos t ht), inv_sz (N.gsz t ht) (N.gpos t ht)⟩
theorem laneOk (N : NetOk ps ts) : LaneOk ps (stepsOf ts f) :=
  ⟨fun s h => ((mem_stepsOf.mp h).lane N).1, fun s h => ((mem_stepsOf.mp h).lane N).2.1, fun s h => ((mem_stepsOf.mp h).lane N).2.2.1, fun s h => ((mem_stepsOf.mp h).lane N).2.2.2.1, fun s h => ((mem_stepsOf.mp h).lane N).2.2.2.2⟩
theorem steps48 (N : NetOk ps ts) : (stepsOf ts f).length ≤ 48 := by
  have h1 := stepsTo_len ts f ts.length
  have h2 := N.t24
  show (stepsTo ts f ts.length).length ≤ 48
  omega
theorem pow_le_rat {a c : Nat} (h : a ≤ c) : (2 : Rat) ^ a ≤ 2 ^ c := by
  have : ((2 ^ a : Nat) : Rat) ≤ ((2 ^ c : Nat) : Rat) := Rat.natCast_le_natCast.mpr (Nat.pow_le_pow_right (by decide) h)
  rwa [Rat.natCast_pow, Rat.natCast_pow] at this
theorem gain_lt {q : Rat} {a : Nat} (h : Sz a q) : q ≤ 2 ^ a := by
  have h1 : q.num ≤ ((2 ^ a : Nat) : Int) := by have := h.1; omega
  have e : q = (q.num : Rat) / (q.den : Rat) := by rw [← Rat.mkRat_eq_div, Rat.mkRat_self]
  have hd : (1 : Rat) ≤ (q.den : Rat) := by
    have : ((1 : Nat) : Rat) ≤ (q.den : Rat) := Rat.natCast_le_natCast.mpr (Nat.pos_of_ne_zero q.den_nz)
    exact this
  have hp : (0 : Rat) ≤ 2 ^ a := by
    have : (0 : Rat) ≤ ((2 ^ a : Nat) : Rat) := Rat.natCast_nonneg
    rwa [Rat.natCast_pow] at this
  have h2 : (q.num : Rat) ≤ 2 ^ a := by
    have : (q.num : Rat) ≤ (((2 ^ a : Nat) : Int) : Rat) := Rat.intCast_le_intCast.mpr h1
    rwa [Rat.intCast_natCast, Rat.natCast_pow] at this
  have e2 : q * (q.den : Rat) = (q.num : Rat) := by
    have h0 : (q.den : Rat) ≠ 0 := fun z => q.den_nz (Rat.natCast_eq_zero_iff.mp z)
    have h1 : q * (q.den : Rat) = (q.num : Rat) / (q.den : Rat) * (q.den : Rat) := congrArg (· * (q.den : Rat)) e
    rw [Rat.div_mul_cancel h0] at h1
    exact h1
  by_cases hq : 0 ≤ q
  · have h3 : q * 1 ≤ q * (q.den : Rat) := Rat.mul_le_mul_of_nonneg_left hd hq
    rw [Rat.mul_one, e2] at h3
    exact Rat.le_trans h3 h2
  · exact Rat.le_trans (Rat.le_of_lt (Rat.not_le.mp hq)) hp
/-- rooms of steps: over the stream's number times a gain's, and bounded -/
theorem IsStep.room (N : NetOk ps ts) {D : Nat} (F : Flow ts ps b e f) (h42 : 42 ∣ D) (hD : ∀ (i : Nat) x, f[i]? = some x → Wh D x) {s : Step α} (h : IsStep ts f s) : ∃ g : Nat, 0 < g ∧ g < 2 ^ 6 ∧ Wh (D * g) s.room ∧ 0 < s.room ∧ s.room ≤ 2 ^ 26 := by
  obtain ⟨t, x, h1, h2, h3⟩ := h
  have ht := List.mem_of_getElem? h1
  have hx := hD _ _ h2
  have x0 := F.lo _ _ h2
  have x1 := F.hi _ _ _ h1 h2
  have m1 := N.mhi t ht
  rcases h3 with ⟨_, _, _, b2, b3, b4⟩ | ⟨_, _, _, b2, b3, b4⟩
  · refine ⟨1, by decide, by decide, ?_, ?_, ?_⟩
    · rw [b2, Nat.mul_one]
      exact ((N.mden t ht).dvd h42).sub hx
    · rw [b2]; grind
    · rw [b2]
      have := pow_le_rat (show 20 ≤ 26 by decide)
      grind
  · refine ⟨t.gain.den, Nat.pos_of_ne_zero t.gain.den_nz, (N.gsz t ht).2, ?_, ?_, ?_⟩
    · rw [b2]
      exact hx.mul (Wh.den _)
    · rw [b2]; exact Rat.mul_pos b4 (N.gpos t ht)
    · rw [b2]
      have g1 := gain_lt (N.gsz t ht)
      have hx20 : x ≤ 2 ^ 20 := Rat.le_trans x1 m1
      have s1 : x * t.gain ≤ 2 ^ 20 * t.gain := Rat.mul_le_mul_of_nonneg_right hx20 (Rat.le_of_lt (N.gpos t ht))
      have s2 : (2 : Rat) ^ 20 * t.gain ≤ 2 ^ 20 * 2 ^ 6 := Rat.mul_le_mul_of_nonneg_left g1 (by decide +kernel)
      have s3 : (2 : Rat) ^ 20 * 2 ^ 6 = 2 ^ 26 := by decide +kernel
      grind

/-- the denominators of gains, one times another -/
def denProd : List (Step α) → Nat
  | [] => 1
  | s :: l => s.gain.den * denProd l
theorem denProd_append : ∀ l m : List (Step α), denProd (l ++ m) = denProd l * denProd m
  | [], m => by show denProd m = 1 * denProd m; rw [Nat.one_mul]
  | s :: l, m => by
    show s.gain.den * denProd (l ++ m) = s.gain.den * denProd l * denProd m
    rw [denProd_append l m, Nat.mul_assoc]
theorem denProd_pos : ∀ l : List (Step α), 0 < denProd l
  | [] => Nat.one_pos
  | s :: l => Nat.mul_pos (Nat.pos_of_ne_zero s.gain.den_nz) (denProd_pos l)
theorem denProd_lt : ∀ {l : List (Step α)}, (∀ s ∈ l, Sz 6 s.gain) → denProd l ≤ 2 ^ (6 * l.length)
  | [], _ => Nat.le_refl 1
  | s :: l, h => by
    show s.gain.den * denProd l ≤ 2 ^ (6 * (l.length + 1))
    have h1 := (h s (by simp)).2
    have h2 := denProd_lt (l := l) fun u hu => h u (by simp [hu])
    rw [show 6 * (l.length + 1) = 6 + 6 * l.length from by omega, Nat.pow_add]
    exact Nat.mul_le_mul (Nat.le_of_lt h1) h2
theorem gainOf_wh : ∀ l : List (Step α), Wh (denProd l) (gainOf l)
  | [] => Wh.int 1 1
  | s :: l => (Wh.den s.gain).mul (gainOf_wh l)
theorem gainOf_sz : ∀ {l : List (Step α)}, (∀ s ∈ l, Sz 6 s.gain) → Sz (6 * l.length + 1) (gainOf l)
  | [], _ => Sz.one
  | s :: l, h => by
    have := (h s (by simp)).mul (gainOf_sz (l := l) fun u hu => h u (by simp [hu]))
    refine Sz.mono this ?_
    simp
    omega
theorem parts_wh : ∀ {l : List (Step α)} {p : Rat} {m : Nat}, Wh m p → ∀ q ∈ partsAlong l p, Wh (m * denProd l) q.2 ∧ Wh (m * denProd l) (q.2 * q.1.gain)
  | [], _, _, _, q, h => nomatch h
  | s :: l, p, m, hp, q, h => by
    have hm : m * denProd (s :: l) = m * s.gain.den * denProd l := by show m * (s.gain.den * denProd l) = _; rw [Nat.mul_assoc]
    rw [hm]
    have h2 : Wh (m * s.gain.den) (p * s.gain) := hp.mul (Wh.den _)
    rcases List.mem_cons.mp (show q ∈ (s, p) :: partsAlong l (p * s.gain) from h) with rfl | h
    · exact ⟨(hp.more _).more _, h2.more _⟩
    · exact parts_wh h2 q h
theorem parts_sz : ∀ {l : List (Step α)} {p : Rat} {a : Nat}, (∀ s ∈ l, Sz 6 s.gain) → Sz a p → ∀ q ∈ partsAlong l p, Sz (a + 6 * l.length) q.2
  | [], _, _, _, _, q, h => nomatch h
  | s :: l, p, a, hs, hp, q, h => by
    rcases List.mem_cons.mp (show q ∈ (s, p) :: partsAlong l (p * s.gain) from h) with rfl | h
    · exact hp.mono (by omega)
    · have := parts_sz (fun u hu => hs u (by simp [hu])) (hp.mul (hs s (by simp))) q h
      refine this.mono ?_
      simp
      omega
/-- a bettering's steps are at most as many as there are places -/
theorem bet_len (N : NetOk ps ts) {x : Bet α} (h : BetOk (stepsOf ts f) b e x) : x.steps.length ≤ ps.length := by
  have O := laneOk (f := f) N
  cases x with
  | way c =>
    have h : WayOk _ _ _ c := h
    cases c with
    | nil => exact Nat.zero_le _
    | cons s c =>
      have hn := h.nd
      have := nodup_le hn (ps := ps) (fun y hy => by
        rcases List.mem_cons.mp hy with z | z
        · rw [z, ← h.ch.1]; exact O.b s (h.mem s (by simp))
        · obtain ⟨u, hu, rfl⟩ := List.mem_map.mp z
          exact O.e u (h.mem u hu))
      have : (s :: c).length + 1 ≤ ps.length := by simpa using this
      show (s :: c).length ≤ _
      omega
  | ring r c =>
    obtain ⟨y, h⟩ := h
    have hn : (r.map (·.b) ++ c.map (·.e)).Nodup := List.nodup_append.mpr ⟨h.ndr, (List.nodup_cons.mp h.ndc).2, fun a ha d hd q => by
      obtain ⟨u, hu, rfl⟩ := List.mem_map.mp hd
      exact h.off u hu (q ▸ ha)⟩
    have := nodup_le hn (ps := ps) (fun y hy => by
      rcases List.mem_append.mp hy with z | z
      · obtain ⟨u, hu, rfl⟩ := List.mem_map.mp z
        exact O.b u (h.memr u hu)
      · obtain ⟨u, hu, rfl⟩ := List.mem_map.mp z
        exact O.e u (h.memc u hu))
    show (r ++ c).length ≤ _
    simpa using this
theorem partsOf_wh {x : Bet α} : ∀ q ∈ partsOf x, Wh (denProd x.steps) q.2 ∧ Wh (denProd x.steps) (q.2 * q.1.gain) := by
  cases x with
  | way c =>
    intro q hq
    have := parts_wh (m := 1) (Wh.int 1 1) q hq
    rw [Nat.one_mul] at this
    exact this
  | ring r c =>
    intro q hq
    show Wh (denProd (r ++ c)) q.2 ∧ Wh (denProd (r ++ c)) (q.2 * q.1.gain)
    rw [denProd_append]
    rcases List.mem_append.mp hq with z | z
    · have := parts_wh (m := 1) (Wh.int 1 1) q z
      rw [Nat.one_mul] at this
      exact ⟨this.1.more _, this.2.more _⟩
    · exact parts_wh ((gainOf_wh r).sub (Wh.int _ 1)) q z
theorem partsOf_sz (N : NetOk ps ts) {x : Bet α} (h : BetOk (stepsOf ts f) b e x) : ∀ q ∈ partsOf x, Sz 64 q.2 := by
  have O := laneOk (f := f) N
  have hl := bet_len N h
  have h10 := N.p10
  cases x with
  | way c =>
    intro q hq
    have hl : c.length ≤ ps.length := hl
    exact (parts_sz (fun s hs => O.sz s (h.mem s hs)) Sz.one q hq).mono (by omega)
  | ring r c =>
    obtain ⟨y, h⟩ := h
    have hl : (r ++ c).length ≤ ps.length := hl
    rw [List.length_append] at hl
    intro q hq
    rcases List.mem_append.mp hq with z | z
    · exact (parts_sz (fun s hs => O.sz s (h.memr s hs)) Sz.one q z).mono (by omega)
    · exact (parts_sz (fun s hs => O.sz s (h.memc s hs)) ((gainOf_sz fun s hs => O.sz s (h.memr s hs)).sub Sz.one) q z).mono (by omega)
theorem steps_sz6 (N : NetOk ps ts) {x : Bet α} (h : BetOk (stepsOf ts f) b e x) : ∀ s ∈ x.steps, Sz 6 s.gain := fun s hs => (laneOk (f := f) N).sz s (bet_mem h s hs)

/-- one number over which two streams' fractions are whole -/
def Both (B : Nat) (f f' : List Rat) : Prop := ∃ D : Nat, 0 < D ∧ D < 2 ^ B ∧ 42 ∣ D ∧ (∀ (i : Nat) x, f[i]? = some x → Wh D x) ∧ ∀ (i : Nat) x, f'[i]? = some x → Wh D x
/-- THE BETTERED STREAM within bounds. share: how much of the most that the rooms let -/
theorem better_ok (N : NetOk ps ts) (hbe : b ≠ e) (S : StreamOk ts ps b e B f) {x : Bet α} (h : BetOk (stepsOf ts f) b e x) {m share : Rat} (hm : ∃ q ∈ partsOf x, m = q.1.room / q.2) (hall : ∀ q ∈ partsOf x, m ≤ q.1.room / q.2)
    (s0 : 0 < share) (s1 : share ≤ 1) (s2 : share.den < 2 ^ 2) : StreamOk ts ps b e (B + 132) (putAll (m * share) f (partsOf x)) ∧ left ts f e < left ts (putAll (m * share) f (partsOf x)) e ∧ Both (B + 132) f (putAll (m * share) f (partsOf x)) := by
  obtain ⟨D, D0, DB, D42, hD⟩ := S.den
  have O := laneOk (f := f) N
  have hst : ∀ s ∈ x.steps, IsStep ts f s := fun s hs => mem_stepsOf.mp (bet_mem h s hs)
  have hqs : ∀ q ∈ partsOf x, q.1 ∈ x.steps := fun q hq => by rw [← partsOf_fst x]; exact List.mem_map.mpr ⟨q, hq, rfl⟩
  have hpp := parts_pos O.pos h
  obtain ⟨q0, hq0, rfl⟩ := hm
  obtain ⟨g, g0, g6, gr, gpos, gle⟩ := (hst q0.1 (hqs q0 hq0)).room N S.flow D42 hD
  have p0 := hpp q0 hq0
  have m0 : 0 < q0.1.room / q0.2 := by
    rw [Rat.div_def]
    exact Rat.mul_pos gpos (Rat.inv_pos.mpr p0)
  have ms0 : 0 < q0.1.room / q0.2 * share := Rat.mul_pos m0 s0
  have hroom : ∀ q ∈ partsOf x, q0.1.room / q0.2 * share * q.2 ≤ q.1.room := fun q hq => by
    have hq2 := hpp q hq
    have h1 := hall q hq
    have h2 : q0.1.room / q0.2 * q.2 ≤ q.1.room / q.2 * q.2 := Rat.mul_le_mul_of_nonneg_right h1 (Rat.le_of_lt hq2)
    rw [Rat.div_mul_cancel (fun z => by rw [z] at hq2; exact absurd hq2 (by decide))] at h2
    have h3 : q0.1.room / q0.2 * q.2 * share ≤ q0.1.room / q0.2 * q.2 * 1 := Rat.mul_le_mul_of_nonneg_left s1 (Rat.le_of_lt (Rat.mul_pos m0 hq2))
    have h4 : q0.1.room / q0.2 * share * q.2 = q0.1.room / q0.2 * q.2 * share := by grind
    rw [h4]
    grind
  obtain ⟨F', hlt⟩ := bettered_flow S.flow N.gpos hbe h ms0 hroom
  suffices hBoth : Both (B + 132) f (putAll (q0.1.room / q0.2 * share) f (partsOf x)) by
    obtain ⟨D', a1, a2, a3, a4, a5⟩ := hBoth
    exact ⟨⟨F', D', a1, a2, a3, a5⟩, hlt, D', a1, a2, a3, a4, a5⟩
  -- the new denominator
  have hn0 := num_pos p0
  have hP0 : 0 < q0.2.num.toNat := by omega
  have hP1 : q0.2.num.toNat < 2 ^ 64 := by have := (partsOf_sz N h q0 hq0).1; omega
  have wmuch : Wh (D * g * q0.2.num.toNat) (q0.1.room / q0.2) := by
    have e1 : q0.1.room / q0.2 = q0.1.room * (1 / q0.2) := by rw [Rat.div_def, Rat.div_def, Rat.one_mul]
    rw [e1]
    exact gr.mul (Wh.inv p0)
  have wms := wmuch.mul (Wh.den share)
  have hdl := denProd_lt (steps_sz6 N h)
  have hdp := denProd_pos x.steps
  have hln := bet_len N h
  have h10 := N.p10
  have hd60 : denProd x.steps ≤ 2 ^ 60 := Nat.le_trans hdl (Nat.pow_le_pow_right (by decide) (by omega))
  have hsd : 0 < share.den := Nat.pos_of_ne_zero share.den_nz
  refine ⟨D * (g * q0.2.num.toNat * share.den * denProd x.steps), Nat.mul_pos D0 (Nat.mul_pos (Nat.mul_pos (Nat.mul_pos g0 hP0) hsd) hdp), ?_, Nat.dvd_trans D42 (Nat.dvd_mul_right _ _), fun j y hy => (hD j y hy).more _, fun i v hv => ?_⟩
  · have a1 : g * q0.2.num.toNat < 2 ^ (6 + 64) := mul_lt_pow g6 hP1
    have a2 : g * q0.2.num.toNat * share.den < 2 ^ (6 + 64 + 2) := mul_lt_pow a1 s2
    have a3 : denProd x.steps < 2 ^ 60 + 1 := by omega
    have a4 : g * q0.2.num.toNat * share.den * denProd x.steps < 2 ^ 132 := by
      have : g * q0.2.num.toNat * share.den * denProd x.steps ≤ g * q0.2.num.toNat * share.den * 2 ^ 60 := Nat.mul_le_mul_left _ hd60
      have : g * q0.2.num.toNat * share.den * 2 ^ 60 < 2 ^ (6 + 64 + 2) * 2 ^ 60 := Nat.mul_lt_mul_of_pos_right a2 (by decide)
      have e : (2 : Nat) ^ (6 + 64 + 2) * 2 ^ 60 = 2 ^ 132 := by decide
      omega
    exact mul_lt_pow DB a4
  · have base : ∀ j y, f[j]? = some y → Wh (D * (g * q0.2.num.toNat * share.den * denProd x.steps)) y := fun j y hy => (hD j y hy).more _
    by_cases hi : i ∈ (partsOf x).map (·.1.n)
    · obtain ⟨q, hq, rfl⟩ := List.mem_map.mp hi
      obtain ⟨t, v0, ht, hv0, k⟩ := hst q.1 (hqs q hq)
      have hnd : ((partsOf x).map (·.1.n)).Nodup := by
        have := bet_ties (fun s hs => (mem_stepsOf.mp hs).fits N.gpos) h
        rw [← partsOf_fst x, List.map_map] at this
        exact this
      rw [putAll_at hnd hq hv0] at hv
      have hv := Option.some.inj hv
      obtain ⟨w1, w2⟩ := partsOf_wh q hq
      have ed : D * g * q0.2.num.toNat * share.den * denProd x.steps = D * (g * q0.2.num.toNat * share.den * denProd x.steps) := by simp only [Nat.mul_assoc]
      rw [← hv]
      split
      · rw [Rat.mul_assoc (q0.1.room / q0.2 * share)]
        have := wms.mul w2
        rw [ed] at this
        exact (base _ _ hv0).sub this
      · have := wms.mul w1
        rw [ed] at this
        exact (base _ _ hv0).add this
    · rw [putAll_other hi] at hv
      exact base i v hv
end
end GM
set_option linter.all false
/-! GM6: sizes of what is left at a place; the empty stream; half a stream. -/
namespace GM
variable {α : Type} [DecidableEq α]
/-- the denominators of the ties' gains, one times another -/
def gp : List (Tie α) → Nat
  | [] => 1
  | t :: ts => t.gain.den * gp ts
theorem gp_pos : ∀ ts : List (Tie α), 0 < gp ts
  | [] => Nat.one_pos
  | t :: ts => Nat.mul_pos (Nat.pos_of_ne_zero t.gain.den_nz) (gp_pos ts)
theorem gp_lt : ∀ {ts : List (Tie α)}, (∀ t ∈ ts, Sz 6 t.gain) → gp ts ≤ 2 ^ (6 * ts.length)
  | [], _ => Nat.le_refl 1
  | t :: ts, h => by
    show t.gain.den * gp ts ≤ 2 ^ (6 * (ts.length + 1))
    have h1 := (h t (by simp)).2
    have h2 := gp_lt (ts := ts) fun u hu => h u (by simp [hu])
    rw [show 6 * (ts.length + 1) = 6 + 6 * ts.length from by omega, Nat.pow_add]
    exact Nat.mul_le_mul (Nat.le_of_lt h1) h2
theorem left_wh {D : Nat} (p : α) : ∀ {ts : List (Tie α)} {f : List Rat}, (∀ x ∈ f, Wh D x) → Wh (D * gp ts) (left ts f p)
  | [], f, _ => by
    have e : left ([] : List (Tie α)) f p = 0 := by cases f <;> rfl
    rw [e]
    exact Wh.zero _
  | t :: ts, [], _ => Wh.zero _
  | t :: ts, v :: f, h => by
    have h1 := left_wh p (ts := ts) (f := f) fun x hx => h x (by simp [hx])
    have hv := h v (by simp)
    show Wh (D * (t.gain.den * gp ts)) (v * coef t p + left ts f p)
    have hc : Wh t.gain.den (coef t p) := by
      unfold coef
      refine Wh.sub ?_ ?_
      · split
        · exact Wh.den _
        · exact Wh.zero _
      · split
        · exact Wh.int _ 1
        · exact Wh.zero _
    have h2 := (hv.mul hc).more (gp ts)
    rw [Nat.mul_assoc] at h2
    refine h2.add ?_
    rw [show D * (t.gain.den * gp ts) = D * gp ts * t.gain.den by rw [Nat.mul_assoc, Nat.mul_comm (gp ts)]]
    exact h1.more _
theorem left_bd (p : α) : ∀ {ts : List (Tie α)} {f : List Rat}, (∀ t ∈ ts, 0 < t.gain ∧ t.gain ≤ 2 ^ 6) → (∀ x ∈ f, 0 ≤ x ∧ x ≤ 2 ^ 20) → left ts f p ≤ (ts.length : Rat) * 2 ^ 27 ∧ -((ts.length : Rat) * 2 ^ 27) ≤ left ts f p
  | [], f, _, _ => by
    have e : left ([] : List (Tie α)) f p = 0 := by cases f <;> rfl
    rw [e]
    simp
  | t :: ts, [], _, _ => by
    have e : left (t :: ts) [] p = 0 := rfl
    rw [e]
    have h : (0 : Rat) ≤ ((t :: ts).length : Rat) := Rat.natCast_nonneg
    have h2 : (0 : Rat) ≤ ((t :: ts).length : Rat) * 2 ^ 27 := Rat.mul_nonneg h (by decide +kernel)
    exact ⟨h2, by grind⟩
  | t :: ts, v :: f, hg, hf => by
    obtain ⟨i1, i2⟩ := left_bd p (ts := ts) (f := f) (fun u hu => hg u (by simp [hu])) fun x hx => hf x (by simp [hx])
    obtain ⟨g0, g1⟩ := hg t (by simp)
    obtain ⟨v0, v1⟩ := hf v (by simp)
    have e : left (t :: ts) (v :: f) p = v * coef t p + left ts f p := rfl
    have el : ((t :: ts).length : Rat) = (ts.length : Rat) + 1 := by
      show ((ts.length + 1 : Nat) : Rat) = _
      rw [Rat.natCast_add]; rfl
    have c1 : coef t p ≤ 2 ^ 6 := by
      unfold coef
      have : (0 : Rat) ≤ 2 ^ 6 := by decide +kernel
      split <;> split <;> grind
    have c2 : -1 ≤ coef t p := by
      unfold coef
      split <;> split <;> grind
    have p20 : (0 : Rat) ≤ 2 ^ 20 := by decide +kernel
    have p6 : (0 : Rat) ≤ 2 ^ 6 := by decide +kernel
    have e1 : (2 : Rat) ^ 20 * 2 ^ 6 ≤ 2 ^ 27 := by decide +kernel
    have e2 : (2 : Rat) ^ 20 ≤ 2 ^ 27 := by decide +kernel
    have h1 : v * coef t p ≤ v * 2 ^ 6 := Rat.mul_le_mul_of_nonneg_left c1 v0
    have h2 : v * 2 ^ 6 ≤ 2 ^ 20 * 2 ^ 6 := Rat.mul_le_mul_of_nonneg_right v1 p6
    have h3 : v * (-1) ≤ v * coef t p := Rat.mul_le_mul_of_nonneg_left c2 v0
    rw [e, el]
    have e3 : ((ts.length : Rat) + 1) * 2 ^ 27 = (ts.length : Rat) * 2 ^ 27 + 2 ^ 27 := by grind
    rw [e3]
    constructor
    · grind
    · grind
theorem left_zero (p : α) : ∀ ts : List (Tie α), left ts (List.replicate ts.length 0) p = 0
  | [] => rfl
  | t :: ts => by
    show (0 : Rat) * coef t p + left ts (List.replicate ts.length 0) p = 0
    rw [left_zero p ts]
    grind
section
variable {ts : List (Tie α)} {ps : List α} {b e : α} {f : List Rat} {B : Nat}
theorem zero_ok (N : NetOk ps ts) : StreamOk ts ps b e 6 (List.replicate ts.length 0) := by
  refine ⟨⟨by simp, fun i x h => ?_, fun i t x ht h => ?_, fun p _ _ _ => left_zero p ts⟩, 42, by decide, by decide, Nat.dvd_refl _, fun i x h => ?_⟩
  · have := (List.mem_replicate.mp (List.mem_of_getElem? h)).2
    rw [this]
    exact Rat.le_refl
  · have := (List.mem_replicate.mp (List.mem_of_getElem? h)).2
    rw [this]
    exact N.mlo t (List.mem_of_getElem? ht)
  · have := (List.mem_replicate.mp (List.mem_of_getElem? h)).2
    rw [this]
    exact Wh.zero _
theorem StreamOk.mono {B' : Nat} (S : StreamOk ts ps b e B f) (h : B ≤ B') : StreamOk ts ps b e B' f := by
  obtain ⟨F, D, D0, DB, D42, hD⟩ := S
  exact ⟨F, D, D0, Nat.lt_of_lt_of_le DB (Nat.pow_le_pow_right (by decide) h), D42, hD⟩
/-- sizes of what is left at a place, reckoned tie by tie -/
structure LeftSz (ts : List (Tie α)) (f : List Rat) (p : α) : Prop where
  len : f.length = ts.length
  few : ts.length ≤ 24
  go : ∀ (i : Nat) t x, ts[i]? = some t → f[i]? = some x → Sz 4000 (x * t.gain) ∧ Sz 4000 (left (ts.take i) (f.take i) p + x * t.gain) ∧ Sz 4000 (left (ts.take (i + 1)) (f.take (i + 1)) p)
theorem left_sz (N : NetOk ps ts) (S : StreamOk ts ps b e B f) (hB : B ≤ 3780) (p : α) : LeftSz ts f p := by
  obtain ⟨D, D0, DB, D42, hD⟩ := S.den
  have hlen := S.flow.len
  have hf : ∀ x ∈ f, Wh D x ∧ 0 ≤ x ∧ x ≤ 2 ^ 20 := fun x hx => by
    obtain ⟨i, hi⟩ := List.mem_iff_getElem?.mp hx
    have hl := (List.getElem?_eq_some_iff.mp hi).1
    have ht : ts[i]? = some ts[i] := List.getElem?_eq_getElem (by omega)
    exact ⟨hD i x hi, S.flow.lo _ _ hi, Rat.le_trans (S.flow.hi _ _ _ ht hi) (N.mhi _ (List.mem_of_getElem? ht))⟩
  have hg : ∀ t ∈ ts, 0 < t.gain ∧ t.gain ≤ 2 ^ 6 := fun t ht => ⟨N.gpos t ht, gain_lt (N.gsz t ht)⟩
  have part : ∀ i, Wh (D * gp (ts.take i)) (left (ts.take i) (f.take i) p) ∧ left (ts.take i) (f.take i) p ≤ 2 ^ 32 ∧ -(2 ^ 32) ≤ left (ts.take i) (f.take i) p ∧ D * gp (ts.take i) < 2 ^ (B + 145) := fun i => by
    have b1 := left_bd p (ts := ts.take i) (f := f.take i) (fun t ht => hg t (List.mem_of_mem_take ht)) fun x hx => (hf x (List.mem_of_mem_take hx)).2
    have l1 : (ts.take i).length ≤ 24 := by rw [List.length_take]; have := N.t24; omega
    have l2 : ((ts.take i).length : Rat) ≤ 24 := by
      have : (((ts.take i).length : Nat) : Rat) ≤ ((24 : Nat) : Rat) := Rat.natCast_le_natCast.mpr l1
      exact this
    have p27 : (0 : Rat) ≤ 2 ^ 27 := by decide +kernel
    have l3 : ((ts.take i).length : Rat) * 2 ^ 27 ≤ 24 * 2 ^ 27 := Rat.mul_le_mul_of_nonneg_right l2 p27
    have l4 : (24 : Rat) * 2 ^ 27 ≤ 2 ^ 32 := by decide +kernel
    refine ⟨left_wh p fun x hx => (hf x (List.mem_of_mem_take hx)).1, by grind, by grind, ?_⟩
    have h1 := gp_lt (ts := ts.take i) fun t ht => N.gsz t (List.mem_of_mem_take ht)
    have h2 : 2 ^ (6 * (ts.take i).length) ≤ 2 ^ 144 := Nat.pow_le_pow_right (by decide) (by omega)
    have h3 : gp (ts.take i) < 2 ^ 145 := by
      have : (2 : Nat) ^ 144 < 2 ^ 145 := by decide
      omega
    exact mul_lt_pow DB h3
  refine ⟨hlen, N.t24, fun i t x ht hx => ?_⟩
  obtain ⟨w1, x0, x1⟩ := hf x (List.mem_of_getElem? hx)
  have htm := List.mem_of_getElem? ht
  obtain ⟨g0, g1⟩ := hg t htm
  have p6 : (0 : Rat) ≤ 2 ^ 6 := by decide +kernel
  have s1 : x * t.gain ≤ 2 ^ 20 * t.gain := Rat.mul_le_mul_of_nonneg_right x1 (Rat.le_of_lt g0)
  have s2 : (2 : Rat) ^ 20 * t.gain ≤ 2 ^ 20 * 2 ^ 6 := Rat.mul_le_mul_of_nonneg_left g1 (by decide +kernel)
  have s3 : (2 : Rat) ^ 20 * 2 ^ 6 = 2 ^ 26 := by decide +kernel
  have s4 : 0 ≤ x * t.gain := Rat.mul_nonneg x0 (Rat.le_of_lt g0)
  have p26 : (0 : Rat) ≤ 2 ^ 26 := by decide +kernel
  have wg : Wh (D * t.gain.den) (x * t.gain) := w1.mul (Wh.den _)
  have hgd := (N.gsz t htm).2
  refine ⟨(wg.sz (Nat.mul_pos D0 (Nat.pos_of_ne_zero t.gain.den_nz)) (mul_lt_pow DB hgd) (v := 26) (by grind) (by grind)).mono (by omega), ?_, ?_⟩
  · obtain ⟨w2, b1, b2, b3⟩ := part i
    have p32 : (2 : Rat) ^ 32 + 2 ^ 26 ≤ 2 ^ 33 := by decide +kernel
    have p33 : (2 : Rat) ^ 32 ≤ 2 ^ 33 := by decide +kernel
    have w3 : Wh (D * gp (ts.take i) * t.gain.den) (left (ts.take i) (f.take i) p + x * t.gain) := by
      refine (w2.more _).add ?_
      rw [show D * gp (ts.take i) * t.gain.den = D * t.gain.den * gp (ts.take i) by rw [Nat.mul_assoc, Nat.mul_comm (gp _), Nat.mul_assoc]]
      exact wg.more _
    exact (w3.sz (Nat.mul_pos (Nat.mul_pos D0 (gp_pos _)) (Nat.pos_of_ne_zero t.gain.den_nz)) (mul_lt_pow b3 hgd) (v := 33) (by grind) (by grind)).mono (by omega)
  · obtain ⟨w2, b1, b2, b3⟩ := part (i + 1)
    exact (w2.sz (Nat.mul_pos D0 (gp_pos _)) b3 (v := 32) b1 b2).mono (by omega)
/-- half of what lies between two streams -/
def half (f f' : List Rat) : List Rat := List.zipWith (fun a b => (a + b) * (1 / 2)) f f'
theorem left_half (p : α) : ∀ {ts : List (Tie α)} {f f' : List Rat}, f.length = ts.length → f'.length = ts.length → left ts (half f f') p = (left ts f p + left ts f' p) * (1 / 2)
  | [], [], [], _, _ => by show (0 : Rat) = (0 + 0) * (1 / 2); grind
  | t :: ts, v :: f, v' :: f', h, h' => by
    have i := left_half p (ts := ts) (f := f) (f' := f') (by simpa using h) (by simpa using h')
    show (v + v') * (1 / 2) * coef t p + left ts (half f f') p = (v * coef t p + left ts f p + (v' * coef t p + left ts f' p)) * (1 / 2)
    rw [i]
    grind
  | _ :: _, [], _, h, _ => by simp at h
  | _ :: _, _ :: _, [], _, h => by simp at h
  | [], _ :: _, _, h, _ => by simp at h
  | [], [], _ :: _, _, h => by simp at h
theorem half_at {f f' : List Rat} {i : Nat} {x : Rat} (h : (half f f')[i]? = some x) : ∃ a b, f[i]? = some a ∧ f'[i]? = some b ∧ x = (a + b) * (1 / 2) := by
  unfold half at h
  rw [List.getElem?_zipWith] at h
  cases h1 : f[i]? with
  | none => rw [h1] at h; cases h
  | some a =>
    cases h2 : f'[i]? with
    | none => rw [h1, h2] at h; cases h
    | some b =>
      rw [h1, h2] at h
      exact ⟨a, b, rfl, rfl, (Option.some.inj h).symm⟩
theorem half_ok {f' : List Rat} {B' : Nat} (F : Flow ts ps b e f) (F' : Flow ts ps b e f') (D : Both B' f f') : StreamOk ts ps b e (B' + 1) (half f f') := by
  obtain ⟨d, d0, dB, d42, hf, hf'⟩ := D
  refine ⟨⟨?_, fun i x h => ?_, fun i t x ht h => ?_, fun p hp hb he => ?_⟩, d * 2, by omega, ?_, Nat.dvd_trans d42 (Nat.dvd_mul_right _ _), fun i x h => ?_⟩
  · unfold half
    rw [List.length_zipWith, F.len, F'.len, Nat.min_self]
  · obtain ⟨a, b, h1, h2, rfl⟩ := half_at h
    have := F.lo _ _ h1
    have := F'.lo _ _ h2
    grind
  · obtain ⟨a, b, h1, h2, rfl⟩ := half_at h
    have := F.hi _ _ _ ht h1
    have := F'.hi _ _ _ ht h2
    grind
  · rw [left_half p F.len F'.len, F.keep p hp hb he, F'.keep p hp hb he]
    grind
  · rw [Nat.pow_succ]
    omega
  · obtain ⟨a, b, h1, h2, rfl⟩ := half_at h
    have w1 := (hf _ _ h1).add (hf' _ _ h2)
    obtain ⟨z, hz⟩ := w1
    refine ⟨z, ?_⟩
    rw [← hz, Rat.natCast_mul]
    have : ((2 : Nat) : Rat) = 2 := rfl
    rw [this]
    grind
end
end GM
set_option linter.all false
/-! GM7: worths that a law reckons from the end on. -/
namespace GM
variable {α : Type} [DecidableEq α]
/-- what is known: each worth is a simple chain's gain, and along that chain no worth is below -/
structure Kn (ss : List (Step α)) (e : α) (W : α → Option Rat) : Prop where
  en : W e ≠ none
  rec_ : ∀ x w, W x = some w → ∃ l, Chain x l e ∧ (∀ s ∈ l, s ∈ ss) ∧ (x :: l.map (·.e)).Nodup ∧ w = gainOf l ∧ ∀ l1 l2 y, l = l1 ++ l2 → Chain y l2 e → ∃ v, W y = some v ∧ gainOf l2 ≤ v
/-- no ring gains -/
def Calm (ss : List (Step α)) (e : α) : Prop := ∀ x r l, Chain x r x → (∀ s ∈ r, s ∈ ss) → Chain x l e → (∀ s ∈ l, s ∈ ss) → gainOf r ≤ 1
theorem chain_at : ∀ {l : List (Step α)} {x e y : α}, Chain x l e → y ∈ x :: l.map (·.e) → ∃ l1 l2, l = l1 ++ l2 ∧ Chain x l1 y ∧ Chain y l2 e
  | [], x, e, y, h, hy => by
    have : y = x := by simpa using hy
    subst this
    exact ⟨[], [], rfl, rfl, h⟩
  | s :: l, x, e, y, ⟨h1, h2⟩, hy => by
    by_cases c : y = x
    · subst c
      exact ⟨[], s :: l, rfl, rfl, h1, h2⟩
    · have hy' : y ∈ s.e :: l.map (·.e) := by
        rcases List.mem_cons.mp hy with q | q
        · exact absurd q c
        · exact q
      obtain ⟨l1, l2, e1, c1, c2⟩ := chain_at h2 hy'
      exact ⟨s :: l1, l2, by rw [e1]; rfl, ⟨h1, c1⟩, c2⟩
theorem Kn.start (ss : List (Step α)) (e : α) : Kn ss e (fun x => if x = e then some 1 else none) := by
  refine ⟨by simp, fun x w h => ?_⟩
  by_cases c : x = e
  · subst c
    rw [if_pos rfl] at h
    cases h
    refine ⟨[], rfl, (by simp), by simp, rfl, fun l1 l2 y hl hc => ?_⟩
    have : l2 = [] := (List.append_eq_nil_iff.mp hl.symm).2
    subst this
    cases hc
    exact ⟨1, if_pos rfl, Rat.le_refl⟩
  · rw [if_neg c] at h
    cases h
/-- where a step's begin lies on the end's chain, nothing grows -/
theorem Kn.stays {ss : List (Step α)} {e : α} {W : α → Option Rat} (k : Kn ss e W) (cm : Calm ss e) (hp : ∀ s ∈ ss, 0 < s.gain) {s : Step α} (hs : s ∈ ss) {w : Rat} {l : List (Step α)} (hc : Chain s.e l e) (hm : ∀ u ∈ l, u ∈ ss) (hw : w = gainOf l)
    (hsuf : ∀ l1 l2 y, l = l1 ++ l2 → Chain y l2 e → ∃ v, W y = some v ∧ gainOf l2 ≤ v) (hb : s.b ∈ s.e :: l.map (·.e)) : ∃ v, W s.b = some v ∧ s.gain * w ≤ v := by
  obtain ⟨l1, l2, e1, c1, c2⟩ := chain_at hc hb
  obtain ⟨v, hv, hle⟩ := hsuf l1 l2 s.b e1 c2
  refine ⟨v, hv, ?_⟩
  have hr : gainOf (s :: l1) ≤ 1 := cm s.b (s :: l1) l2 ⟨rfl, c1⟩ (fun u hu => by
    rcases List.mem_cons.mp hu with q | q
    · rw [q]; exact hs
    · exact hm u (by rw [e1]; exact List.mem_append_left _ q)) c2 (fun u hu => hm u (by rw [e1]; exact List.mem_append_right _ hu))
  have hg2 : 0 < gainOf l2 := gainOf_pos fun u hu => hp u (hm u (by rw [e1]; exact List.mem_append_right _ hu))
  have e2 : s.gain * w = gainOf (s :: l1) * gainOf l2 := by
    rw [hw, e1, gainOf_append]
    show s.gain * (gainOf l1 * gainOf l2) = s.gain * gainOf l1 * gainOf l2
    grind
  rw [e2]
  have : gainOf (s :: l1) * gainOf l2 ≤ 1 * gainOf l2 := Rat.mul_le_mul_of_nonneg_right hr (Rat.le_of_lt hg2)
  grind
theorem Kn.grow {ss : List (Step α)} {e : α} {W : α → Option Rat} (k : Kn ss e W) (cm : Calm ss e) (hp : ∀ s ∈ ss, 0 < s.gain) {s : Step α} (hs : s ∈ ss) {w : Rat} (hw : W s.e = some w) (hg : ∀ v, W s.b = some v → v < s.gain * w) : Kn ss e (up W s.b (some (s.gain * w))) := by
  obtain ⟨l, c1, c2, c3, c4, c5⟩ := k.rec_ s.e w hw
  have hb : s.b ∉ s.e :: l.map (·.e) := fun q => by
    obtain ⟨v, h1, h2⟩ := k.stays cm hp hs c1 c2 c4 c5 q
    exact absurd (hg v h1) (Rat.not_lt.mpr h2)
  have lift : ∀ y v, W y = some v → ∀ g, g ≤ v → ∃ v', up W s.b (some (s.gain * w)) y = some v' ∧ g ≤ v' := fun y v hv g hgv => by
    by_cases c : y = s.b
    · subst c
      exact ⟨s.gain * w, up_same _ _ _, Rat.le_trans hgv (Rat.le_of_lt (hg v hv))⟩
    · exact ⟨v, by rw [up_ne _ _ c]; exact hv, hgv⟩
  refine ⟨?_, fun x v hx => ?_⟩
  · by_cases c : e = s.b
    · rw [c, up_same]; exact fun z => nomatch z
    · rw [up_ne _ _ c]; exact k.en
  · by_cases c : x = s.b
    · subst c
      rw [up_same] at hx
      cases hx
      refine ⟨s :: l, ⟨rfl, c1⟩, fun u hu => ?_, List.nodup_cons.mpr ⟨hb, c3⟩, by rw [c4]; rfl, fun l1 l2 y hl hc => ?_⟩
      · rcases List.mem_cons.mp hu with q | q
        · rw [q]; exact hs
        · exact c2 u q
      · cases l1 with
        | nil =>
          have hl : s :: l = l2 := hl
          subst hl
          refine ⟨s.gain * w, ?_, ?_⟩
          · rw [← hc.1]; exact up_same _ _ _
          · show s.gain * gainOf l ≤ s.gain * w
            rw [c4]
            exact Rat.le_refl
        | cons u l1 =>
          obtain ⟨q1, q2⟩ := List.cons.inj (show s :: l = u :: (l1 ++ l2) from hl)
          obtain ⟨v, h1, h2⟩ := c5 l1 l2 y q2 hc
          exact lift y v h1 _ h2
    · rw [up_ne _ _ c] at hx
      obtain ⟨l', d1, d2, d3, d4, d5⟩ := k.rec_ x v hx
      refine ⟨l', d1, d2, d3, d4, fun l1 l2 y hl hc => ?_⟩
      obtain ⟨v', h1, h2⟩ := d5 l1 l2 y hl hc
      exact lift y v' h1 _ h2
/-- of every chain of at most k steps the worth is at least the gain -/
def Lower (ss : List (Step α)) (e : α) (k : Nat) (W : α → Option Rat) : Prop := ∀ x l, Chain x l e → (∀ s ∈ l, s ∈ ss) → l.length ≤ k → ∃ w, W x = some w ∧ gainOf l ≤ w
/-- so in a round of which j steps have been gone through -/
def Low (ss : List (Step α)) (e : α) (k j : Nat) (W : α → Option Rat) : Prop := Lower ss e k W ∧ ∀ (i : Nat) s, i < j → ss[i]? = some s → ∀ l, Chain s.e l e → (∀ u ∈ l, u ∈ ss) → l.length ≤ k → ∃ w, W s.b = some w ∧ s.gain * gainOf l ≤ w
def Le (W W' : α → Option Rat) : Prop := ∀ x w, W x = some w → ∃ w', W' x = some w' ∧ w ≤ w'
theorem Le.refl (W : α → Option Rat) : Le W W := fun x w h => ⟨w, h, Rat.le_refl⟩
theorem le_up {W : α → Option Rat} {b : α} {q : Rat} (hg : ∀ v, W b = some v → v < q) : Le W (up W b (some q)) := fun y v hv => by
  by_cases c : y = b
  · subst c
    exact ⟨q, up_same _ _ _, Rat.le_of_lt (hg v hv)⟩
  · exact ⟨v, by rw [up_ne _ _ c]; exact hv, Rat.le_refl⟩
theorem Lower.le {ss : List (Step α)} {e : α} {k : Nat} {W W' : α → Option Rat} (h : Lower ss e k W) (q : Le W W') : Lower ss e k W' := fun x l c m hl => by
  obtain ⟨w, h1, h2⟩ := h x l c m hl
  obtain ⟨w', h3, h4⟩ := q x w h1
  exact ⟨w', h3, Rat.le_trans h2 h4⟩
theorem Lower.start {ss : List (Step α)} {e : α} {W : α → Option Rat} (h : W e = some 1) : Lower ss e 0 W := fun x l c m hl => by
  have : l = [] := List.length_eq_zero_iff.mp (by omega)
  subst this
  cases c
  exact ⟨1, h, Rat.le_refl⟩
theorem Low.step {ss : List (Step α)} {e : α} {k j : Nat} {W W' : α → Option Rat} (h : Low ss e k j W) (q : Le W W') {s : Step α} (hs : ss[j]? = some s) (hp : 0 < s.gain) (hd : ∀ w, W s.e = some w → ∃ v, W' s.b = some v ∧ s.gain * w ≤ v) : Low ss e k (j + 1) W' := by
  refine ⟨h.1.le q, fun i u hi hu l c m hl => ?_⟩
  by_cases z : i = j
  · subst z
    rw [hs] at hu
    cases hu
    obtain ⟨w, h1, h2⟩ := h.1 s.e l c m hl
    obtain ⟨v, h3, h4⟩ := hd w h1
    exact ⟨v, h3, Rat.le_trans (Rat.mul_le_mul_of_nonneg_left h2 (Rat.le_of_lt hp)) h4⟩
  · obtain ⟨w, h1, h2⟩ := h.2 i u (by omega) hu l c m hl
    obtain ⟨w', h3, h4⟩ := q _ w h1
    exact ⟨w', h3, Rat.le_trans h2 h4⟩
theorem Low.round {ss : List (Step α)} {e : α} {k : Nat} {W : α → Option Rat} (h : Low ss e k ss.length W) : Lower ss e (k + 1) W := fun x l c m hl => by
  cases l with
  | nil => exact h.1 x [] c m (Nat.zero_le _)
  | cons s l =>
    obtain ⟨i, hi⟩ := List.mem_iff_getElem?.mp (m s (by simp))
    obtain ⟨w, h1, h2⟩ := h.2 i s (List.getElem?_eq_some_iff.mp hi).1 hi l c.2 (fun u hu => m u (by simp [hu])) (by simpa using hl)
    exact ⟨w, by rw [← c.1]; exact h1, h2⟩
/-- with as many rounds as a simple chain is long nothing grows more -/
theorem Kn.still {ss : List (Step α)} {e : α} {W : α → Option Rat} {ps : List α} {n : Nat} (k : Kn ss e W) (cm : Calm ss e) (hp : ∀ s ∈ ss, 0 < s.gain) (hin : ∀ s ∈ ss, s.b ∈ ps ∧ s.e ∈ ps) (h : Lower ss e n W) (hn : ps.length ≤ n + 1) {s : Step α} (hs : s ∈ ss) {w : Rat} (hw : W s.e = some w) :
    ∃ v, W s.b = some v ∧ s.gain * w ≤ v := by
  obtain ⟨l, c1, c2, c3, c4, c5⟩ := k.rec_ s.e w hw
  by_cases hb : s.b ∈ s.e :: l.map (·.e)
  · exact k.stays cm hp hs c1 c2 c4 c5 hb
  · have hm : ∀ u ∈ s :: l, u ∈ ss := fun u hu => by
      rcases List.mem_cons.mp hu with q | q
      · rw [q]; exact hs
      · exact c2 u q
    have hlen := nodup_le (l := s.b :: s.e :: l.map (·.e)) (ps := ps) (List.nodup_cons.mpr ⟨hb, c3⟩) (fun y hy => by
      rcases List.mem_cons.mp hy with q | hy
      · rw [q]; exact (hin s hs).1
      rcases List.mem_cons.mp hy with q | hy
      · rw [q]; exact (hin s hs).2
      · obtain ⟨u, hu, rfl⟩ := List.mem_map.mp hy
        exact (hin u (c2 u hu)).2)
    simp at hlen
    obtain ⟨v, h1, h2⟩ := h s.b (s :: l) ⟨rfl, c1⟩ hm (by simp; omega)
    exact ⟨v, h1, by rw [c4]; exact h2⟩
theorem Kn.sz {ss : List (Step α)} {e : α} {W : α → Option Rat} {ps : List α} (k : Kn ss e W) (hs : ∀ s ∈ ss, Sz 6 s.gain) (hp : ∀ s ∈ ss, 0 < s.gain) (hin : ∀ s ∈ ss, s.e ∈ ps) (hl : ps.length ≤ 10) {x : α} {w : Rat} (h : W x = some w) : 0 < w ∧ Sz 61 w := by
  obtain ⟨l, c1, c2, c3, c4, c5⟩ := k.rec_ x w h
  have hlen := nodup_le (l := l.map (·.e)) (ps := ps) (List.nodup_cons.mp c3).2 (fun y hy => by
    obtain ⟨u, hu, rfl⟩ := List.mem_map.mp hy
    exact hin u (c2 u hu))
  simp at hlen
  rw [c4]
  exact ⟨gainOf_pos fun u hu => hp u (c2 u hu), (gainOf_sz fun u hu => hs u (c2 u hu)).mono (by omega)⟩
theorem Kn.one {ss : List (Step α)} {e : α} {W : α → Option Rat} (k : Kn ss e W) : W e = some 1 := by
  cases h : W e with
  | none => exact absurd h k.en
  | some w =>
    obtain ⟨l, c1, c2, c3, c4, c5⟩ := k.rec_ e w h
    cases l with
    | nil => rw [c4]; rfl
    | cons s l =>
      -- the chain would come back to its begin
      exfalso
      have : e ∈ (s :: l).map (·.e) := by
        have hend : ∀ {l : List (Step α)} {y z : α}, Chain y l z → l ≠ [] → z ∈ l.map (·.e) := by
          intro l
          induction l with
          | nil => intro y z _ h; exact absurd rfl h
          | cons u l ih =>
            intro y z hc _
            cases l with
            | nil => have : u.e = z := hc.2; rw [← this]; simp
            | cons v l => exact List.mem_cons_of_mem _ (ih hc.2 (by simp))
        exact hend c1 (by simp)
      exact (List.nodup_cons.mp c3).1 this
/-- worths where nothing more comes: rings don't gain -/
theorem Stuck.chain {ts : List (Tie α)} {f : List Rat} {b e : α} {R : α → Prop} {h : α → Rat} (S : Stuck ts f b e R h) (hp : ∀ s, IsStep ts f s → 0 < s.gain) : ∀ {l : List (Step α)} {x z : α}, Chain x l z → (∀ s ∈ l, IsStep ts f s) → R z → R x ∧ gainOf l * h z ≤ h x
  | [], x, z, c, _, r => by
    cases c
    refine ⟨r, ?_⟩
    show 1 * h x ≤ h x
    grind
  | s :: l, x, z, ⟨c1, c2⟩, m, r => by
    obtain ⟨h1, h2⟩ := S.chain hp c2 (fun u hu => m u (by simp [hu])) r
    have hs := m s (by simp)
    have h3 := S.inn s hs h1
    have h4 := S.hold s hs h1
    subst c1
    refine ⟨h3, ?_⟩
    show s.gain * gainOf l * h z ≤ h s.b
    have h5 : s.gain * (gainOf l * h z) ≤ s.gain * h s.e := Rat.mul_le_mul_of_nonneg_left h2 (Rat.le_of_lt (hp s hs))
    grind
theorem Stuck.calm {ts : List (Tie α)} {f : List Rat} {b e : α} {R : α → Prop} {h : α → Rat} (S : Stuck ts f b e R h) (hp : ∀ s, IsStep ts f s → 0 < s.gain) : Calm (stepsOf ts f) e := fun x r l cr mr cl ml => by
  have hx := (S.chain hp cl (fun s hs => mem_stepsOf.mp (ml s hs)) S.e).1
  have h2 := (S.chain hp cr (fun s hs => mem_stepsOf.mp (mr s hs)) hx).2
  have h0 := S.pos x
  have h3 : gainOf r * h x ≤ 1 * h x := by grind
  exact Rat.le_of_mul_le_mul_right h3 h0
theorem Kn.off {ts : List (Tie α)} {f : List Rat} {b e : α} {R : α → Prop} {h : α → Rat} {W : α → Option Rat} (k : Kn (stepsOf ts f) e W) (S : Stuck ts f b e R h) (hp : ∀ s, IsStep ts f s → 0 < s.gain) : W b = none := by
  cases q : W b with
  | none => rfl
  | some w =>
    obtain ⟨l, c1, c2, _⟩ := k.rec_ b w q
    exact absurd (S.chain hp c1 (fun s hs => mem_stepsOf.mp (c2 s hs)) S.e).1 S.b
/-- what is known at the last shows that nothing more comes -/
theorem Kn.stuck {ts : List (Tie α)} {f : List Rat} {b e : α} {W : α → Option Rat} (k : Kn (stepsOf ts f) e W) (hb : W b = none) (hpos : ∀ x w, W x = some w → 0 < w) (hst : ∀ s ∈ stepsOf ts f, ∀ w, W s.e = some w → ∃ v, W s.b = some v ∧ s.gain * w ≤ v) :
    Stuck ts f b e (fun x => W x ≠ none) (fun x => (W x).getD 1) := by
  refine ⟨k.en, fun z => z hb, fun x => ?_, fun s hs he => ?_, fun s hs he => ?_⟩
  · cases h : W x with
    | none => exact (by decide : (0 : Rat) < 1)
    | some w => exact hpos x w h
  · cases h : W s.e with
    | none => exact absurd h he
    | some w =>
      obtain ⟨v, h1, _⟩ := hst s (mem_stepsOf.mpr hs) w h
      rw [h1]
      exact fun z => nomatch z
  · cases h : W s.e with
    | none => exact absurd h he
    | some w =>
      obtain ⟨v, h1, h2⟩ := hst s (mem_stepsOf.mpr hs) w h
      rw [h1]
      exact h2
theorem wsum_snoc (w : α → Rat) : ∀ {ts : List (Tie α)} {f : List Rat} (t : Tie α) (v : Rat), ts.length = f.length → wsum w (ts ++ [t]) (f ++ [v]) = wsum w ts f + v * (t.gain * w t.e - w t.b)
  | [], [], t, v, _ => by show v * (t.gain * w t.e - w t.b) + 0 = 0 + v * (t.gain * w t.e - w t.b); grind
  | [], _ :: _, _, _, h => by simp at h
  | _ :: _, [], _, _, h => by simp at h
  | t :: ts, v :: f, t', v', h => by
    show v * (t.gain * w t.e - w t.b) + wsum w (ts ++ [t']) (f ++ [v']) = v * (t.gain * w t.e - w t.b) + wsum w ts f + v' * (t'.gain * w t'.e - w t'.b)
    rw [wsum_snoc w t' v' (by simpa using h)]
    grind
theorem wsum_take (w : α → Rat) {ts : List (Tie α)} {f : List Rat} {i : Nat} {t : Tie α} {v : Rat} (ht : ts[i]? = some t) (hv : f[i]? = some v) :
    wsum w (ts.take (i + 1)) (f.take (i + 1)) = wsum w (ts.take i) (f.take i) + v * (t.gain * w t.e - w t.b) := by
  rw [take_snoc ht, take_snoc hv]
  refine wsum_snoc w t v ?_
  have h1 := (List.getElem?_eq_some_iff.mp ht).1
  have h2 := (List.getElem?_eq_some_iff.mp hv).1
  rw [List.length_take, List.length_take]
  omega
end GM
set_option Elab.async false
set_option linter.all false
set_option maxRecDepth 100000
set_option maxHeartbeats 4000000
/-! W0: the text by names, the promises' shapes, tuples and fractions on the heap. -/
namespace GW
open PySem PySem.Spec PyProof.Rows L2 GM
abbrev Ex := Evl.Ex
/-! ### the text -/
def topS (i : Nat) : Stmt := PySem.Challenge.pw_gainroads_k23_whole_none_is_the_most.main.body.getD i (.Pass ⟨0, 0, 0, 0⟩)

section
variable (P : Program) (w : World) (K : PySem.W.Frag) (mg : Str → Option Value) (base : Heap)
/-- the def x of the text, as the top left it -/
def Df (x : Str) (st : Stmt) (ps : List Str) : Prop := ∃ f fd, Fun K x x st f fd ∧ mg x = some (.ref f) ∧ Binds K fd ps []
/-- the def x keeps its promise -/
def DOk (x : Str) (ps : List Str) (k : Nat) (sp : Sp) : Prop := ∃ f fd, FnOk P w K mg base CX0 k f fd ps sp ∧ mg x = some (.ref f) ∧ PySem.W.keepIn K (.ref f) = true ∧ Binds K fd ps []
end
section
variable {P : Program} {w : World} {K : PySem.W.Frag} {mg : Str → Option Value} {base : Heap}
theorem Df.ok {x : Str} {st : Stmt} {N ps : List Str} {k : Nat} {sp : Sp} (D : Df K mg x st ps) (S : FnScope N ps (defScope st)) (len : ∀ vs H Q E, sp vs H Q E → vs.length = ps.length)
    (hbody : ∀ (f : Addr) (cdv : Value) (A : Around) (outer : List Env) (s : Shared) (H : Hp) (vs : List V) (Q : VK) (E : XK), Room k (A.deeper (envOfC x (defScope st) s.heap.objs.size f cdv)) → sp vs H Q E →
      ∃ t, PSs (cxOf CX0 P w K mg base N x (defScope st) f cdv A outer s H E).nox (defBody st) t ∧ t { nx := fun _ H' => Q .non H', rt := Q } (start N vs) H) : DOk P w K mg base x ps (k + 1) sp := by
  obtain ⟨f, fd, F, hm, hb⟩ := D
  exact ⟨f, fd, F.ok S len (hbody f), hm, F.kp, hb⟩
theorem DOk.mono {x : Str} {ps : List Str} {j k : Nat} {sp : Sp} (D : DOk P w K mg base x ps j sp) (h : j ≤ k) : DOk P w K mg base x ps k sp := by
  obtain ⟨f, fd, F, r⟩ := D
  exact ⟨f, fd, F.mono h, r⟩
end
theorem pe_callD {X : Cx} {x : Str} {ps : List Str} {k : Nat} {sp : Sp} {p pos : Pos} {e : Expr} {es : List Expr} {t : TA} (G : DOk X.prog X.w X.K X.mg X.base x ps k sp) (hr : Room k X.A) (ha : PA X (e :: es) t) (hg : Gl X x := by rfl)
    (hdb : (x == ("__debug__" : Str)) = false := by decide) (he : starEach (e :: es) X.env = (false, eval e X.env) :: starEach es X.env := by rfl) (hpl : (backTo pos (starEach es X.env)).any (·.1) = false := by rfl) : PE X (.Call (.Name x p) (e :: es) [] pos) (tCall sp [] E0 t) := by
  obtain ⟨f, fd, F, hm, hk, hb⟩ := G
  exact pe_call F hr hg hm hk hb .nil pass0 ha hdb he hpl
/-- a constant of the module -/
def GC (mg : Str → Option Value) (x : Str) (v : V) : Prop := ∃ u, mg x = some u ∧ RelV v u
theorem pe_gc {X : Cx} {x : Str} {v : V} {p : Pos} (h : GC X.mg x v) (hg : Gl X x := by rfl) (hdb : (x == ("__debug__" : Str)) = false := by decide) : PE X (.Name x p) (tC v) := by
  obtain ⟨u, hm, r⟩ := h
  exact pe_glob hg hm r hdb

/-! ### promises by the number of arguments -/
def sp1 (p : V → Hp → VK → Prop) : Sp := fun vs H Q _ => ∃ a, vs = [a] ∧ p a H Q
def sp2 (p : V → V → Hp → VK → Prop) : Sp := fun vs H Q _ => ∃ a b, vs = [a, b] ∧ p a b H Q
def sp3 (p : V → V → V → Hp → VK → Prop) : Sp := fun vs H Q _ => ∃ a b c, vs = [a, b, c] ∧ p a b c H Q
def sp4 (p : V → V → V → V → Hp → VK → Prop) : Sp := fun vs H Q _ => ∃ a b c d, vs = [a, b, c, d] ∧ p a b c d H Q
def sp5 (p : V → V → V → V → V → Hp → VK → Prop) : Sp := fun vs H Q _ => ∃ a b c d e, vs = [a, b, c, d, e] ∧ p a b c d e H Q
theorem sp1_len {p : V → Hp → VK → Prop} : ∀ vs H Q E, sp1 p vs H Q E → vs.length = 1 := by
  rintro vs H Q E ⟨_, rfl, _⟩
  rfl
theorem sp2_len {p : V → V → Hp → VK → Prop} : ∀ vs H Q E, sp2 p vs H Q E → vs.length = 2 := by
  rintro vs H Q E ⟨_, _, rfl, _⟩
  rfl
theorem sp3_len {p : V → V → V → Hp → VK → Prop} : ∀ vs H Q E, sp3 p vs H Q E → vs.length = 3 := by
  rintro vs H Q E ⟨_, _, _, rfl, _⟩
  rfl
theorem sp4_len {p : V → V → V → V → Hp → VK → Prop} : ∀ vs H Q E, sp4 p vs H Q E → vs.length = 4 := by
  rintro vs H Q E ⟨_, _, _, _, rfl, _⟩
  rfl
theorem sp5_len {p : V → V → V → V → V → Hp → VK → Prop} : ∀ vs H Q E, sp5 p vs H Q E → vs.length = 5 := by
  rintro vs H Q E ⟨_, _, _, _, _, rfl, _⟩
  rfl

/-! ### // by a positive divisor where C divides by itself -/
theorem op_fdivP {X : Cx} : OpR X (binaryOp .FloorDiv) (rI CDivP fun i j => .int (i / j)) := opI fun i j _ _ _ _ _ hc q => by
  have h1 : (0 : Int) < j := hc.1
  exact PyProof.Rows.floordiv_int (by omega) (by rw [Int.fdiv_eq_ediv_of_nonneg i (by omega)]; exact q) (.inl hc.2)

/-! ### tuples stay -/
/-- all tuples stay -/
def TX (H H' : Hp) : Prop := ∀ a xs, H a = some (.tup xs) → H' a = some (.tup xs)
theorem TX.refl (H : Hp) : TX H H := fun _ _ h => h
theorem TX.trans {H H1 H2 : Hp} (a : TX H H1) (b : TX H1 H2) : TX H H2 := fun x o h => b x o (a x o h)
theorem TX.of {H H' : Hp} (e : Ex H H') : TX H H' := fun a xs h => e a _ h
theorem TX.new {H : Hp} {p : Addr} {o : HO} (h : H p = none) : TX H (upd H p o) := fun a xs e => by
  rw [upd_ne (ne_of_none e h)]
  exact e
theorem TX.wl {H : Hp} {p : Addr} {ys : List V} {o : HO} (h : H p = some (.lst ys)) : TX H (upd H p o) := fun a xs e => by
  rw [upd_ne (ne_of e h (by intro z; cases z))]
  exact e
theorem TX.wd {H : Hp} {p : Addr} {ys : List (Key × V)} {o : HO} (h : H p = some (.dK ys)) : TX H (upd H p o) := fun a xs e => by
  rw [upd_ne (ne_of e h (by intro z; cases z))]
  exact e
section
variable (K : PySem.W.Frag)
/-- a tuple, tracked or written in the text -/
def Tp (H : Hp) (a : Addr) (xs : List V) : Prop := H a = some (.tup xs) ∨ (∀ H' : Hp, SqT K H' a xs)
end
section
variable {K : PySem.W.Frag} {H H' : Hp} {a : Addr} {xs : List V}
theorem Tp.sq (h : Tp K H a xs) : SqT K H a xs := by
  rcases h with h | h
  · exact SqT.of h
  · exact h H
theorem Tp.mono (h : Tp K H a xs) (e : TX H H') : Tp K H' a xs := by
  rcases h with h | h
  · exact .inl (e _ _ h)
  · exact .inr h
theorem Tp.of (h : H a = some (.tup xs)) : Tp K H a xs := .inl h
end
section
variable (K : PySem.W.Frag)
/-- the fraction q, of a size that all reckoning stays within -/
def FrV (H : Hp) (v : V) (q : Rat) : Prop := ∃ a, v = .ref a ∧ Tp K H a [.int q.num, .int (q.den : Nat)] ∧ Sz 4000 q
end
section
variable {K : PySem.W.Frag} {H H' : Hp} {v : V} {q : Rat}
theorem FrV.mono (h : FrV K H v q) (e : TX H H') : FrV K H' v q := by
  obtain ⟨a, rfl, h, z⟩ := h
  exact ⟨a, rfl, h.mono e, z⟩
theorem FrV.ex (h : FrV K H v q) (e : Ex H H') : FrV K H' v q := h.mono (.of e)
end
/-- what is asked by one who wants the fraction q -/
def RetFr (K : PySem.W.Frag) (q : Rat) (H : Hp) (Q : VK) : Prop := ∀ v H', Ex H H' → FrV K H' v q → Q v H'
abbrev s_is_number : Stmt := topS 2
abbrev s_divisor_of : Stmt := topS 3
abbrev s_fraction : Stmt := topS 4
abbrev s_added : Stmt := topS 5
abbrev s_taken : Stmt := topS 6
abbrev s_times : Stmt := topS 7
abbrev s_over : Stmt := topS 8
abbrev s_compared : Stmt := topS 9
abbrev s_least : Stmt := topS 10
abbrev s_steps_of_tie : Stmt := topS 12
abbrev s_left_steps : Stmt := topS 13
abbrev s_grow_once : Stmt := topS 16
abbrev s_ring_among : Stmt := topS 17
abbrev s_worths_or_ring : Stmt := topS 18
abbrev s_steps_to : Stmt := topS 26
abbrev s_course_from : Stmt := topS 27
abbrev s_pairs_of : Stmt := topS 28
abbrev s_ring_bettering : Stmt := topS 29
abbrev s_bettering : Stmt := topS 30
abbrev s_is_pair : Stmt := topS 31
abbrev s_steps_told : Stmt := topS 32
abbrev s_is_course : Stmt := topS 33
abbrev s_gain_along : Stmt := topS 34
abbrev s_is_ring : Stmt := topS 35
abbrev s_shows_ring : Stmt := topS 36
abbrev s_shows_bettering : Stmt := topS 37
abbrev s_parts_along : Stmt := topS 38
abbrev s_parts_of : Stmt := topS 39
abbrev s_bettered : Stmt := topS 40
abbrev s__law_box : Stmt := topS 42
abbrev s__law_take : Stmt := topS 43
abbrev s__law_folded : Stmt := topS 44
abbrev s__law_frac : Stmt := topS 45
abbrev s__law_sum : Stmt := topS 46
abbrev s__law_product : Stmt := topS 47
abbrev s__law_minus : Stmt := topS 48
abbrev s__law_over : Stmt := topS 49
abbrev s__law_above : Stmt := topS 50
abbrev s__law_names_by : Stmt := topS 51
abbrev s__law_any_gain : Stmt := topS 52
abbrev s__law_any_much : Stmt := topS 53
abbrev s__law_any_price : Stmt := topS 54
abbrev s__law_planted : Stmt := topS 55
abbrev s__law_net_by : Stmt := topS 56
abbrev s__law_steps_of : Stmt := topS 57
abbrev s__law_course_by : Stmt := topS 58
abbrev s__law_parts_on : Stmt := topS 59
abbrev s__law_put : Stmt := topS 60
abbrev s__law_much_along : Stmt := topS 61
abbrev s__law_left_at : Stmt := topS 62
abbrev s__law_keeps : Stmt := topS 63
abbrev s__law_stream_by : Stmt := topS 64
abbrev s__law_ends_by : Stmt := topS 65
abbrev s__law_told_steps : Stmt := topS 66
abbrev s__law_is_course : Stmt := topS 67
abbrev s__law_shown : Stmt := topS 68
abbrev s__law_worths_of : Stmt := topS 69
abbrev s__law_none_more : Stmt := topS 70
abbrev s__law_right : Stmt := topS 71
abbrev s_law : Stmt := topS 72
/-- what the top has left -/
structure Txt (K : PySem.W.Frag) (mg : Str → Option Value) : Prop where
  d_is_number : Df K mg "is_number" s_is_number ["thing"]
  d_divisor_of : Df K mg "divisor_of" s_divisor_of ["one", "other"]
  d_fraction : Df K mg "fraction" s_fraction ["n", "d"]
  d_added : Df K mg "added" s_added ["one", "other"]
  d_taken : Df K mg "taken" s_taken ["one", "other"]
  d_times : Df K mg "times" s_times ["one", "other"]
  d_over : Df K mg "over" s_over ["one", "other"]
  d_compared : Df K mg "compared" s_compared ["one", "other"]
  d_least : Df K mg "least" s_least ["parts"]
  d_steps_of_tie : Df K mg "steps_of_tie" s_steps_of_tie ["number", "tie", "goes"]
  d_left_steps : Df K mg "left_steps" s_left_steps ["net", "stream"]
  d_grow_once : Df K mg "grow_once" s_grow_once ["lanes", "worths", "nexts"]
  d_ring_among : Df K mg "ring_among" s_ring_among ["places", "lanes", "nexts"]
  d_worths_or_ring : Df K mg "worths_or_ring" s_worths_or_ring ["places", "lanes"]
  d_steps_to : Df K mg "steps_to" s_steps_to ["steps", "goals"]
  d_course_from : Df K mg "course_from" s_course_from ["found", "place"]
  d_pairs_of : Df K mg "pairs_of" s_pairs_of ["steps"]
  d_ring_bettering : Df K mg "ring_bettering" s_ring_bettering ["net", "end", "steps", "found"]
  d_bettering : Df K mg "bettering" s_bettering ["net", "begin", "end", "stream"]
  d_is_pair : Df K mg "is_pair" s_is_pair ["thing"]
  d_steps_told : Df K mg "steps_told" s_steps_told ["known", "thing"]
  d_is_course : Df K mg "is_course" s_is_course ["steps", "first", "end"]
  d_gain_along : Df K mg "gain_along" s_gain_along ["steps"]
  d_is_ring : Df K mg "is_ring" s_is_ring ["steps"]
  d_shows_ring : Df K mg "shows_ring" s_shows_ring ["known", "end", "ring_told", "course_told"]
  d_shows_bettering : Df K mg "shows_bettering" s_shows_bettering ["net", "begin", "end", "stream", "thing"]
  d_parts_along : Df K mg "parts_along" s_parts_along ["steps", "part"]
  d_parts_of : Df K mg "parts_of" s_parts_of ["known", "thing"]
  d_bettered : Df K mg "bettered" s_bettered ["net", "begin", "end", "stream", "thing"]
  d__law_box : Df K mg "_law_box" s__law_box ["_law_script", "_law_k"]
  d__law_take : Df K mg "_law_take" s__law_take ["_law_box_here", "_law_many"]
  d__law_folded : Df K mg "_law_folded" s__law_folded ["_law_script", "_law_many"]
  d__law_frac : Df K mg "_law_frac" s__law_frac ["_law_n", "_law_d"]
  d__law_sum : Df K mg "_law_sum" s__law_sum ["_law_one", "_law_other"]
  d__law_product : Df K mg "_law_product" s__law_product ["_law_one", "_law_other"]
  d__law_minus : Df K mg "_law_minus" s__law_minus ["_law_one", "_law_other"]
  d__law_over : Df K mg "_law_over" s__law_over ["_law_one", "_law_other"]
  d__law_above : Df K mg "_law_above" s__law_above ["_law_one", "_law_other"]
  d__law_names_by : Df K mg "_law_names_by" s__law_names_by ["_law_box_here", "_law_many"]
  d__law_any_gain : Df K mg "_law_any_gain" s__law_any_gain ["_law_box_here"]
  d__law_any_much : Df K mg "_law_any_much" s__law_any_much ["_law_box_here"]
  d__law_any_price : Df K mg "_law_any_price" s__law_any_price ["_law_box_here"]
  d__law_planted : Df K mg "_law_planted" s__law_planted ["_law_box_here", "_law_places"]
  d__law_net_by : Df K mg "_law_net_by" s__law_net_by ["_law_box_here", "_law_most_places", "_law_most_ties"]
  d__law_steps_of : Df K mg "_law_steps_of" s__law_steps_of ["_law_net", "_law_stream"]
  d__law_course_by : Df K mg "_law_course_by" s__law_course_by ["_law_box_here", "_law_steps", "_law_first", "_law_end", "_law_barred"]
  d__law_parts_on : Df K mg "_law_parts_on" s__law_parts_on ["_law_steps", "_law_part"]
  d__law_put : Df K mg "_law_put" s__law_put ["_law_stream", "_law_parts", "_law_much"]
  d__law_much_along : Df K mg "_law_much_along" s__law_much_along ["_law_parts"]
  d__law_left_at : Df K mg "_law_left_at" s__law_left_at ["_law_net", "_law_stream", "_law_place"]
  d__law_keeps : Df K mg "_law_keeps" s__law_keeps ["_law_net", "_law_stream", "_law_begin", "_law_end"]
  d__law_stream_by : Df K mg "_law_stream_by" s__law_stream_by ["_law_box_here", "_law_net", "_law_begin", "_law_end"]
  d__law_ends_by : Df K mg "_law_ends_by" s__law_ends_by ["_law_box_here", "_law_net"]
  d__law_told_steps : Df K mg "_law_told_steps" s__law_told_steps ["_law_steps", "_law_thing"]
  d__law_is_course : Df K mg "_law_is_course" s__law_is_course ["_law_course", "_law_first", "_law_end", "_law_barred"]
  d__law_shown : Df K mg "_law_shown" s__law_shown ["_law_net", "_law_begin", "_law_end", "_law_stream", "_law_thing"]
  d__law_worths_of : Df K mg "_law_worths_of" s__law_worths_of ["_law_net", "_law_stream", "_law_end"]
  d__law_none_more : Df K mg "_law_none_more" s__law_none_more ["_law_net", "_law_stream", "_law_begin", "_law_end"]
  d__law_right : Df K mg "_law_right" s__law_right ["_law_box_here", "_law_net", "_law_begin", "_law_end"]
  d_law : Df K mg "law" s_law ["_law_script"]
  n_isinstance : mg "isinstance" = none
  n_bool : mg "bool" = none
  n_int : mg "int" = none
  n_abs : mg "abs" = none
  n_enumerate : mg "enumerate" = none
  n_len : mg "len" = none
  n_dict : mg "dict" = none
  n_list : mg "list" = none
  n_min : mg "min" = none
  n_tuple : mg "tuple" = none
  n_any : mg "any" = none
  n_zip : mg "zip" = none
  n_all : mg "all" = none
  n_set : mg "set" = none
  n_str : mg "str" = none
  n_divmod : mg "divmod" = none
  n_range : mg "range" = none
  n_max : mg "max" = none
  o_ONE_fractions : ∃ a, mg "ONE_fractions" = some (.ref a) ∧ ∀ H : Hp, SqT K H a [.int 1, .int 1]
  o_ONE_rounds : ∃ a, mg "ONE_rounds" = some (.ref a) ∧ ∀ H : Hp, SqT K H a [.int 1, .int 1]
  c_BEGINS : GC mg "BEGINS" (.int 2)
  c_ENDS : GC mg "ENDS" (.int 3)
  c_RING : GC mg "RING" (.str "ring")
  c_GAINS : GC mg "GAINS" (.int 5)
  c_WAY : GC mg "WAY" (.str "way")
  c_ROOM : GC mg "ROOM" (.int 4)
end GW
set_option Elab.async false
set_option linter.all false
set_option maxRecDepth 100000
set_option maxHeartbeats 4000000
/-! W1: data on the heap: pairs of lists, steps, ties, nets, lists, dicts by names; comprehensions. -/
namespace GW
open PySem PySem.Spec PyProof.Rows L2 GM

/-! ### rules told over a fixed written part (for use within comprehensions) -/
section
variable {X : Cx} (K : PySem.W.Frag)
theorem ixT (h : X.K = K := by rfl) : IxR X (rIxT K) := h ▸ ix_tup
theorem ixL (h : X.K = K := by rfl) : IxR X (rIxL K) := h ▸ ix_list
theorem slT (h : X.K = K := by rfl) : SlR X (rSlT K) := h ▸ sl_tup
theorem slL (h : X.K = K := by rfl) : SlR X (rSlL K) := h ▸ sl_list
theorem opIn (h : X.K = K := by rfl) : OpR X (compareOp .In) (rIn K false) := h ▸ op_in_seq
theorem opNotIn (h : X.K = K := by rfl) : OpR X (compareOp .NotIn) (rIn K true) := h ▸ op_notIn_seq
theorem opEqD (hu : X.A.units + 64 < cLine) (h : X.K = K := by rfl) : OpR X (compareOp .Eq) (rEqD K) := h ▸ op_eqD hu
theorem opNeD (hu : X.A.units + 64 < cLine) (h : X.K = K := by rfl) : OpR X (compareOp .NotEq) (rNeD K) := h ▸ op_neD hu
theorem lenK (h : X.K = K := by rfl) : CallR X (.builtin "len") (Evl.rLenS K) := by
  subst h
  exact call_len_seq
theorem pgT (n : Nat) {es : List Expr} {k : Nat} {pos : Pos} {t : TGs} (hc : X.calm = true) (hg : PGs X es t) (h : X.K = K := by rfl) (hn : (assignEach es X.env).length = n := by rfl) (hst : (assignEach es X.env).findIdx? (·.1) = none := by rfl) : PG X (.Tuple es k pos) (gTup K n t) := by
  subst h
  exact pg_tup hc hg hn hst
theorem piL {tg l : Expr} {tl : TE} (hl : PE X l tl) (h : X.K = K := by rfl) : PI X tg l (iList K tl) := by
  subst h
  exact pi_list hl
theorem piT {tg l : Expr} {tl : TE} (hl : PE X l tl) (h : X.K = K := by rfl) : PI X tg l (iTup K tl) := by
  subst h
  exact pi_tup hl
end

/-! ### two lists, item by item -/
inductive All2 {α β : Type} (R : α → β → Prop) : List α → List β → Prop
  | nil : All2 R [] []
  | cons {a : α} {b : β} {as : List α} {bs : List β} : R a b → All2 R as bs → All2 R (a :: as) (b :: bs)
section
variable {α β : Type} {R R' : α → β → Prop}
theorem All2.length {as : List α} {bs : List β} (h : All2 R as bs) : as.length = bs.length := by
  induction h with
  | nil => rfl
  | cons _ _ ih => simp [ih]
theorem All2.mono {as : List α} {bs : List β} (h : All2 R as bs) (f : ∀ a b, R a b → R' a b) : All2 R' as bs := by
  induction h with
  | nil => exact .nil
  | cons r _ ih => exact .cons (f _ _ r) ih
theorem All2.get {as : List α} {bs : List β} (h : All2 R as bs) : ∀ {i : Nat} {a : α}, as[i]? = some a → ∃ b, bs[i]? = some b ∧ R a b := by
  induction h with
  | nil => intro i a e; simp at e
  | cons r _ ih =>
    intro i a e
    cases i with
    | zero => simp at e; subst e; exact ⟨_, by simp, r⟩
    | succ i => obtain ⟨b, h1, h2⟩ := ih (by simpa using e); exact ⟨b, by simpa using h1, h2⟩
theorem All2.get' {as : List α} {bs : List β} (h : All2 R as bs) : ∀ {i : Nat} {b : β}, bs[i]? = some b → ∃ a, as[i]? = some a ∧ R a b := by
  induction h with
  | nil => intro i a e; simp at e
  | cons r _ ih =>
    intro i a e
    cases i with
    | zero => simp at e; subst e; exact ⟨_, by simp, r⟩
    | succ i => obtain ⟨b, h1, h2⟩ := ih (by simpa using e); exact ⟨b, by simpa using h1, h2⟩
theorem All2.two {as : List α} {bs : List β} (h : All2 R as bs) {i : Nat} {a : α} {b : β} (e1 : as[i]? = some a) (e2 : bs[i]? = some b) : R a b := by
  obtain ⟨b', h1, h2⟩ := h.get e1
  rw [e2] at h1
  cases h1
  exact h2
theorem All2.append {as as' : List α} {bs bs' : List β} (h : All2 R as bs) (k : All2 R as' bs') : All2 R (as ++ as') (bs ++ bs') := by
  induction h with
  | nil => exact k
  | cons r _ ih => exact .cons r ih
theorem All2.snoc {as : List α} {bs : List β} {a : α} {b : β} (h : All2 R as bs) (r : R a b) : All2 R (as ++ [a]) (bs ++ [b]) := h.append (.cons r .nil)
theorem All2.take {as : List α} {bs : List β} (h : All2 R as bs) : ∀ n, All2 R (as.take n) (bs.take n) := by
  induction h with
  | nil => intro n; simpa using All2.nil
  | cons r _ ih =>
    intro n
    cases n with
    | zero => exact .nil
    | succ n => exact .cons r (ih n)
theorem All2.drop {as : List α} {bs : List β} (h : All2 R as bs) : ∀ n, All2 R (as.drop n) (bs.drop n) := by
  induction h with
  | nil => intro n; simpa using All2.nil
  | cons r h ih =>
    intro n
    cases n with
    | zero => exact .cons r h
    | succ n => exact ih n
theorem All2.set {as : List α} {bs : List β} {a : α} {b : β} (h : All2 R as bs) (r : R a b) : ∀ n, All2 R (as.set n a) (bs.set n b) := by
  induction h with
  | nil => intro n; exact .nil
  | cons r' h ih =>
    intro n
    cases n with
    | zero => exact .cons r h
    | succ n => exact .cons r' (ih n)
theorem All2.rep {a : α} {b : β} (r : R a b) : ∀ n, All2 R (List.replicate n a) (List.replicate n b)
  | 0 => .nil
  | n + 1 => .cons r (All2.rep r n)
theorem All2.nil_left {bs : List β} (h : All2 R [] bs) : bs = [] := by cases h; rfl
theorem All2.nil_right {as : List α} (h : All2 R as []) : as = [] := by cases h; rfl
theorem All2.map_right {γ : Type} {f : γ → β} : ∀ {as : List α} {cs : List γ}, All2 (fun a c => R a (f c)) as cs → All2 R as (cs.map f)
  | _, _, .nil => .nil
  | _, _, .cons r h => .cons r (All2.map_right h)
theorem All2.mem_left {as : List α} {bs : List β} (h : All2 R as bs) {a : α} (m : a ∈ as) : ∃ b, b ∈ bs ∧ R a b := by
  obtain ⟨i, hi⟩ := List.mem_iff_getElem?.mp m
  obtain ⟨b, h1, h2⟩ := h.get hi
  exact ⟨b, List.mem_of_getElem? h1, h2⟩
theorem All2.mem_right {as : List α} {bs : List β} (h : All2 R as bs) {b : β} (m : b ∈ bs) : ∃ a, a ∈ as ∧ R a b := by
  obtain ⟨i, hi⟩ := List.mem_iff_getElem?.mp m
  obtain ⟨a, h1, h2⟩ := h.get' hi
  exact ⟨a, List.mem_of_getElem? h1, h2⟩
end

/-! ### slices, places -/
theorem cut_from (xs : List V) (k : Nat) : cutV xs (some (k : Int)) none = xs.drop k := by
  unfold cutV
  rw [HT.sIx_nat, HT.sIx_none]
  by_cases h : k ≤ xs.length
  · rw [Nat.min_eq_left h, List.take_of_length_le (by simp)]
  · have h2 : xs.length ≤ k := by omega
    rw [Nat.min_eq_right h2, List.drop_of_length_le (Nat.le_refl _), List.drop_of_length_le h2]
    simp
theorem cut_to (xs : List V) (k : Nat) : cutV xs none (some (k : Int)) = xs.take k := by
  unfold cutV
  rw [HT.sIx_nat, HT.sIx_none]
  show List.take (min k xs.length - 0) xs = _
  by_cases h : k ≤ xs.length
  · rw [Nat.min_eq_left h]; rfl
  · have h2 : xs.length ≤ k := by omega
    rw [Nat.min_eq_right h2, List.take_of_length_le (by simp), List.take_of_length_le h2]
theorem atI_end {α : Type} {xs : List α} {v : α} (h : xs.getLast? = some v) : atI xs (-1) = some v := by
  obtain ⟨ys, rfl⟩ := List.getLast?_eq_some_iff.mp h
  exact atI_last ys v

/-! ### steps, ties, pairs, nets -/
section
variable (K : PySem.W.Frag)
def StV (H : Hp) (v : V) (s : Step Str) : Prop := ∃ a vr vg, v = .ref a ∧ Tp K H a [.int (s.n : Nat), .bl s.k, .str s.b, .str s.e, vr, vg] ∧ FrV K H vr s.room ∧ FrV K H vg s.gain
def TieV (H : Hp) (v : V) (t : Tie Str) : Prop := ∃ a vm vg vp q, v = .ref a ∧ Tp K H a [.str t.b, .str t.e, vm, vg, vp] ∧ FrV K H vm t.most ∧ FrV K H vg t.gain ∧ FrV K H vp q
def NetV (H : Hp) (v : V) (ps : List Str) (ts : List (Tie Str)) : Prop := ∃ a b c vs, v = .ref a ∧ Tp K H a [.ref b, .ref c] ∧ Tp K H b (ps.map V.str) ∧ Tp K H c vs ∧ All2 (TieV K H) vs ts
/-- a step with a part -/
def PtV (H : Hp) (v : V) (q : Step Str × Rat) : Prop := ∃ a vs vp, v = .ref a ∧ Tp K H a [vs, vp] ∧ StV K H vs q.1 ∧ FrV K H vp q.2
/-- a pair of a tie's number and whether it's back -/
def PrV (H : Hp) (v : V) (q : Nat × Bool) : Prop := ∃ a, v = .ref a ∧ Tp K H a [.int (q.1 : Nat), .bl q.2]
/-- a list whose items are such -/
def LsV {β : Type} (R : Hp → V → β → Prop) (H : Hp) (v : V) (ys : List β) : Prop := ∃ a vs, v = .ref a ∧ H a = some (.lst vs) ∧ All2 (R H) vs ys
end
/-- what stays while tuples stay -/
def TM {β : Type} (R : Hp → V → β → Prop) : Prop := ∀ H H' v y, TX H H' → R H v y → R H' v y
section
variable {K : PySem.W.Frag} {H H' : Hp} {v : V}
theorem tm_fr : TM (FrV K) := fun _ _ _ _ e h => h.mono e
theorem tm_st : TM (StV K) := fun _ _ _ _ e ⟨a, vr, vg, h1, h2, h3, h4⟩ => ⟨a, vr, vg, h1, h2.mono e, h3.mono e, h4.mono e⟩
theorem tm_tie : TM (TieV K) := fun _ _ _ _ e ⟨a, vm, vg, vp, q, h1, h2, h3, h4, h5⟩ => ⟨a, vm, vg, vp, q, h1, h2.mono e, h3.mono e, h4.mono e, h5.mono e⟩
theorem tm_pt : TM (PtV K) := fun _ _ _ _ e ⟨a, vs, vp, h1, h2, h3, h4⟩ => ⟨a, vs, vp, h1, h2.mono e, tm_st _ _ _ _ e h3, h4.mono e⟩
theorem tm_pr : TM (PrV K) := fun _ _ _ _ e ⟨a, h1, h2⟩ => ⟨a, h1, h2.mono e⟩
theorem All2.tm {β : Type} {R : Hp → V → β → Prop} (m : TM R) (e : TX H H') {vs : List V} {ys : List β} (h : All2 (R H) vs ys) : All2 (R H') vs ys := h.mono fun a b r => m H H' a b e r
theorem NetV.mono {ps : List Str} {ts : List (Tie Str)} (h : NetV K H v ps ts) (e : TX H H') : NetV K H' v ps ts := by
  obtain ⟨a, b, c, vs, h1, h2, h3, h4, h5⟩ := h
  exact ⟨a, b, c, vs, h1, h2.mono e, h3.mono e, h4.mono e, h5.tm tm_tie e⟩
theorem LsV.ex {β : Type} {R : Hp → V → β → Prop} (m : TM R) {ys : List β} (h : LsV R H v ys) (e : Ex H H') : LsV R H' v ys := by
  obtain ⟨a, vs, h1, h2, h3⟩ := h
  exact ⟨a, vs, h1, e _ _ h2, h3.tm m (.of e)⟩
theorem StV.mono {s : Step Str} (h : StV K H v s) (e : TX H H') : StV K H' v s := tm_st _ _ _ _ e h
theorem TieV.mono {s : Tie Str} (h : TieV K H v s) (e : TX H H') : TieV K H' v s := tm_tie _ _ _ _ e h
theorem PtV.mono {s : Step Str × Rat} (h : PtV K H v s) (e : TX H H') : PtV K H' v s := tm_pt _ _ _ _ e h
theorem PrV.mono {s : Nat × Bool} (h : PrV K H v s) (e : TX H H') : PrV K H' v s := tm_pr _ _ _ _ e h
end
/-- what is asked by one who wants a new list of such -/
def RetLs {β : Type} (R : Hp → V → β → Prop) (ys : List β) (H : Hp) (Q : VK) : Prop := ∀ p H' vs, H p = none → Ex H H' → H' p = some (.lst vs) → All2 (R H') vs ys → Q (.ref p) H'
theorem Ex.upd_new {H H' : Hp} {p : Addr} {o : HO} (e : Ex H H') (h : H p = none) : Ex H (upd H' p o) := Evl.Ex.mut e h
theorem Ex.trans {H H1 H2 : Hp} (a : Ex H H1) (b : Ex H1 H2) : Ex H H2 := Evl.Ex.trans a b
theorem Ex.refl (H : Hp) : Ex H H := Evl.Ex.refl H
theorem Ex.new {H : Hp} {p : Addr} {o : HO} (h : H p = none) : Ex H (upd H p o) := Evl.Ex.new h
theorem Ex.back {H H' : Hp} {p : Addr} (e : Ex H H') (h : H' p = none) : H p = none := Evl.fresh_back e h
theorem small {n : Nat} (h : n ≤ 100000) : n < sizeLine := Nat.lt_of_le_of_lt h (by decide)
theorem smallE {n : Nat} (h : n ≤ 100000) : n ≤ sizeLine := Nat.le_of_lt (small h)

/-! ### dicts by names -/
def DicV (H : Hp) (a : Addr) (f : Str → Option V) (n : Nat) : Prop := ∃ kvs : List (Key × V), H a = some (.dK kvs) ∧ kvs.length ≤ n ∧ ∀ x, valV kvs (Sum.inr x) = f x
section
variable {H H' : Hp} {a : Addr} {f : Str → Option V} {n : Nat}
theorem DicV.get (h : DicV H a f n) (x : Str) : DGet H a (.str x) (f x) := by
  obtain ⟨kvs, h1, _, h3⟩ := h
  rw [← h3 x]
  exact DGet.k (k := Sum.inr x) h1
theorem DicV.isD (h : DicV H a f n) : IsD H a := by
  obtain ⟨kvs, h1, _, h3⟩ := h
  exact .inl ⟨kvs, .inl h1⟩
theorem putK_len {κ : Type} [DecidableEq κ] (c : List (κ × V)) (k : κ) (x : V) : (putK c k x).length ≤ c.length + 1 := by
  unfold putK
  split
  · simp
  · simp
theorem DicV.put (h : DicV H a f n) (hn : n ≤ 100000) (x : Str) (v : V) : ∃ H', DPut H a (.str x) v H' ∧ DicV H' a (fun y => if y = x then some v else f y) (n + 1) ∧ (∃ o, H' = upd H a o) ∧ TX H H' := by
  obtain ⟨kvs, h1, h2, h3⟩ := h
  refine ⟨_, DPut.k (k := Sum.inr x) h1 (small (by omega)), ⟨_, upd_same, ?_, fun y => ?_⟩, ⟨_, rfl⟩, .wd h1⟩
  · have := putK_len kvs (Sum.inr x : Key) v
    omega
  · rw [valV_put, h3]
    by_cases e : y = x
    · subst e; simp
    · rw [if_neg (fun q => e (Sum.inr.inj q))]
      exact (if_neg e).symm
theorem DicV.ex (h : DicV H a f n) (e : Ex H H') : DicV H' a f n := by
  obtain ⟨kvs, h1, h2, h3⟩ := h
  exact ⟨kvs, e _ _ h1, h2, h3⟩
theorem DicV.ne {b : Addr} {xs : List V} (h : DicV H a f n) (k : H b = some (.lst xs)) : a ≠ b := by
  obtain ⟨kvs, h1, _⟩ := h
  exact ne_of h1 k (by intro z; cases z)
end

/-! ### comprehensions: some items of a list, each told anew -/
section
variable {K : PySem.W.Frag} {a : Addr} {xs : List V} {g : TG} {tt : TT} {te : TE} {vs : List Nat} {σ : L2.St} {H1 : Hp} {Q : VK} {β γ : Type}
/-- what a turn of a comprehension owes: for an item's data y: in if p y, then told as f y -/
def LcTurn (g : TG) (tt : TT) (te : TE) (vs : List Nat) (σ : L2.St) (R : Hp → V → γ → Prop) (x : V) (H : Hp) (b : Bool) (z : γ) : Prop :=
  ∀ (A : V → Hp → Prop) (B : Hp → Prop), (b = true → ∀ v H4, Ex H H4 → R H4 v z → A v H4) → (b = false → ∀ H3, Ex H H3 → B H3) →
    g x (wipe σ vs) H fun σ2 H2 => wipe σ2 vs = wipe σ vs ∧ tt σ2 H2 fun c H3 => if c = true then te σ2 H3 A else B H3
theorem LcTurn.yes {R : Hp → V → γ → Prop} {x : V} {H : Hp} {z : γ} (h : ∀ A : V → Hp → Prop, (∀ v H4, Ex H H4 → R H4 v z → A v H4) → g x (wipe σ vs) H fun σ2 H2 => wipe σ2 vs = wipe σ vs ∧ te σ2 H2 A) : LcTurn g tYes te vs σ R x H true z :=
  fun A B hA _ => h A fun v H4 e r => hA rfl v H4 e r
theorem lcTurn_step {R : Hp → V → γ → Prop} (hm : TM R) {x : V} {H : Hp} {b : Bool} {z : γ} (t : LcTurn g tt te vs σ R x H b z) {D : Addr} {acc : List V} {zs : List γ} (h1 : H1 D = none) (e : Ex H1 H) (hD : H D = some (.lst acc)) (ha : All2 (R H) acc zs) (hl : acc.length ≤ 100000)
    {P : Hp → Prop} (hP : ∀ H5 acc', Ex H1 H5 → H5 D = some (.lst acc') → All2 (R H5) acc' (if b = true then zs ++ [z] else zs) → P H5) :
    g x (wipe σ vs) H fun σ2 H2 => wipe σ2 vs = wipe σ vs ∧ tt σ2 H2 fun c H3 => if c = true then te σ2 H3 fun y H4 => ∃ acc, H4 D = some (.lst acc) ∧ acc.length < sizeLine ∧ P (upd H4 D (.lst (acc ++ [y]))) else P H3 := by
  refine t _ _ (fun hb v H4 e4 r => ⟨acc, e4 _ _ hD, small hl, hP _ (acc ++ [v]) ?_ upd_same ?_⟩) (fun hb H3 e3 => hP _ acc (e.trans e3) (e3 _ _ hD) ?_)
  · exact (e.trans e4).upd_new h1
  · rw [if_pos hb]
    have tx : TX H4 (upd H4 D (.lst (acc ++ [v]))) := .wl (e4 _ _ hD)
    exact (ha.tm hm ((TX.of e4).trans tx)).snoc (hm _ _ _ _ tx r)
  · rw [if_neg (by rw [hb]; decide)]
    exact ha.tm hm (.of e3)
theorem take_fm {ys : List β} {p : β → Bool} {f : β → γ} {i : Nat} {y : β} (h : ys[i]? = some y) :
    ((ys.take (i + 1)).filter p).map f = if p y = true then ((ys.take i).filter p).map f ++ [f y] else ((ys.take i).filter p).map f := by
  rw [take_snoc h, List.filter_append, List.map_append, List.filter_cons]
  cases p y <;> simp
/-- over anything that walks through xs -/
theorem lc_fmW {J : It} {G : Hp → Prop} {Y : Nat → Hp → V → Hp → Prop} {ys : List β} (w : Walk J ys.length G Y) {R : Hp → V → γ → Prop} (hm : TM R) {p : β → Bool} {f : β → γ} (hG : ∀ H, Ex H1 H → G H) (hz : ys.length ≤ 100000)
    (hs : ∀ (i : Nat) (y : β) x H H', ys[i]? = some y → Ex H1 H → Y i H x H' → Ex H H' ∧ LcTurn g tt te vs σ R x H' (p y) (f y))
    {Qd : Addr → Hp → Prop} (k : ∀ D H' zs, H1 D = none → Ex H1 H' → H' D = some (.lst zs) → All2 (R H') zs ((ys.filter p).map f) → Qd D H') : ∀ D, H1 D = none →
    ∃ W : Nat → Nat → Hp → Prop, (∃ m, W 0 m (upd H1 D (.lst []))) ∧ ∀ i m H, W i m H →
      (J.stop i H ∧ Qd D H) ∨ (J.go i H ∧ ∃ Nx : Hp → Prop, (∀ H', Nx H' → ∃ m', m' < m ∧ W (i + 1) m' H') ∧ ∀ x H', J.yld i H x H' → g x (wipe σ vs) H' fun σ2 H2 => wipe σ2 vs = wipe σ vs ∧ tt σ2 H2 fun b H3 =>
        if b = true then te σ2 H3 fun y H4 => ∃ acc, H4 D = some (.lst acc) ∧ acc.length < sizeLine ∧ Nx (upd H4 D (.lst (acc ++ [y]))) else Nx H3) := by
  intro D hD
  refine lc_it w (fun i H => Ex H1 H ∧ ∃ acc, H D = some (.lst acc) ∧ All2 (R H) acc (((ys.take i).filter p).map f)) ⟨Ex.new hD, [], upd_same, .nil⟩ (fun i H _ q => hG H q.1) (fun i x H H' hi q y => ?_) fun H q => ?_
  · obtain ⟨e, acc, h1, h2⟩ := q
    have hy : ys[i]? = some ys[i] := List.getElem?_eq_getElem hi
    obtain ⟨e', t⟩ := hs i _ x H H' hy e y
    refine lcTurn_step hm t hD (e.trans e') (e' _ _ h1) (h2.tm hm (.of e')) ?_ fun H5 acc' e5 h5 a5 => ⟨e5, acc', h5, ?_⟩
    · rw [h2.length, List.length_map]
      have := List.length_filter_le p (ys.take i)
      rw [List.length_take] at this
      omega
    · rw [take_fm hy]
      exact a5
  · obtain ⟨e, acc, h1, h2⟩ := q
    rw [List.take_length] at h2
    exact k D H acc hD e h1 h2
/-- over a list that stands -/
theorem lc_fm {ys : List β} {R : Hp → V → γ → Prop} (hm : TM R) {p : β → Bool} {f : β → γ} (hx : H1 a = some (.lst xs)) (hl : xs.length = ys.length) (hz : ys.length ≤ 100000)
    (hs : ∀ (i : Nat) (x : V) (y : β) H, xs[i]? = some x → ys[i]? = some y → Ex H1 H → LcTurn g tt te vs σ R x H (p y) (f y))
    {Qd : Addr → Hp → Prop} (k : ∀ D H' zs, H1 D = none → Ex H1 H' → H' D = some (.lst zs) → All2 (R H') zs ((ys.filter p).map f) → Qd D H') : ∀ D, H1 D = none →
    ∃ W : Nat → Nat → Hp → Prop, (∃ m, W 0 m (upd H1 D (.lst []))) ∧ ∀ i m H, W i m H →
      ((Itl K a).stop i H ∧ Qd D H) ∨ ((Itl K a).go i H ∧ ∃ Nx : Hp → Prop, (∀ H', Nx H' → ∃ m', m' < m ∧ W (i + 1) m' H') ∧ ∀ x H', (Itl K a).yld i H x H' → g x (wipe σ vs) H' fun σ2 H2 => wipe σ2 vs = wipe σ vs ∧ tt σ2 H2 fun b H3 =>
        if b = true then te σ2 H3 fun y H4 => ∃ acc, H4 D = some (.lst acc) ∧ acc.length < sizeLine ∧ Nx (upd H4 D (.lst (acc ++ [y]))) else Nx H3) :=
  lc_fmW (hl ▸ walk_list (K := K) (a := a) (xs := xs)) hm (fun H e => SqL.of (e _ _ hx)) hz (fun i y x H H' hy e q => by
    obtain ⟨rfl, hx'⟩ := q
    exact ⟨Ex.refl _, hs i x y _ hx' hy e⟩) k
/-- over a tuple that stands -/
theorem lc_fmT {ys : List β} {R : Hp → V → γ → Prop} (hm : TM R) {p : β → Bool} {f : β → γ} (hx : Tp K H1 a xs) (hl : xs.length = ys.length) (hz : ys.length ≤ 100000)
    (hs : ∀ (i : Nat) (x : V) (y : β) H, xs[i]? = some x → ys[i]? = some y → Ex H1 H → LcTurn g tt te vs σ R x H (p y) (f y))
    {Qd : Addr → Hp → Prop} (k : ∀ D H' zs, H1 D = none → Ex H1 H' → H' D = some (.lst zs) → All2 (R H') zs ((ys.filter p).map f) → Qd D H') : ∀ D, H1 D = none →
    ∃ W : Nat → Nat → Hp → Prop, (∃ m, W 0 m (upd H1 D (.lst []))) ∧ ∀ i m H, W i m H →
      ((Itt K a).stop i H ∧ Qd D H) ∨ ((Itt K a).go i H ∧ ∃ Nx : Hp → Prop, (∀ H', Nx H' → ∃ m', m' < m ∧ W (i + 1) m' H') ∧ ∀ x H', (Itt K a).yld i H x H' → g x (wipe σ vs) H' fun σ2 H2 => wipe σ2 vs = wipe σ vs ∧ tt σ2 H2 fun b H3 =>
        if b = true then te σ2 H3 fun y H4 => ∃ acc, H4 D = some (.lst acc) ∧ acc.length < sizeLine ∧ Nx (upd H4 D (.lst (acc ++ [y]))) else Nx H3) :=
  lc_fmW (hl ▸ walk_tup (K := K) (a := a) (xs := xs)) hm (fun H e => (hx.mono (.of e)).sq) hz (fun i y x H H' hy e q => by
    obtain ⟨rfl, hx'⟩ := q
    exact ⟨Ex.refl _, hs i x y _ hx' hy e⟩) k
end
end GW
set_option Elab.async false
set_option linter.all false
set_option maxRecDepth 100000
set_option maxHeartbeats 4000000
/-! W2: walks of enumerate over a tuple, of zip over a list and a tuple. -/
namespace GW
open PySem PySem.Spec PyProof.Rows L2 GM

/-! ### enumerate(v) begins, v of any kind -/
theorem meets_enum1 {v : Value} {o : Obj} {C : Heap → Prop} (B : Begins v o C) :
    Meets (Builtin.«enumerate.__new__» ⟨[.type "enumerate", v], []⟩) (fun _ R s => C s.heap ∧
      R (.ok (.ret (.ref (s.heap.push o).objs.size))) { s with heap := (s.heap.push o).push { cls := .type "enumerate", data := .fields #[.none, .bool false, .ref s.heap.objs.size, rawInt 0, .none, .none] } }) :=
  .of_wp fun prog w A R s h => by
    obtain ⟨hp, g, d, tk, os⟩ := s
    obtain ⟨hc, h⟩ := h
    have hsub := sub_enumerate
    have it : ∀ {A' : Around} {E : Value → Shared → Prop} {Q : Value → Shared → Prop}, Q (.ref hp.objs.size) ⟨hp.push o, g, d, tk, os⟩ → wpAny (model prog w) A' (pyIter v) Q E ⟨hp, g, d, tk, os⟩ :=
      fun q => B.iter prog w _ _ ⟨hp, g, d, tk, os⟩ _ hc q
    wp_walk using it
    refine wpAny_stack_any fun st => wpAny_pure ?_
    split
    · rename_i c _ _ _ _ _
      cases (c == Value.type "enumerate") <;> (wp_walk using it; exact ⟨_, rfl, h⟩)
    · wp_walk using it
      exact ⟨_, rfl, h⟩
section
variable {prog : Program} {w : World} {A : Around} {E : Value → Shared → Prop} {s : Shared}
theorem enum_begins1 {v : Value} {o : Obj} {C : Heap → Prop} {Q : Value → Shared → Prop} (B : Begins v o C) (hc : C s.heap)
    (h : ∀ h', IsEnum h' (s.heap.objs.size + 1) s.heap.objs.size 0 .none → h'.get? s.heap.objs.size = some o → (∀ b u, s.heap.get? b = some u → h'.get? b = some u) → Q (.ref (s.heap.objs.size + 1)) { s with heap := h' }) :
    wpAny (model prog w) A (call (.type "enumerate") [v]) Q E s := by
  refine callType_new F.called_enumerate (by decide) (F.typeCall_enumerate_1 _) (F.newCall_enumerate_1 _) (fun obj => F.args_object_init_2 obj _) F.entry_enumerate_new (meets_enum1 B) ⟨hc, ?_⟩
  have hz : (s.heap.push o).objs.size = s.heap.objs.size + 1 := Heap.size_push ..
  have he : IsEnum ((s.heap.push o).push { cls := .type "enumerate", data := .fields #[.none, .bool false, .ref s.heap.objs.size, rawInt 0, .none, .none] }) (s.heap.objs.size + 1) s.heap.objs.size 0 .none := by
    have q := Heap.get?_push_size (s.heap.push o) (o := { cls := .type "enumerate", data := .fields #[.none, .bool false, .ref s.heap.objs.size, rawInt 0, .none, .none] }) rfl
    rwa [hz] at q
  show _ ∧ _
  rw [hz]
  exact ⟨⟨_, he, rfl⟩, h _ he (Heap.get?_push_of_some _ (Heap.get?_push_size _ B.free)) fun b u e => Heap.get?_push_of_some _ (Heap.get?_push_of_some _ e)⟩
end

/-! ### a turn of an iterator that hands out new tuples (the library's WalksT), over the layer -/
/-- what such an iterator hands out in its turn i: a new tuple of values with Y -/
def ItT (n : Nat) (G : Hp → Prop) (Y : Nat → Hp → List V → Prop) : It :=
  ⟨fun i H => i < n ∧ G H, fun i H v H' => ∃ T xs, v = .ref T ∧ H T = none ∧ H' = upd H T (.tup xs) ∧ Y i H xs, fun i H => i = n ∧ G H⟩
theorem turn_T {P : Program} {w : World} {K : PySem.W.Frag} {elts : List Expr} {kk : Nat} {tpos : Pos} {n : Nat} {G : Hp → Prop} {Y : Nat → Hp → List V → Prop} {fp : List Addr} {it : Addr} {tn : Nat → Heap → Prop}
    (mem : it ∈ fp) (obj : ∀ i h, tn i h → ∀ b ∈ fp, ∃ o, h.get? b = some o ∧ ∀ v, o.data ≠ .cell v)
    (keep : ∀ i h h', tn i h → (∀ b ∈ fp, ∀ o, h.get? b = some o → h'.get? b = some o) → tn i h')
    (wk : ∀ (X : Cx), X.prog = P → X.w = w → X.K = K → X.calm = true → ∀ (i : Nat) (pins : List (Addr × Obj)) (s : Shared) (σ : L2.St) (H : Hp), Inv X pins σ H s → tn i s.heap → G H →
      ∃ (fp' wr : List Addr) (Pt : Nat → Array Value → Prop) (St : Nat → Heap → Prop) (Mid : Nat → Addr → Heap → Prop), WalksT P w X.A it fp' wr n Pt St Mid ∧ (∀ b ∈ wr, b ∈ fp) ∧ St i s.heap ∧
        (∀ vals, i < n → Pt i vals → ∃ xs, Vals xs vals.toList ∧ xs.length ≤ 1000 ∧ Y i H xs) ∧ (∀ h', St (i + 1) h' → tn (i + 1) h'))
    (self : ∀ (A : Around) (i : Nat) (s : Shared) (Q : Value → Shared → Prop) (E : Value → Shared → Prop), tn i s.heap → Q (.ref it) s → wpAny (model P w) A (pyIter (.ref it)) Q E s) :
    Turn P w K (.Tuple elts kk tpos) (ItT n G Y) fp it tn where
  mem := mem
  obj := obj
  keep := keep
  self := self
  item := by
    intro X hP hw hK hc i pins s σ H E I hf st hg
    obtain ⟨fp', wr, Pt, St, Mid, W, hsub, hst, hY, hnext⟩ := wk X hP hw hK hc i pins s σ H I st hg.2
    subst hP hw hK
    refine W.item i s _ _ hg.1 hst fun T vals h' tk hP hT hTup hm hk => ⟨.ref T, rfl, W.go elts kk tpos i T { s with heap := h', toks := tk } _ _ hm fun h2 st2 hk2 => ?_⟩
    obtain ⟨xs, hv, hl, hy⟩ := hY vals hg.1 hP
    have hT2 : h2.IsTuple T vals := hTup.at fun o e => hk2 T o (W.apart i T h' hm) e
    have new : ObjOk X.prog X.w (upd H T (.tup xs)) h2 T (.tup xs) := ⟨Nat.le_trans hl (by decide), vals.toList, hv, by rw [Array.toArray_toList]; exact hT2⟩
    have hk3 : ∀ b o, b ∉ fp → s.heap.get? b = some o → h2.get? b = some o := fun b o hb e => hk2 b o (fun q => hb (hsub b q)) (hk b o (fun q => hb (hsub b q)) e)
    have I1 : Inv X pins σ (upd H T (.tup xs)) { s with heap := h2, toks := tk } := I.turnedNew (ch := fp) hk3 hf hT new
    refine ⟨.ref T, _, I1, rfl, ⟨T, xs, rfl, I.hok.fresh hT, rfl, hy⟩, hnext _ st2, fun b hb => ?_⟩
    obtain ⟨o, ho, _⟩ := obj i _ st b hb
    rw [upd_ne (Nat.ne_of_lt (Nat.lt_of_lt_of_le (Heap.lt_size ho) hT))]
    exact (hf b hb).1
  done := by
    intro X hP hw hK hc i pins s σ H E I hf st hg
    obtain ⟨fp', wr, Pt, St, Mid, W, hsub, hst, hY, hnext⟩ := wk X hP hw hK hc i pins s σ H I st hg.2
    subst hP hw hK
    have e : i = n := hg.1
    subst e
    exact W.done s _ _ hst fun h' tk hk => ⟨rfl, I.turnedL (ch := fp) (fun b o hb q => hk b o (fun z => hb (hsub b z)) q) hf⟩
/-- the layer's walk of such -/
theorem walk_T {n : Nat} {G : Hp → Prop} {Y : Nat → Hp → List V → Prop} : Walk (ItT n G Y) n G (fun i H v H' => ∃ T xs, v = .ref T ∧ H T = none ∧ H' = upd H T (.tup xs) ∧ Y i H xs) :=
  ⟨fun i H hi h => ⟨hi, h⟩, fun H h => ⟨rfl, h⟩, fun i H x H' hi h y => y⟩

/-! ### enumerate(tuple) -/
/-- number and item -/
abbrev ItE (K : PySem.W.Frag) (a : Addr) (xs : List V) : It := ItT xs.length (fun H => SqT K H a xs) (fun i _ ys => ∃ x, xs[i]? = some x ∧ ys = [.int (i : Nat), x])
theorem turn_E {P : Program} {w : World} {K : PySem.W.Frag} {elts : List Expr} {kk : Nat} {tpos : Pos} {a e it : Addr} {xs : List V} :
    Turn P w K (.Tuple elts kk tpos) (ItE K a xs) [e, it] e (fun i h => (∃ old, IsEnum h e it ((i : Nat) : Int) old) ∧ h.IsTupleIter it a i ∧ e ≠ it ∧ a ≠ it ∧ a ≠ e) := by
  refine turn_T (by simp) (fun i h st b hb => ?_) (fun i h h' st k => ?_) (fun X hP hw hK hc i pins s σ H I st hq => ?_) (fun A i s Q E st h => ?_)
  · obtain ⟨⟨old, he⟩, ⟨o, ho, hc, hd⟩, _⟩ := st
    have hb' : b = e ∨ b = it := by simpa using hb
    rcases hb' with z | z
    · rw [z]; exact ⟨_, he, fun v q => nomatch q⟩
    · rw [z]; exact ⟨o, ho, fun v q => by rw [hd] at q; cases q⟩
  · obtain ⟨⟨old, he⟩, hi, r⟩ := st
    exact ⟨⟨old, k e (by simp) _ he⟩, hi.at fun o q => k it (by simp) o q, r⟩
  · subst hP hw hK
    obtain ⟨⟨old, he⟩, hit, h1, h2, h3⟩ := st
    obtain ⟨its, rv, p, _⟩ := I.tuple hq
    have hl : its.toArray.size = xs.length := by rw [List.size_toArray, rv.length]
    have hh : X.A.in1.handled = none := I.ok.hd hc
    refine ⟨_, _, _, _, _, hl ▸ WalksT.enumFrom 0 (Draws.tuple hh it a h2 its.toArray) e h1 (by simp [h1, Ne.symm h3]) (by simp), fun b hb => hb, ⟨⟨old, by rw [Int.zero_add]; exact he⟩, hit, p⟩, fun vals hi hv => ?_, fun h' st' => ?_⟩
    · obtain ⟨t, x, hx, rfl⟩ := hv
      have hx' : its[i]? = some x := by simpa using hx
      cases hxi : xs[i]? with
      | none => exact absurd (rv.none_of hxi) (by rw [hx']; exact fun q => nomatch q)
      | some y =>
        obtain ⟨u, hu, ru⟩ := rv.get hxi
        rw [hx'] at hu
        cases hu
        exact ⟨[.int (i : Nat), y], by rw [Int.zero_add]; exact .cons ⟨t, rfl⟩ (.cons ru .nil), by show 2 ≤ 1000; decide, y, rfl, rfl⟩
    · obtain ⟨⟨old', he'⟩, hit', _⟩ := st'
      rw [Int.zero_add] at he'
      exact ⟨⟨old', he'⟩, hit', h1, h2, h3⟩
  · obtain ⟨⟨old, he⟩, _⟩ := st
    exact wpAny_pyIter_enum he h
def iEnumT (K : PySem.W.Frag) (ta : TA) : TI := fun σ H R => ta σ H fun vs H1 => ∃ a xs, vs = [.ref a] ∧ SqT K H1 a xs ∧ R (ItE K a xs) H1
theorem pi_enumT {X : Cx} {e : Expr} {ta : TA} {p pos tpos : Pos} {elts : List Expr} {kk : Nat} (hg : Gl X "enumerate") (hm : X.mg "enumerate" = none) (ha : PA X [e] ta) (hs : starEach [e] X.env = [(false, eval e X.env)] := by rfl) :
    PI X (.Tuple elts kk tpos) (.Call (.Name "enumerate" p) [e] [] pos) (iEnumT X.K ta) := by
  refine ⟨fun pins s σ H R I h => ?_⟩
  refine Call_ (ld_blt I hg hm boot_enumerate (PyProof.Rows.callWith_type1 (thn (ha.run pos pins s σ H _ I h) fun us s1 ⟨vs, H1, I1, r1, q1⟩ => ?_) hs rfl))
  obtain ⟨a, xs, rfl, hq, q⟩ := q1
  obtain ⟨u, rfl, ru⟩ := vals1 r1
  cases ru
  obtain ⟨its, rv, p', _⟩ := I1.tuple hq
  have hal : a < s1.heap.objs.size := by obtain ⟨o, ho, _⟩ := p'; exact Heap.lt_size ho
  refine enum_begins1 (begins_tuple a its.toArray) p' fun h' he hi hk => wpAny_pyIter_enum he ?_
  have I2 : Inv X pins σ H1 { s1 with heap := h' } := I1.kept (t' := s1.toks) hk
  refine ⟨s1.heap.objs.size + 1, [s1.heap.objs.size + 1, s1.heap.objs.size], _, _, H1, rfl, I2, turn_E (a := a) (xs := xs), ⟨⟨.none, he⟩, ⟨_, hi, rfl, rfl⟩, Nat.succ_ne_self _, Nat.ne_of_lt hal, Nat.ne_of_lt (Nat.lt_succ_of_lt hal)⟩, fun b hb => ?_, q⟩
  have hb' : b = s1.heap.objs.size + 1 ∨ b = s1.heap.objs.size := by simpa using hb
  have hle : s1.heap.objs.size ≤ b := by
    rcases hb' with z | z
    · rw [z]; exact Nat.le_add_right _ _
    · rw [z]; exact Nat.le_refl _
  exact I1.fpOk hle (I1.hok.fresh hle)

/-! ### the layer's walks of enumerate(list), zip(list, list), in short words -/
theorem walk_en {K : PySem.W.Frag} {a : Addr} {xs : List V} : Walk (Ite K a) xs.length (fun H => SqL K H a xs) (fun i H v H' => ∃ T y, v = .ref T ∧ H T = none ∧ H' = upd H T (.tup [.int (i : Nat), y]) ∧ xs[i]? = some y) :=
  walk_enum.mono (fun _ h => h) fun i H v H' _ _ ⟨T, x, y, h1, h2, h3, h4, h5⟩ => ⟨T, y, h1, h2, by have e : x = V.int (i : Nat) := (Option.some.inj h4).symm; subst e; exact h3, h5⟩
theorem walk_zp {K : PySem.W.Frag} {a b : Addr} {xs ys : List V} : Walk (Itz K a b) (min xs.length ys.length) (fun H => SqL K H a xs ∧ SqL K H b ys) (fun i H v H' => ∃ T x y, v = .ref T ∧ H T = none ∧ H' = upd H T (.tup [x, y]) ∧ xs[i]? = some x ∧ ys[i]? = some y) := walk_zip rfl
/-! ### zip(list, tuple) -/
abbrev ItZ (K : PySem.W.Frag) (a b : Addr) (xs ys : List V) : It := ItT (min xs.length ys.length) (fun H => SqL K H a xs ∧ SqT K H b ys) (fun i _ zs => ∃ x y, xs[i]? = some x ∧ ys[i]? = some y ∧ zs = [x, y])
theorem vals_at {xs : List V} {us : List Value} {i : Nat} {u : Value} (r : Vals xs us) (h : us[i]? = some u) : ∃ x, xs[i]? = some x ∧ RelV x u := by
  cases hxi : xs[i]? with
  | none => exact absurd (r.none_of hxi) (by rw [h]; exact fun q => nomatch q)
  | some y =>
    obtain ⟨u', hu, ru⟩ := r.get hxi
    rw [h] at hu
    cases hu
    exact ⟨y, rfl, ru⟩
theorem turn_Z {P : Program} {w : World} {K : PySem.W.Frag} {elts : List Expr} {kk : Nat} {tpos : Pos} {a b z TI TO i1 i2 : Addr} {xs ys : List V} (S : ZipSep2 z TI TO i1 i2 [i1, a] [i2, b]) :
    Turn P w K (.Tuple elts kk tpos) (ItZ K a b xs ys) [z, TI, TO, i1, i2] z (fun i h => IsZip h z TI TO .none ∧ IsTupOf2 h TI (.ref i1) (.ref i2) ∧ (∃ x y, IsTupOf2 h TO x y) ∧ h.IsListIter i1 a i ∧ h.IsTupleIter i2 b i ∧ a ≠ i1 ∧ b ≠ i2) := by
  refine turn_T (by simp) (fun i h st c hc => ?_) (fun i h h' st k => ?_) (fun X hP hw hK hc i pins s σ H I st hq => ?_) (fun A i s Q E st h => ?_)
  · obtain ⟨hz, hTI, ⟨x, y, hTO⟩, ⟨o1, e1, _, d1⟩, ⟨o2, e2, _, d2⟩, _⟩ := st
    have hc' : c = z ∨ c = TI ∨ c = TO ∨ c = i1 ∨ c = i2 := by simpa using hc
    rcases hc' with q | q | q | q | q
    · rw [q]; exact ⟨_, hz, fun v q => nomatch q⟩
    · rw [q]; exact ⟨_, hTI, fun v q => nomatch q⟩
    · rw [q]; exact ⟨_, hTO, fun v q => nomatch q⟩
    · rw [q]; exact ⟨o1, e1, fun v q => by rw [d1] at q; cases q⟩
    · rw [q]; exact ⟨o2, e2, fun v q => by rw [d2] at q; cases q⟩
  · obtain ⟨hz, hTI, ⟨x, y, hTO⟩, h1, h2, r⟩ := st
    exact ⟨k z (by simp) _ hz, k TI (by simp) _ hTI, ⟨x, y, k TO (by simp) _ hTO⟩, h1.at fun o q => k i1 (by simp) o q, h2.at fun o q => k i2 (by simp) o q, r⟩
  · subst hP hw hK
    obtain ⟨hz, hTI, hTO, h1, h2, n1, n2⟩ := st
    obtain ⟨its, rv, p, _⟩ := I.list hq.1
    obtain ⟨its2, rv2, p2, _⟩ := I.tuple hq.2
    have hl : its.toArray.size = xs.length := by rw [List.size_toArray, rv.length]
    have hl2 : its2.toArray.size = ys.length := by rw [List.size_toArray, rv2.length]
    have hh : X.A.in1.handled = none := I.ok.hd hc
    refine ⟨_, _, _, _, _, hl ▸ hl2 ▸ WalksT.zipD2 S (Draws.list hh i1 a n1 its.toArray) (Draws.tuple hh i2 b n2 its2.toArray), fun c hc => ?_, ⟨hz, hTI, hTO, ⟨h1, p.isList⟩, ⟨h2, p2⟩⟩, fun vals hi hv => ?_, fun h' st' => ?_⟩
    · have hc' : c = z ∨ c = TO ∨ c = i1 ∨ c = i2 := by simpa using hc
      rcases hc' with q | q | q | q <;> simp [q]
    · obtain ⟨x, y, hx, hy, rfl⟩ := hv
      obtain ⟨v1, e1, r1⟩ := vals_at rv (i := i) (u := x) (by simpa using hx)
      obtain ⟨v2, e2, r2⟩ := vals_at rv2 (i := i) (u := y) (by simpa using hy)
      exact ⟨[v1, v2], .cons r1 (.cons r2 .nil), by show 2 ≤ 1000; decide, v1, v2, e1, e2, rfl⟩
    · obtain ⟨hz', hTI', hTO', s1, s2⟩ := st'
      exact ⟨hz', hTI', hTO', s1.1, s2.1, n1, n2⟩
  · exact wpAny_pyIter_zip st.1 h
def iZipLT (K : PySem.W.Frag) (ta : TA) : TI := fun σ H R => ta σ H fun vs H1 => ∃ a b xs ys, vs = [.ref a, .ref b] ∧ SqL K H1 a xs ∧ SqT K H1 b ys ∧ R (ItZ K a b xs ys) H1
theorem pi_zipLT {X : Cx} {e e2 : Expr} {ta : TA} {p pos tpos : Pos} {elts : List Expr} {kk : Nat} (hg : Gl X "zip") (hm : X.mg "zip" = none) (ha : PA X [e, e2] ta)
    (hs : starEach [e, e2] X.env = (false, eval e X.env) :: starEach [e2] X.env := by rfl) (hpl : (backTo pos (starEach [e2] X.env)).any (·.1) = false := by rfl) :
    PI X (.Tuple elts kk tpos) (.Call (.Name "zip" p) [e, e2] [] pos) (iZipLT X.K ta) := by
  refine ⟨fun pins s σ H R I h => ?_⟩
  refine Call_ (ld_blt I hg hm PyProof.Rows.boot_zip (PyProof.Rows.callWith_type1 (thn (ha.run pos pins s σ H _ I h) fun us s1 ⟨vs, H1, I1, r1, q1⟩ => ?_) hs hpl))
  obtain ⟨a, b, xs, ys, rfl, hqx, hqy, q⟩ := q1
  obtain ⟨u, w', rfl, ru, rw'⟩ := vals2 r1
  cases ru
  cases rw'
  obtain ⟨its, rv, p1, _⟩ := I1.list hqx
  obtain ⟨its2, rv2, p2, _⟩ := I1.tuple hqy
  have la : a < s1.heap.objs.size := p1.lt
  have lb : b < s1.heap.objs.size := by obtain ⟨o, ho, _⟩ := p2; exact Heap.lt_size ho
  have nx : ∀ k : Nat, s1.heap.objs.size ≤ s1.heap.objs.size + k := fun k => Nat.le_add_right _ _
  refine zip_begins2 (begins_list a its.toArray) (begins_tuple b its2.toArray) p1.isList p2 fun h' hz hTI hTO g1 g2 hsz hk => wpAny_pyIter_zip hz ?_
  have I2 : Inv X pins σ H1 { s1 with heap := h' } := I1.kept (t' := s1.toks) hk
  refine ⟨s1.heap.objs.size + 4, [s1.heap.objs.size + 4, s1.heap.objs.size + 2, s1.heap.objs.size + 3, s1.heap.objs.size, s1.heap.objs.size + 1], _, _, H1, rfl, I2,
    turn_Z (xs := xs) (ys := ys) (zip_sep2 (N := s1.heap.objs.size) (fp1 := [a]) (fp2 := [b]) (by simpa using la) (by simpa using lb)), ⟨hz, hTI, ⟨_, _, hTO⟩, ⟨_, g1, rfl, rfl⟩, ⟨_, g2, rfl, rfl⟩, Nat.ne_of_lt la, Nat.ne_of_lt (Nat.lt_succ_of_lt lb)⟩, fun c hc => ?_, q⟩
  have hc' : c = s1.heap.objs.size + 4 ∨ c = s1.heap.objs.size + 2 ∨ c = s1.heap.objs.size + 3 ∨ c = s1.heap.objs.size ∨ c = s1.heap.objs.size + 1 := by simpa using hc
  have hle : s1.heap.objs.size ≤ c := by
    rcases hc' with z | z | z | z | z
    · rw [z]; exact nx 4
    · rw [z]; exact nx 2
    · rw [z]; exact nx 3
    · rw [z]; exact nx 0
    · rw [z]; exact nx 1
  exact I1.fpOk hle (I1.hok.fresh hle)
end GW
set_option Elab.async false
set_option linter.all false
set_option maxRecDepth 100000
set_option maxHeartbeats 4000000
/-! W3: a dict whose keys are pairs of a number and a truth: made of a list of pairs, asked. -/
namespace GW
open PySem PySem.Spec PyProof.Rows L2 GM

abbrev NB := Nat × Bool
def nbKey (k : NB) : NestedKey := .tup [.num (k.1 : Nat), .num (if k.2 = true then 1 else 0)]
theorem nbKey_inj {a b : NB} (h : nbKey a = nbKey b) : a = b := by
  obtain ⟨n, x⟩ := a
  obtain ⟨m, y⟩ := b
  unfold nbKey at h
  injection h with h
  injection h with h1 h2
  injection h2 with h2 _
  injection h1 with h1
  injection h2 with h2
  have e : n = m := by
    have q : (n : Int) = (m : Int) := h1
    omega
  subst e
  cases x <;> cases y <;> simp_all
abbrev nbV (k : NB) : List V := [.int (k.1 : Nat), .bl k.2]
section
variable {X : Cx} {pins : List (Addr × Obj)} {σ : L2.St} {H : Hp} {s : Shared}
theorem nb_is (I : Inv X pins σ H s) {a : Addr} {k : NB} (h : SqT X.K H a (nbV k)) : (nestedKind X.prog X.w).is s.heap (nbKey k) a := by
  obtain ⟨its, rv, ⟨o, ho, hc, n, hd⟩, _⟩ := I.tuple h
  obtain ⟨u, v, rfl, ⟨t, rfl⟩, rb⟩ := vals2 rv
  cases rb
  refine ⟨.tup ho hc hd (.cons (.int _ _) (.cons (.bool rfl) .nil)), ?_⟩
  unfold nbKey
  simp [NestedKey.depth, NestedKey.depthAll]
end
/-- the dict at d: its object, kept as it is, and its entries -/
structure KnO (P : Program) (w : World) (K : PySem.W.Frag) (H : Hp) (d : Addr) (kvs : List (NB × V)) (o : Obj) : Prop where
  at_ : H d = some (.ext fun h => h.get? d = some o)
  nsm : (d == sysModules) = false
  ex : o.ExactDict
  nd : (kvs.map (·.1)).Nodup
  en : ∃ (es : Array DictEntry) (ep : Nat) (xs : List (NestedKey × Addr × Value)), o.data = .dict es ep ∧ es.toList = xs.map (entryOfKey (nestedKind P w)) ∧
    All2 (fun (x : NestedKey × Addr × Value) (kv : NB × V) => x.1 = nbKey kv.1 ∧ Tp K H x.2.1 (nbV kv.1) ∧ RelV kv.2 x.2.2) xs kvs
def KnV (P : Program) (w : World) (K : PySem.W.Frag) (H : Hp) (d : Addr) (kvs : List (NB × V)) : Prop := ∃ o, KnO P w K H d kvs o
theorem KnV.ex {P : Program} {w : World} {K : PySem.W.Frag} {H H' : Hp} {d : Addr} {kvs : List (NB × V)} (h : KnV P w K H d kvs) (e : Ex H H') : KnV P w K H' d kvs := by
  obtain ⟨o, h1, h2, h3, h4, es, ep, xs, h5, h6, h7⟩ := h
  exact ⟨o, e _ _ h1, h2, h3, h4, es, ep, xs, h5, h6, h7.mono fun a b ⟨r1, r2, r3⟩ => ⟨r1, r2.mono (.of e), r3⟩⟩
theorem nodup_keys {xs : List (NestedKey × Addr × Value)} {kvs : List (NB × V)} {R : NestedKey × Addr × Value → NB × V → Prop} (h : All2 (fun x kv => x.1 = nbKey kv.1 ∧ R x kv) xs kvs) (hn : (kvs.map (·.1)).Nodup) : (xs.map (·.1)).Nodup := by
  have e : xs.map (·.1) = (kvs.map (·.1)).map nbKey := by
    clear hn
    induction h with
    | nil => rfl
    | cons r _ ih =>
      simp only [List.map_cons]
      rw [ih, r.1]
  rw [e]
  exact hn.map _ (fun a b hab q => hab (nbKey_inj q))
theorem atKey_at {xs : List (NestedKey × Addr × Value)} (hn : (xs.map (·.1)).Nodup) {j : Nat} {x : NestedKey × Addr × Value} (h : xs[j]? = some x) : atKey xs x.1 = some x.2 := by
  induction xs generalizing j with
  | nil => simp at h
  | cons y ys ih =>
    have hn : (y.1 :: ys.map (·.1)).Nodup := hn
    obtain ⟨n1, n2⟩ := List.nodup_cons.mp hn
    unfold atKey
    cases j with
    | zero =>
      simp at h
      subst h
      simp
    | succ j =>
      have hj : ys[j]? = some x := by simpa using h
      have hne : y.1 ≠ x.1 := fun q => n1 (q ▸ List.mem_map.mpr ⟨x, List.mem_of_getElem? hj, rfl⟩)
      rw [List.find?_cons, decide_eq_false hne]
      exact ih n2 hj
theorem atKey_none {xs : List (NestedKey × Addr × Value)} {k : NestedKey} (h : ∀ x ∈ xs, x.1 ≠ k) : atKey xs k = none := by
  unfold atKey
  rw [Option.map_eq_none_iff, List.find?_eq_none]
  intro x hx
  simpa using h x hx
theorem storedAllH_nd : ∀ (ps acc : List (NestedKey × Addr × Value)), ((acc ++ ps).map (·.1)).Nodup → storedAllH acc ps = acc ++ ps
  | [], acc, _ => by show acc = _; simp
  | p :: ps, acc, h => by
    show storedAllH (storedH acc p.1 p.2.1 p.2.2) ps = _
    have hno : atKey acc p.1 = none := atKey_none fun x hx q => by
      rw [List.map_append] at h
      have := (List.nodup_append.mp h).2.2 x.1 (List.mem_map.mpr ⟨x, hx, rfl⟩) p.1 (by simp)
      exact this q
    rw [storedH_new hno]
    have e : acc ++ [(p.1, p.2.1, p.2.2)] ++ ps = acc ++ p :: ps := by simp
    rw [storedAllH_nd ps (acc ++ [(p.1, p.2.1, p.2.2)]) (by rw [e]; exact h), e]
section
variable {X : Cx} {pins : List (Addr × Obj)} {σ : L2.St} {H : Hp} {s : Shared}
theorem KnV.dict {d : Addr} {kvs : List (NB × V)} (h : KnV X.prog X.w X.K H d kvs) (I : Inv X pins σ H s) : ∃ xs, s.heap.DictOfH (nestedKind X.prog X.w) d xs ∧ (d == sysModules) = false ∧ (xs.map (·.1)).Nodup ∧
    All2 (fun (x : NestedKey × Addr × Value) (kv : NB × V) => x.1 = nbKey kv.1 ∧ Tp X.K H x.2.1 (nbV kv.1) ∧ RelV kv.2 x.2.2) xs kvs := by
  obtain ⟨o, h1, h2, h3, h4, es, ep, xs, h5, h6, h7⟩ := h
  have hn := nodup_keys (R := fun x kv => Tp X.K H x.2.1 (nbV kv.1) ∧ RelV kv.2 x.2.2) h7 h4
  refine ⟨xs, ⟨o, es, ep, (I.hok d _ h1).1, h3, h5, h6, fun x hx => ?_, hn⟩, h2, hn, h7⟩
  obtain ⟨kv, _, r1, r2, _⟩ := h7.mem_left hx
  rw [r1]
  exact nb_is I r2.sq
theorem room8 {A : Around} (hu : A.units + 64 < cLine) : (nestedKind X.prog X.w).room A.in1 := by
  show A.units + 1 + 8 < cLine
  omega
theorem room8' {A : Around} (hu : A.units + 64 < cLine) : (nestedKind X.prog X.w).room A.in1.in1 := by
  show A.units + 1 + 1 + 8 < cLine
  omega
/-- known[one] -/
def tKGet (P : Program) (w : World) (K : PySem.W.Frag) (td ty : TE) : TE := fun σ H Q => td σ H fun x H1 => ty σ H1 fun y H2 => ∃ (d ka : Addr) (kvs : List (NB × V)) (k : NB) (v : V) (j : Nat), x = .ref d ∧ KnV P w K H2 d kvs ∧ y = .ref ka ∧ SqT K H2 ka (nbV k) ∧ kvs[j]? = some (k, v) ∧ Q v H2
theorem pe_kgetX {o i : Expr} {td ty : TE} {pos : Pos} (hu : X.A.units + 64 < cLine) (ho : PE X o td) (hi : PE X i ty) (hs : NoSl i) : PE X (.Subscript o i pos) (tKGet X.prog X.w X.K td ty) := by
  refine ⟨fun pins s σ H Q I h => ?_⟩
  refine subD_of PySem.F.slot_dict_getitem.lookup hs (thn (ho.run pins s σ H _ I h) fun u s1 ⟨x, H1, I1, rx, q1⟩ => thn (hi.run pins s1 σ H1 _ I1 q1) fun iv s2 ⟨y, H2, I2, ry, d, ka, kvs, k, v, j, ex, hk, ey, hq, hj, q2⟩ => ?_)
  subst ex ey
  cases rx
  cases ry
  obtain ⟨xs, hd, _, hn, ha⟩ := hk.dict I2
  obtain ⟨x, hx, r1, _, r3⟩ := ha.get' hj
  have hat := atKey_at hn hx
  rw [r1] at hat
  exact ⟨hd.typeIs, wpAny_getItem_heap (room8 hu) (nb_is I2 hq) hd hat ⟨v, H2, I2.tok _, r3, q2⟩⟩
/-- one in known -/
def rKIn (P : Program) (w : World) (K : PySem.W.Frag) : R2 := fun y x H Q => ∃ (d ka : Addr) (kvs : List (NB × V)) (k : NB), y = .ref ka ∧ x = .ref d ∧ KnV P w K H d kvs ∧ SqT K H ka (nbV k) ∧ Q (.bl (decide (k ∈ kvs.map (·.1)))) H
theorem op_kinX (hu : X.A.units + 64 < cLine) : OpR X (compareOp .In) (rKIn X.prog X.w X.K) := by
  intro pins s σ H y x v u Q I ry rx h
  obtain ⟨d, ka, kvs, k, rfl, rfl, hk, hq, q⟩ := h
  cases ry
  cases rx
  obtain ⟨xs, hd, hsm, hn, ha⟩ := hk.dict I
  refine wpAny_in_heap (room8 hu) (nb_is I hq) hsm hd ⟨_, H, I.tok _, ?_, q⟩
  by_cases hm : k ∈ kvs.map (·.1)
  · obtain ⟨kv, hkv, rfl⟩ := List.mem_map.mp hm
    obtain ⟨j, hj⟩ := List.mem_iff_getElem?.mp hkv
    obtain ⟨x, hx, r1, _⟩ := ha.get' hj
    have hat := atKey_at hn hx
    rw [r1] at hat
    rw [hat, decide_eq_true hm]
    rfl
  · rw [atKey_none fun x hx q => ?_, decide_eq_false hm]
    · rfl
    · obtain ⟨kv, hkv, r1, _⟩ := ha.mem_left hx
      rw [r1] at q
      exact hm (List.mem_map.mpr ⟨kv, hkv, nbKey_inj q⟩)
/-- dict([((n, back), v), ..]) -/
def rDictKB (P : Program) (w : World) (K : PySem.W.Frag) : List V → Hp → VK → Prop := fun xs H Q => ∃ (a : Addr) (ps : List Addr) (kvs : List (NB × V)), xs = [.ref a] ∧ SqL K H a (ps.map V.ref) ∧ All2 (fun p (kv : NB × V) => ∃ ka, SqT K H p [.ref ka, kv.2] ∧ Tp K H ka (nbV kv.1)) ps kvs ∧
  (kvs.map (·.1)).Nodup ∧ ∀ d o, H d = none → KnV P w K (upd H d o) d kvs → Q (.ref d) (upd H d o)
theorem kb_of (I : Inv X pins σ H s) : ∀ {ps : List Addr} {kvs : List (NB × V)}, All2 (fun p (kv : NB × V) => ∃ ka, SqT X.K H p [.ref ka, kv.2] ∧ Tp X.K H ka (nbV kv.1)) ps kvs →
    ∃ xs : List (NestedKey × Addr × Value), All2 (fun (x : NestedKey × Addr × Value) (kv : NB × V) => x.1 = nbKey kv.1 ∧ Tp X.K H x.2.1 (nbV kv.1) ∧ RelV kv.2 x.2.2) xs kvs ∧ All2 (fun p (x : NestedKey × Addr × Value) => IsTup s.heap p #[.ref x.2.1, x.2.2]) ps xs
  | _, _, .nil => ⟨[], .nil, .nil⟩
  | _, _, .cons (b := kv) ⟨ka, h1, h2⟩ t => by
    obtain ⟨xs, r, hp⟩ := kb_of I t
    obtain ⟨its, rv, ht, _⟩ := I.tuple h1
    obtain ⟨u, y, ei, ru, ry⟩ := vals2 rv
    subst ei
    cases ru
    exact ⟨(nbKey kv.1, ka, y) :: xs, .cons ⟨rfl, h2, ry⟩ r, .cons ht hp⟩
theorem call_dictKBX (hu : X.A.units + 64 < cLine) (hc : X.calm = true) : CallR X (.type "dict") (rDictKB X.prog X.w X.K) := by
  intro pins s σ H xs us Q I r h
  obtain ⟨a, ps, kvs, rfl, hq, hp, hn, q⟩ := h
  obtain ⟨u, rfl, ru⟩ := vals1 r
  cases ru
  obtain ⟨its, rv, pl, hz⟩ := I.list hq
  have ei := refs_at rv
  subst ei
  obtain ⟨zs, hzk, hzp⟩ := kb_of I hp
  have hnz := nodup_keys (R := fun x kv => Tp X.K H x.2.1 (nbV kv.1) ∧ RelV kv.2 x.2.2) hzk hn
  obtain ⟨o, n, ho, hcl, hd, hdat⟩ := pl
  have lz : zs.length = ps.length := hzp.length.symm
  have pi : PairItems s.heap (ps.map Value.ref).toArray (fun j => ps.getD j 0) (zs.map fun x => (Value.ref x.2.1, x.2.2)) := by
    refine ⟨by simp [lz], fun j k v hj => ?_⟩
    rw [List.getElem?_map] at hj
    cases hzj : zs[j]? with
    | none => rw [hzj] at hj; cases hj
    | some x =>
      rw [hzj] at hj
      cases hj
      obtain ⟨p, hpj, ht⟩ := hzp.get' hzj
      have hg : ps.getD j 0 = p := by rw [List.getD_eq_getElem?_getD, hpj]; rfl
      refine ⟨by simp [hpj], ?_⟩
      show PairAt s.heap (ps.getD j 0) _ _
      rw [hg]
      exact .inl ht
  refine call_dict_pairsH (knd := nestedKind X.prog X.w) (ps := zs) (PairArg.list a (ps.map Value.ref).toArray (fun j => ps.getD j 0) (zs.map fun x => (Value.ref x.2.1, x.2.2))) (I.ok.hd hc) (room8' hu) ⟨⟨o, n, ho, hcl, hd, hdat⟩, pi⟩ ⟨by simp, fun i key v hr => ?_⟩ (fun h' hk x hx => ?_) (by simpa [lz] using hz) fun h' tk hd' hk => ?_
  · have hr : (zs.map fun x => (Value.ref x.2.1, x.2.2))[i]? = some (key, v) := hr
    rw [List.getElem?_map] at hr
    cases hzi : zs[i]? with
    | none => rw [hzi] at hr; cases hr
    | some x =>
      rw [hzi] at hr
      cases hr
      exact ⟨x.1, x.2.1, rfl, rfl⟩
  · obtain ⟨kv, _, r1, r2, _⟩ := hzk.mem_left hx
    have hi := nb_is I r2.sq
    rw [r1]
    exact nestedKind_stays.stays (fun b o' vs m e q => hk b o' (Nat.ne_of_lt (Heap.lt_size e)) (by simp) e) hi
  · rw [storedAllH_nd zs [] (by simpa using hnz), List.nil_append] at hd'
    obtain ⟨ob, es, ep, g1, g2, g3, g4, g5, g6⟩ := hd'
    have hfresh : H s.heap.objs.size = none := I.hok.fresh (Nat.le_refl _)
    have hm : (s.heap.objs.size == sysModules) = false := beq_eq_false_iff_ne.mpr (Nat.ne_of_gt I.big)
    have new : ObjOk X.prog X.w (upd H s.heap.objs.size (.ext fun h => h.get? s.heap.objs.size = some ob)) h' s.heap.objs.size (.ext fun h => h.get? s.heap.objs.size = some ob) := ⟨g1, ⟨ob, g1⟩, fun h1 h2 p k => k _ p⟩
    refine ⟨.ref s.heap.objs.size, _, I.laid (t' := tk) (fun b u e => hk b u (by simp) e) (Nat.le_refl _) new, rfl, q _ _ hfresh ⟨ob, upd_same, hm, g2, hn, es, ep, zs, g3, g4, hzk.mono fun x kv ⟨r1, r2, r3⟩ => ⟨r1, r2.mono (.new hfresh), r3⟩⟩⟩
end
/-- the same over what is fixed -/
theorem pe_kget {X : Cx} {P : Program} {w : World} {K : PySem.W.Frag} {o i : Expr} {td ty : TE} {pos : Pos} {k : Nat} (hr : Room k X.A) (ho : PE X o td) (hi : PE X i ty) (hs : NoSl i) (hP : X.prog = P := by rfl) (hw : X.w = w := by rfl) (hK : X.K = K := by rfl) : PE X (.Subscript o i pos) (tKGet P w K td ty) := by
  subst hP hw hK
  exact pe_kgetX hr.units ho hi hs
theorem op_kin {X : Cx} {P : Program} {w : World} {K : PySem.W.Frag} {k : Nat} (hr : Room k X.A) (hP : X.prog = P := by rfl) (hw : X.w = w := by rfl) (hK : X.K = K := by rfl) : OpR X (compareOp .In) (rKIn P w K) := by
  subst hP hw hK
  exact op_kinX hr.units
theorem call_dictKB {X : Cx} {P : Program} {w : World} {K : PySem.W.Frag} {k : Nat} (hr : Room k X.A) (hc : X.calm = true) (hP : X.prog = P := by rfl) (hw : X.w = w := by rfl) (hK : X.K = K := by rfl) : CallR X (.type "dict") (rDictKB P w K) := by
  subst hP hw hK
  exact call_dictKBX hr.units hc
end GW
set_option Elab.async false
set_option linter.all false
set_option maxRecDepth 100000
set_option maxHeartbeats 4000000
/-! W4: len(set(l)) of a list of unlike texts. -/
namespace GW
open PySem PySem.Spec PyProof.Rows L2 GM
theorem add_take {xs : List Str} {i : Nat} (hn : xs.Nodup) (h : i < xs.length) (k : Str) :
    ((xs.take i).any (· == k) || decide (k = xs.getD i Str.empty)) = (xs.take (i + 1)).any (· == k) ∧ (xs.take i).any (· == xs.getD i Str.empty) = false := by
  have hi : xs[i]? = some xs[i] := List.getElem?_eq_getElem h
  have hd : xs.getD i Str.empty = xs[i] := by rw [List.getD_eq_getElem?_getD, hi]; rfl
  rw [hd, take_snoc hi, List.any_append]
  refine ⟨?_, ?_⟩
  · congr 1
    show decide (k = xs[i]) = ((xs[i] == k) || false)
    rw [Bool.or_false]
    by_cases e : k = xs[i]
    · simp [e]
    · rw [decide_eq_false e]
      exact (beq_eq_false_iff_ne.mpr fun z => e z.symm).symm
  · rw [Bool.eq_false_iff]
    intro z
    obtain ⟨y, hy, e⟩ := List.any_eq_true.mp z
    have e : y = xs[i] := by simpa using e
    obtain ⟨j, hj⟩ := List.mem_iff_getElem?.mp hy
    rw [List.getElem?_take] at hj
    split at hj
    · rename_i hji
      have hjl := (List.getElem?_eq_some_iff.mp hj).1
      have := (List.getElem?_inj (i := j) (j := i) hjl hn).mp (by rw [hj, hi, e])
      omega
    · cases hj
section
variable {prog : Program} {w : World} {A : Around} {R : Result → Shared → Prop} {I : Addr} {fp wr : List Addr} {G : Array GenState → Array GenState → Prop} {n : Nat} {P : Nat → Value → Prop} {St : Nat → Shared → Prop}
/-- the loop that puts unlike texts into a set -/
theorem loop_unlike (W : WalksS prog w A.in1 I fp wr G n P St) (S : Addr) (hSf : S ∉ fp) {xs : List Str} (hsz : xs.length = n) (hu : xs.Nodup) (hn : n + 1 < scanBound)
    (hval : ∀ i v, P i v → ∃ t, v = .str (xs.getD i Str.empty) t) :
    ∀ (k i : Nat) (s : Shared), n - i = k → i ≤ n → St i s →
      s.heap.SetOf (PySem.strKind prog w) S (fun k' => (xs.take i).any (· == k')) i →
      (∀ s', Moved (S :: wr) G s s' → s'.heap.SetOf (PySem.strKind prog w) S (fun k' => (xs.take n).any (· == k')) n → R (.ok (.ret .none)) s') →
      codeAny (model prog w) A (.builtin "set.update.loop" ⟨[.ref S, .ref I], []⟩) R s := by
  have hSw : S ∉ wr := fun h => hSf (W.sub _ h)
  have more : ∀ b ∈ wr, b ∈ S :: wr := fun b hb => List.mem_cons_of_mem _ hb
  intro k
  induction k with
  | zero =>
    intro i s hk hi hst hS hR
    obtain rfl : i = n := by omega
    refine codeAny_builtin PyProof.Rows.F.entry_set_update_loop ?_
    rw [Around.under_plainId PyProof.Rows.F.plain_set_update_loop _]
    show wpAny _ A.in1 (pyNext (.ref I) >>= _) _ _ s
    refine wpAny_bind (W.done s _ _ hst fun s' hm => ?_)
    show wpAny _ A.in1 (ret Value.none) _ _ s'
    obtain ⟨o, es, ep, t, ho, rest⟩ := hS
    exact wpAny_pure (hR s' (hm.mono more) ⟨o, es, ep, t, hm.heap S _ hSw ho, rest⟩)
  | succ k ih =>
    intro i s hk hi hst hS hR
    have hlt : i < n := by omega
    refine codeAny_builtin PyProof.Rows.F.entry_set_update_loop ?_
    rw [Around.under_plainId PyProof.Rows.F.plain_set_update_loop _]
    show wpAny _ A.in1 (pyNext (.ref I) >>= _) _ _ s
    refine wpAny_bind (W.item i s _ _ hlt hst fun v s' hP hst' hm => ?_)
    obtain ⟨t, rfl⟩ := hval i v hP
    have hS' : s'.heap.SetOf (PySem.strKind prog w) S (fun k' => (xs.take i).any (· == k')) i := by
      obtain ⟨o, es, ep, tb, ho, rest⟩ := hS
      exact ⟨o, es, ep, tb, hm.heap S _ hSw ho, rest⟩
    show wpAny _ A.in1 (holding [Value.str (xs.getD i Str.empty) t] (setAdd S (.str (xs.getD i Str.empty) t)) >>= _) _ _ s'
    refine wpAny_bind (wpAny_holding ?_)
    unfold setAdd
    refine wpAny_holding ?_
    refine wpAny_bind ((PySem.strKind prog w).pyHash (k := xs.getD i Str.empty) (strKind_is _ _ _ _) ?_)
    refine wpAny_setAddHashed_of (knd := PySem.strKind prog w) (s := { s' with toks := s'.toks + 1 }) (strKind_is _ _ _ _) rfl hS' (by omega) fun h' hsb hS2 => ?_
    have hSi : h'.SetOf (PySem.strKind prog w) S (fun k' => (xs.take (i + 1)).any (· == k')) (i + 1) :=
      SetOf_congr hS2 (fun k' => (add_take hu (hsz ▸ hlt) k').1) (by rw [(add_take hu (hsz ▸ hlt) Str.empty).2]; rfl)
    refine wpAny_pure ⟨plainId_quiet PyProof.Rows.F.plain_set_update_loop _, ih (i + 1) _ (by omega) hlt (W.frame _ s' _ _ hst' (Nat.le_succ _) fun b hb o e => ?_) hSi fun s'' hm'' hS'' => ?_⟩
    · rw [hsb.2 b (fun h : b = S => hSf (by rw [← h]; exact hb))]; exact e
    · refine hR s'' (Moved.trans W.gtrans ((hm.mono more).then_heap (Nat.le_succ _) fun b o hb e => ?_) hm'') hS''
      rw [hsb.2 b (fun h : b = S => hb (by rw [h]; exact List.mem_cons_self))]; exact e
end
section
variable {prog : Program} {w : World} {A : Around} {E : Value → Shared → Prop} {s : Shared}
/-- set(l), l a list of unlike texts (turned from the library's set of a list of ints) -/
theorem set_unlike {l : Addr} {items : Array Value} {xs : List Str} {Q : Value → Shared → Prop}
    (hh : A.handled = none) (hl : s.heap.IsList l items) (hi : PyProof.Rows.StrsAre items.toList xs) (hu : xs.Nodup) (hb : xs.length + 1 < scanBound)
    (h : ∀ (h' : Heap) (tk : Nat), h'.SetOf (PySem.strKind prog w) s.heap.objs.size (fun k' => (xs.take items.size).any (· == k')) items.size →
      (∀ b o, b < s.heap.objs.size → s.heap.get? b = some o → h'.get? b = some o) → Q (.ref s.heap.objs.size) { s with heap := h', toks := tk }) :
    wpAny (model prog w) A (call (.type "set") [.ref l]) Q E s := by
  obtain ⟨c, tl, hmro⟩ := PySem.F.called_set.mro
  have hmade := PySem.F.called_set.made
  have hsub := PySem.F.called_set.sub
  refine wpAny_call (codeAny_of_tree ?_)
  show wpAny _ _ (callAny (.type "set") _) _ _ _
  refine wpAny_pure ⟨Code.quiet_builtin _ (by decide +kernel), codeAny_builtin PySem.F.entry_type_call ?_⟩
  rw [Around.under_plain (weight_type_call_type "set" [.ref l] []) rfl]
  have h1 := PySem.F.called_set.notType
  have h2 := PySem.F.called_set.canCreate
  have hct := PySem.F.typeCall_set_1 (.ref l)
  repeat (any_goals (first | assumption | wp_step))
  refine codeAny_mono (code_set_new_1 (.ref l) (E := E) (Q₁ := fun obj s₁ => ∃ led : Bool, obj = .ref s.heap.objs.size ∧ s₁ = { s with heap := s.heap.push { cls := .type "set", dict := none, data := .set #[] 0 (.fresh 0 0 led) } }) fun led => ⟨led, rfl, rfl⟩) fun r s₁ hr => ?_
  cases r with
  | error e => exact hr
  | ok fl =>
    cases fl with
    | ret obj =>
      obtain ⟨led, rfl, rfl⟩ := hr
      let N : Obj := { cls := .type "set", dict := none, data := .set #[] 0 (.fresh 0 0 led) }
      have hS : (s.heap.push N).get? s.heap.objs.size = some N := Heap.get?_push_size _ rfl
      have hT : Shared.TypeIs { s with heap := s.heap.push N } (.ref s.heap.objs.size) "set" := ⟨_, hS, rfl⟩
      have hli := PySem.F.called_set.init.lookup
      have hbi := PySem.F.called_set.init.bind (.ref s.heap.objs.size)
      repeat (any_goals (first | assumption | wp_step))
      refine codeAny_mono (codeAny_call_builtin (R := wants (fun r s₂ => r = .none ∧ ∃ h' tk, s₂ = { s with heap := h', toks := tk } ∧
          h'.SetOf (PySem.strKind prog w) s.heap.objs.size (fun k' => (xs.take items.size).any (· == k')) items.size ∧
          (∀ b o, b < s.heap.objs.size → s.heap.get? b = some o → h'.get? b = some o)) E) PySem.F.called_set.init.plain PySem.F.entry_set_init (check_set_init_1 hT ?_)) fun r₂ s₂ hr₂ => ?_
      · obtain ⟨⟨ocls, odict, odata, oslots⟩, hol, hcl, nl, hdl⟩ := hl
        simp only at hcl hdl
        subst hcl; subst hdl
        have hol' : (s.heap.push N).get? l = some { cls := .type "list", dict := odict, data := .seq items nl, slots := oslots } := Heap.get?_push_of_some _ hol
        have hsls := PySem.F.sub_list_set
        have hslf := PySem.F.sub_list_frozenset
        have hne : (Value.type "list" == Value.type "dict") = false := by decide
        have hl1 : (s.heap.push N).IsList l items := ⟨_, hol', rfl, nl, rfl⟩
        unfold Builtin.«set.__init__» noKeywords Builtin.Frozenset.updateFrom
        generalize hPI : pyIter = PI
        wp_walk
        subst hPI
        refine wpAny_pyIter_list hl1 ?_
        refine wpAny_bind (wpAny_runValue ?_)
        have hlS : l < s.heap.objs.size := Heap.lt_size hol
        have hh3 : A.in1.in1.in1.handled = none := by simp [hh]
        have hz : (s.heap.push N).objs.size = s.heap.objs.size + 1 := Heap.size_push ..
        have hneI : l ≠ (s.heap.push N).objs.size := by
          rw [hz]
          exact Nat.ne_of_lt (Nat.lt_succ_of_lt hlS)
        have hSf : s.heap.objs.size ∉ [(s.heap.push N).objs.size, l] := by
          rw [hz]
          simp only [List.mem_cons, List.not_mem_nil, or_false, not_or]
          exact ⟨Nat.ne_of_lt (Nat.lt_succ_self _), Nat.ne_of_gt hlS⟩
        have hsz : xs.length = items.size := by rw [← StrsAre.len_eq hi, Array.length_toList]
        refine loop_unlike ((Walks.list hh3 _ l hneI items).toS) s.heap.objs.size hSf hsz hu (by omega) (fun i v hv => SS.strs_at hi i v (by rw [Array.getElem?_toList]; exact hv)) (items.size - 0) 0 _ (by omega) (Nat.zero_le _)
          ⟨⟨_, Heap.get?_push_size _ rfl, rfl, rfl⟩, (hl1.push _)⟩ ?_ fun s' hm hS' => ?_
        · have hget : ((s.heap.push N).push { cls := .type "list_iterator", data := .fields #[.ref l, .int 0 0] }).get? s.heap.objs.size = some N := Heap.get?_push_of_some _ hS
          exact PyProof.Rows.SetOf_congr ((PyProof.Rows.setObjOf_fresh (knd := PySem.strKind prog w) led).setOf hget (by unfold scanBound; omega)) (fun _ => rfl) rfl
        · obtain ⟨h', g', d', tk', os'⟩ := s'
          have eg : g' = s.gens := hm.gens
          have ed : d' = s.drawn := hm.drawn
          have eo : os' = s.os := hm.os
          subst eg; subst ed; subst eo
          show wpAny _ _ _ _ _ _
          refine wpAny_pure ?_
          show wpAny _ _ (ret Value.none) _ _ _
          refine wpAny_pure ⟨rfl, h', tk', rfl, hS', fun b o hb e => hm.heap b o ?_ (Heap.get?_push_of_some _ (Heap.get?_push_of_some _ e))⟩
          simp only [List.mem_cons, List.not_mem_nil, or_false, not_or]
          rw [hz]
          exact ⟨Nat.ne_of_lt hb, Nat.ne_of_lt (Nat.lt_succ_of_lt hb)⟩
      · cases r₂ with
        | error e => exact hr₂
        | ok fl₂ =>
          cases fl₂ with
          | ret r =>
            obtain ⟨rfl, h', tk, rfl, hS', hk'⟩ := hr₂
            repeat (any_goals (first | assumption | wp_step))
            exact h _ _ hS' hk'
          | _ => exact hr₂.elim
    | _ => exact hr.elim
end
/-- len(set(l)), l a list of unlike texts -/
def tLenSetS (K : PySem.W.Frag) (ta : TE) : TE := fun σ H Q => ta σ H fun x H1 => ∃ l, ∃ xs : List Str, x = .ref l ∧ SqL K H1 l (xs.map V.str) ∧ xs.Nodup ∧ xs.length ≤ 1000 ∧ Q (.int (xs.length : Nat)) H1
theorem pe_lenSetX {X : Cx} {a : Expr} {ta : TE} {p p2 q pos : Pos} (hc : X.calm = true) (hg : Gl X "len") (hm : X.mg "len" = none) (hg2 : Gl X "set") (hm2 : X.mg "set" = none) (ha : PE X a ta)
    (na : starEach [a] X.env = (false, eval a X.env) :: starEach [] X.env := by rfl) : PE X (.Call (.Name "len" p) [.Call (.Name "set" p2) [a] [] q] [] pos) (tLenSetS X.K ta) := by
  refine ⟨fun pins s σ H Q I h => ?_⟩
  refine Call_ (ld_blt I hg hm boot_len ?_)
  refine PyProof.Rows.callWith_builtin1 (PyProof.Rows.args_cons ?_ rfl) rfl rfl
  refine Call_ (ld_blt I hg2 hm2 boot_set ?_)
  refine PyProof.Rows.callWith_type1 (PyProof.Rows.args_cons (thn (ha.run pins s σ H _ I h) fun v s1 ⟨x, H1, I1, r1, l, xs, e, hq, hn, hl, q1⟩ => PyProof.Rows.args_nil ?_) na) na rfl
  subst e
  cases r1
  obtain ⟨its, r, pl, hz⟩ := I1.list hq
  have hsb : (1002 : Nat) ≤ scanBound := by decide
  refine set_unlike (I1.ok.hd hc) pl.isList (by simpa using strsAre_of r) hn (by omega) fun h' tk hS hk => ?_
  refine PyProof.Rows.args_nil ?_
  have hl' : its.toArray.size = xs.length := by rw [List.size_toArray, ← r.length, List.length_map]
  rw [hl'] at hS
  obtain ⟨o, es, ep, t, ho, hex, hd, _, _, _, hf, hnn⟩ := hS
  have I2 : Inv X pins σ H1 { s1 with heap := h', toks := tk } := I1.kept fun b o e => hk b o (Heap.lt_size e) e
  exact call_len_set ho hex hd hf (by rw [hnn]; omega) ⟨.int xs.length, H1, I2.tok _, ⟨_, by rw [hnn]⟩, q1⟩
theorem pe_lenSetS {X : Cx} {K : PySem.W.Frag} {a : Expr} {ta : TE} {p p2 q pos : Pos} (hc : X.calm = true) (hg : Gl X "len") (hm : X.mg "len" = none) (hg2 : Gl X "set") (hm2 : X.mg "set" = none) (ha : PE X a ta)
    (na : starEach [a] X.env = (false, eval a X.env) :: starEach [] X.env := by rfl) (hK : X.K = K := by rfl) : PE X (.Call (.Name "len" p) [.Call (.Name "set" p2) [a] [] q] [] pos) (tLenSetS K ta) := by
  subst hK
  exact pe_lenSetX hc hg hm hg2 hm2 ha na
end GW
set_option Elab.async false
set_option linter.all false
set_option maxRecDepth 100000
set_option maxHeartbeats 4000000
/-! W5: text * number, lists against [], None in a list of lists. -/
namespace GW
open PySem PySem.Spec PyProof.Rows L2 GM
def repS (x : Str) (n : Nat) : Str := if n = 0 then Str.empty else if (n == 1 || x.length == 0) = true then x else ⟨(List.replicate n x.cps).foldl (· ++ ·) #[]⟩
def rMulS : R2 := fun x y H Q => ∃ (s : Str) (n : Nat), x = .str s ∧ y = .int n ∧ n ≤ 1000 ∧ s.length ≤ 1000 ∧ Q (.str (repS s n)) H
section
variable {X : Cx}
theorem op_mul_str : OpR X (binaryOp .Mult) rMulS := by
  intro pins s σ H x y v u Q I rx ry h
  obtain ⟨z, n, rfl, rfl, hn, hz, q⟩ := h
  obtain ⟨t, rfl⟩ := rx
  obtain ⟨t', rfl⟩ := ry
  refine PySem.P.mul_str ?_ (fun _ _ => ?_) (fun _ _ => ?_) ?_
  · have a1 : decide ((n : Int) < -(2 ^ 63 : Int)) = false := decide_eq_false (by omega)
    have a2 : decide ((n : Int) ≥ 2 ^ 63) = false := decide_eq_false (by omega)
    rw [a1, a2]
    rfl
  · rename_i h1 _
    have hn1 : (1 : Int) ≤ n := by omega
    have hd : ((2 : Int) ^ 63 - 1) / 1000 ≤ (2 ^ 63 - 1) / (n : Int) := by
      refine Int.le_ediv_of_mul_le (by omega) ?_
      have : ((2 : Int) ^ 63 - 1) / 1000 * n ≤ (2 ^ 63 - 1) / 1000 * 1000 := Int.mul_le_mul_of_nonneg_left (by omega) (by decide)
      have : ((2 : Int) ^ 63 - 1) / 1000 * 1000 ≤ 2 ^ 63 - 1 := by decide
      omega
    have : (1000 : Int) ≤ ((2 : Int) ^ 63 - 1) / 1000 := by decide
    have : (z.length : Int) ≤ 1000 := by omega
    omega
  · show decide (z.length * (n : Int).toNat > sizeLine) = false
    refine decide_eq_false ?_
    have h1 : z.length * (n : Int).toNat ≤ 1000 * 1000 := Nat.mul_le_mul hz (by omega)
    have h2 : 1000 * 1000 ≤ sizeLine := by decide
    omega
  · by_cases h0 : n = 0
    · subst h0
      rw [if_pos (by decide)]
      exact ⟨by decide, ⟨.str _, H, I.tok _, ⟨_, rfl⟩, q⟩⟩
    · have hne : ¬ ((n : Int) < 1) := by omega
      unfold repS at q
      rw [if_neg h0] at q
      rw [if_neg hne]
      have e1 : ((n : Int) == 1) = (n == 1) := by
        rw [Bool.eq_iff_iff]
        simp
        omega
      rw [e1]
      by_cases hc : (n == 1 || z.length == 0) = true
      · rw [if_pos hc] at q ⊢
        exact ⟨.str z, H, I, ⟨_, rfl⟩, q⟩
      · rw [if_neg hc] at q ⊢
        refine ⟨?_, ⟨.str _, H, I.tok _, ⟨_, rfl⟩, q⟩⟩
        refine fits_reps ?_
        show decide (z.length * (n : Int).toNat > sizeLine) = false
        refine decide_eq_false ?_
        have h1 : z.length * (n : Int).toNat ≤ 1000 * 1000 := Nat.mul_le_mul hz (by omega)
        have h2 : 1000 * 1000 ≤ sizeLine := by decide
        omega
end
/-- a list against the empty list -/
def rEqE (K : PySem.W.Frag) (neg : Bool) : R2 := fun x y H Q => ∃ a b xs, x = .ref a ∧ y = .ref b ∧ SqL K H a xs ∧ SqL K H b [] ∧ Q (.bl (xs.isEmpty != neg)) H
section
variable {X : Cx}
theorem op_eqEX (hu : X.A.units < cLine) : OpR X (compareOp .Eq) (rEqE X.K false) := by
  intro pins s σ H x y v u Q I rx ry h
  obtain ⟨a, b, xs, rfl, rfl, ha, hb, q⟩ := h
  cases rx
  cases ry
  obtain ⟨its, rv, p1, _⟩ := I.list ha
  obtain ⟨its2, rv2, p2, _⟩ := I.list hb
  cases rv2
  cases xs with
  | nil =>
    cases rv
    exact SeqAt.RcAt.lists (e := fun _ => true) p1.isList p2.isList rfl hu (fun j h1 h2 => absurd h1 (by simp)) _ _ _ _ ⟨.bl true, H, I, rfl, q⟩
  | cons z zs =>
    cases rv with
    | cons r rs => exact SeqAt.RcAt.lists_lengths p1.isList p2.isList (by simp) hu _ _ _ _ ⟨.bl false, H, I, rfl, q⟩
theorem op_neEX (hu : X.A.units < cLine) : OpR X (compareOp .NotEq) (rEqE X.K true) := by
  intro pins s σ H x y v u Q I rx ry h
  obtain ⟨a, b, xs, rfl, rfl, ha, hb, q⟩ := h
  cases rx
  cases ry
  obtain ⟨its, rv, p1, _⟩ := I.list ha
  obtain ⟨its2, rv2, p2, _⟩ := I.list hb
  cases rv2
  cases xs with
  | nil =>
    cases rv
    exact SeqAt.RcNeAt.lists (e := fun _ => true) p1.isList p2.isList rfl hu (fun j h1 h2 => absurd h1 (by simp)) _ _ _ _ ⟨.bl false, H, I, rfl, q⟩
  | cons z zs =>
    cases rv with
    | cons r rs => exact SeqAt.RcNeAt.lists_lengths p1.isList p2.isList (by simp) hu _ _ _ _ ⟨.bl true, H, I, rfl, q⟩
/-- None in a list of lists -/
def rNoneInL (K : PySem.W.Frag) : R2 := fun x y H Q => ∃ p xs, x = .non ∧ y = .ref p ∧ SqL K H p xs ∧ (∀ z ∈ xs, ∃ a ys, z = .ref a ∧ SqL K H a ys) ∧ Q (.bl false) H
theorem vals_mem {xs : List V} {us : List Value} (r : Vals xs us) {u : Value} (h : u ∈ us) : ∃ x, x ∈ xs ∧ RelV x u := by
  induction r with
  | nil => exact nomatch h
  | cons r1 _ ih =>
    rcases List.mem_cons.mp h with e | h
    · subst e; exact ⟨_, by simp, r1⟩
    · obtain ⟨x, h1, h2⟩ := ih h
      exact ⟨x, by simp [h1], h2⟩
theorem op_noneInLX (hu : X.A.units + 1 < cLine) : OpR X (compareOp .In) (rNoneInL X.K) := by
  intro pins s σ H x y v u Q I rx ry h
  obtain ⟨p, xs, rfl, rfl, hq, hall, q⟩ := h
  cases rx
  cases ry
  obtain ⟨its, rv, p1, _⟩ := I.list hq
  refine SeqAt.in_listAt (fun _ => false) p1.isList (fun z hz => ?_) ⟨.bl false, H, I, ?_, q⟩
  · obtain ⟨x, hx, r⟩ := vals_mem rv (u := z) (by simpa using hz)
    obtain ⟨a, ys, rfl, ha⟩ := hall x hx
    cases r
    obtain ⟨its2, rv2, p2, _⟩ := I.list ha
    exact SeqAt.EqAt.list_none p2.isList hu
  · show Value.bool _ = Value.bool false
    simp
end
theorem op_eqE {X : Cx} {K : PySem.W.Frag} {k : Nat} (hr : Room k X.A) (hK : X.K = K := by rfl) : OpR X (compareOp .Eq) (rEqE K false) := by
  subst hK
  exact op_eqEX (by have := hr.units; omega)
theorem op_neE {X : Cx} {K : PySem.W.Frag} {k : Nat} (hr : Room k X.A) (hK : X.K = K := by rfl) : OpR X (compareOp .NotEq) (rEqE K true) := by
  subst hK
  exact op_neEX (by have := hr.units; omega)
theorem op_noneInL {X : Cx} {K : PySem.W.Frag} {k : Nat} (hr : Room k X.A) (hK : X.K = K := by rfl) : OpR X (compareOp .In) (rNoneInL K) := by
  subst hK
  exact op_noneInLX (by have := hr.units; omega)
end GW
set_option Elab.async false
set_option linter.all false
set_option maxRecDepth 100000
set_option maxHeartbeats 4000000
/-! W6: list(zip(a, b, c)) of three lists of one length. -/
namespace GW
open PySem PySem.Spec PyProof.Rows L2 GM
theorem zip_nolen : typeLookup (.type "zip") "__len__" = pure none := by rw [typeLookup_type, builtinLookup_eq_fast]; kernel_rfl
theorem zip_nohint : typeLookup (.type "zip") "__length_hint__" = pure none := by rw [typeLookup_type, builtinLookup_eq_fast]; kernel_rfl
/-- three iterators over lists, at i: they stand at N, N+1, N+2, the zip's own tuples at N+3, N+4, the zip at N+5 -/
structure Z3 (h : Heap) (N l1 l2 l3 : Addr) (xs ys zs : Array Value) (i : Nat) : Prop where
  TI : IsTupOf3 h (N + 3) (.ref N) (.ref (N + 1)) (.ref (N + 2))
  i1 : h.IsListIter N l1 i
  i2 : h.IsListIter (N + 1) l2 i
  i3 : h.IsListIter (N + 2) l3 i
  l1 : h.IsList l1 xs
  l2 : h.IsList l2 ys
  l3 : h.IsList l3 zs
/-- all but the zip and its iterators stays -/
def ButZ (N : Addr) (h h' : Heap) : Prop := ∀ c o, c ≠ N + 5 → c ≠ N → c ≠ N + 1 → c ≠ N + 2 → h.get? c = some o → h'.get? c = some o
theorem lt_nat {a N : Addr} (h : a < N) : ∀ k : Nat, a ≠ N + k := fun k => Nat.ne_of_lt (Nat.lt_of_lt_of_le h (Nat.le_add_right N k))
theorem add_ne {N : Addr} {j k : Nat} (h : j ≠ k) : (N + j : Nat) ≠ N + k := fun e => h (Nat.add_left_cancel e)
section
variable {prog : Program} {w : World} {A : Around} {E : Value → Shared → Prop} {s : Shared}
theorem held3_item {N l1 l2 l3 T : Addr} {f : Bool} {oT : Obj} {k : Nat} {xs ys zs : Array Value} {x y v : Value} {Q : Value → Shared → Prop} (a1 : l1 < N) (a2 : l2 < N) (a3 : l3 < N)
    (hz : IsZipHeld s.heap (N + 5) (N + 3) (N + 4) T f) (hT : s.heap.get? T = some oT) (Z : Z3 s.heap N l1 l2 l3 xs ys zs k) (hx : xs[k]? = some x) (hy : ys[k]? = some y) (hv : zs[k]? = some v)
    (hQ : ∀ h', IsZipHeld h' (N + 5) (N + 3) (N + 4) T true → Z3 h' N l1 l2 l3 xs ys zs (k + 1) → IsTupOf3 h' s.heap.objs.size x y v → h'.objs.size = s.heap.objs.size + 1 → ButZ N s.heap h' → Q (.ref s.heap.objs.size) { s with heap := h' }) :
    wpAny (model prog w) A (Builtin.«zip.__next__» ⟨[.ref (N + 5)], []⟩) (fun fin s' => ∃ v, fin = .done (.ret v) ∧ Q v s') E s := by
  have n01 : (N : Nat) ≠ N + 1 := add_ne (j := 0) (by decide)
  have n02 : (N : Nat) ≠ N + 2 := add_ne (j := 0) (by decide)
  have n03 : (N : Nat) ≠ N + 3 := add_ne (j := 0) (by decide)
  have n05 : (N : Nat) ≠ N + 5 := add_ne (j := 0) (by decide)
  have n12 : (N + 1 : Nat) ≠ N + 2 := add_ne (by decide)
  have n13 : (N + 1 : Nat) ≠ N + 3 := add_ne (by decide)
  have n15 : (N + 1 : Nat) ≠ N + 5 := add_ne (by decide)
  have n23 : (N + 2 : Nat) ≠ N + 3 := add_ne (by decide)
  have n25 : (N + 2 : Nat) ≠ N + 5 := add_ne (by decide)
  have n35 : (N + 3 : Nat) ≠ N + 5 := add_ne (by decide)
  have b1 := lt_nat a1
  have b2 := lt_nat a2
  have b3 := lt_nat a3
  show wpAny _ _ (field (.ref (N + 5)) 2 >>= _) _ _ _
  refine wpAny_bind (wpAny_field hz rfl (x := .bool false) rfl ?_)
  show wpAny _ _ (field (.ref (N + 5)) 3 >>= _) _ _ _
  refine wpAny_bind (wpAny_field hz rfl (x := .ref (N + 3)) rfl ?_)
  refine wpAny_bind (wpAny_seqItems Z.TI rfl ?_)
  show wpAny _ _ (Builtin.SmallTypes.ownedTupleIsFree (.ref (N + 5)) >>= _) _ _ _
  refine wpAny_bind (wpAny_tupleHeld_zip hz hT fun h₁ hz₁ hs₁ => ?_)
  simp only [Bool.false_eq_true, if_false]
  refine wpAny_bind ?_
  rw [← Array.forIn_toList]
  simp only [List.forIn_cons, List.forIn_nil]
  refine wpAny_bind (wpAny_bind (wpAny_holding ?_))
  show wpAny _ _ (Builtin.SmallTypes.nextOf (.ref N) >>= _) _ _ _
  refine wpAny_bind (wpAny_nextOf_list_item (s := { s with heap := h₁ }) (Z.i1.extBut hs₁.extBut n05) (Z.l1.extBut hs₁.extBut (b1 5)) hx fun h₂ h1₂ hs₂ => wpAny_pure ?_)
  refine wpAny_pure ?_
  refine wpAny_bind (wpAny_bind (wpAny_holding ?_))
  show wpAny _ _ (Builtin.SmallTypes.nextOf (.ref (N + 1)) >>= _) _ _ _
  refine wpAny_bind (wpAny_nextOf_list_item (s := { s with heap := h₂ }) ((Z.i2.extBut hs₁.extBut n15).extBut hs₂.extBut n01.symm) ((Z.l2.extBut hs₁.extBut (b2 5)).extBut hs₂.extBut (b2 0)) hy fun h₃ h2₃ hs₃ => wpAny_pure ?_)
  refine wpAny_pure ?_
  refine wpAny_bind (wpAny_bind (wpAny_holding ?_))
  show wpAny _ _ (Builtin.SmallTypes.nextOf (.ref (N + 2)) >>= _) _ _ _
  refine wpAny_bind (wpAny_nextOf_list_item (s := { s with heap := h₃ }) (((Z.i3.extBut hs₁.extBut n25).extBut hs₂.extBut n02.symm).extBut hs₃.extBut n12.symm) (((Z.l3.extBut hs₁.extBut (b3 5)).extBut hs₂.extBut (b3 0)).extBut hs₃.extBut (b3 1)) hv fun h₄ h3₄ hs₄ => wpAny_pure ?_)
  refine wpAny_pure (wpAny_pure ?_)
  show wpAny _ _ (newTuple [x, y, v] >>= _) _ _ _
  refine wpAny_bind (wpAny_newTuple ?_)
  have hsz : h₄.objs.size = s.heap.objs.size := by rw [hs₄.1, hs₃.1, hs₂.1, hs₁.1]
  have hk : ButZ N s.heap h₄ := fun c o c1 c2 c3 c4 e => hs₄.extBut _ _ c4 (hs₃.extBut _ _ c3 (hs₂.extBut _ _ c2 (hs₁.extBut _ _ c1 e)))
  have hz₄ : IsZipHeld h₄ (N + 5) (N + 3) (N + 4) T true := hs₄.extBut _ _ n25.symm (hs₃.extBut _ _ n15.symm (hs₂.extBut _ _ n05.symm hz₁))
  have i1₄ : h₄.IsListIter N l1 (k + 1) := (h1₂.extBut hs₃.extBut n01).extBut hs₄.extBut n02
  have i2₄ : h₄.IsListIter (N + 1) l2 (k + 1) := h2₃.extBut hs₄.extBut n12
  refine wpAny_pure ⟨_, rfl, ?_⟩
  show Q (.ref h₄.objs.size) _
  have hp : IsTupOf3 (h₄.push { cls := .type "tuple", data := .seq #[x, y, v] }) h₄.objs.size x y v := Heap.get?_push_size _ rfl
  have hz4 : (h₄.push { cls := .type "tuple", data := .seq #[x, y, v] }).objs.size = h₄.objs.size + 1 := Heap.size_push ..
  rw [hsz] at hp hz4 ⊢
  have up : ∀ c o, h₄.get? c = some o → (h₄.push { cls := .type "tuple", data := .seq #[x, y, v] }).get? c = some o := fun c o e => Heap.get?_push_of_some _ e
  refine hQ _ (up _ _ hz₄) ⟨up _ _ (hk _ _ n35 n03.symm n13.symm n23.symm Z.TI), i1₄.at fun o e => up _ _ e, i2₄.at fun o e => up _ _ e, h3₄.at fun o e => up _ _ e, ?_, ?_, ?_⟩ hp hz4 fun c o c1 c2 c3 c4 e => up _ _ (hk c o c1 c2 c3 c4 e)
  · obtain ⟨o, e, r⟩ := Z.l1
    exact ⟨o, up _ _ (hk _ _ (b1 5) (b1 0) (b1 1) (b1 2) e), r⟩
  · obtain ⟨o, e, r⟩ := Z.l2
    exact ⟨o, up _ _ (hk _ _ (b2 5) (b2 0) (b2 1) (b2 2) e), r⟩
  · obtain ⟨o, e, r⟩ := Z.l3
    exact ⟨o, up _ _ (hk _ _ (b3 5) (b3 0) (b3 1) (b3 2) e), r⟩
theorem held3_end {N l1 l2 l3 T : Addr} {f : Bool} {oT : Obj} {k : Nat} {xs ys zs : Array Value} {Q : PySem.Fin → Shared → Prop} (hh : A.handled = none) (a1 : l1 < N)
    (hz : IsZipHeld s.heap (N + 5) (N + 3) (N + 4) T f) (hT : s.heap.get? T = some oT) (Z : Z3 s.heap N l1 l2 l3 xs ys zs k) (hx : xs[k]? = none)
    (hE : ∀ h' e, ButZ N s.heap h' → (∃ o, h'.get? e = some o ∧ o.cls = .type "StopIteration") → E (.ref e) { s with heap := h' }) :
    wpAny (model prog w) A (Builtin.«zip.__next__» ⟨[.ref (N + 5)], []⟩) Q E s := by
  have n05 : (N : Nat) ≠ N + 5 := add_ne (j := 0) (by decide)
  have b1 := lt_nat a1
  show wpAny _ _ (field (.ref (N + 5)) 2 >>= _) _ _ _
  refine wpAny_bind (wpAny_field hz rfl (x := .bool false) rfl ?_)
  show wpAny _ _ (field (.ref (N + 5)) 3 >>= _) _ _ _
  refine wpAny_bind (wpAny_field hz rfl (x := .ref (N + 3)) rfl ?_)
  refine wpAny_bind (wpAny_seqItems Z.TI rfl ?_)
  show wpAny _ _ (Builtin.SmallTypes.ownedTupleIsFree (.ref (N + 5)) >>= _) _ _ _
  refine wpAny_bind (wpAny_tupleHeld_zip hz hT fun h₁ hz₁ hs₁ => ?_)
  simp only [Bool.false_eq_true, if_false]
  refine wpAny_bind ?_
  rw [← Array.forIn_toList]
  simp only [List.forIn_cons, List.forIn_nil]
  refine wpAny_bind (wpAny_bind (wpAny_holding ?_))
  show wpAny _ _ (Builtin.SmallTypes.nextOf (.ref N) >>= _) _ _ _
  refine wpAny_bind (wpAny_nextOf_list_end (s := { s with heap := h₁ }) hh (Z.i1.extBut hs₁.extBut n05) (Z.l1.extBut hs₁.extBut (b1 5)) hx fun h₂ e hs₂ he => ?_)
  exact hE h₂ e (fun c o c1 c2 _ _ x => hs₂ _ _ c2 (hs₁.extBut _ _ c1 x)) he
theorem next3_item {N l1 l2 l3 T : Addr} {f : Bool} {oT : Obj} {k : Nat} {xs ys zs : Array Value} {x y v : Value} {Q : Option Value → Shared → Prop} (a1 : l1 < N) (a2 : l2 < N) (a3 : l3 < N)
    (hz : IsZipHeld s.heap (N + 5) (N + 3) (N + 4) T f) (hT : s.heap.get? T = some oT) (Z : Z3 s.heap N l1 l2 l3 xs ys zs k) (hx : xs[k]? = some x) (hy : ys[k]? = some y) (hv : zs[k]? = some v)
    (hQ : ∀ h', IsZipHeld h' (N + 5) (N + 3) (N + 4) T true → Z3 h' N l1 l2 l3 xs ys zs (k + 1) → IsTupOf3 h' s.heap.objs.size x y v → h'.objs.size = s.heap.objs.size + 1 → ButZ N s.heap h' → Q (some (.ref s.heap.objs.size)) { s with heap := h' }) :
    wpAny (model prog w) A (pyNext (.ref (N + 5))) Q E s := by
  have hTy : s.TypeIs (.ref (N + 5)) "zip" := ⟨_, hz, rfl⟩
  unfold pyNext
  exact wpAny_bind (wpAny_attempt (wpAny_callSpecial?_slot (name := Str.ofString "__next__") hTy F.slot_zip_next
    (wpAny_call_entry F.slot_zip_next hTy F.entry_zip_next
      (held3_item a1 a2 a3 hz hT Z hx hy hv fun h' c1 c2 c3 c4 c5 => wpAny_pure (hQ h' c1 c2 c3 c4 c5)) (F.args_zip_next_1 _))))
theorem next3_end {N l1 l2 l3 T : Addr} {f : Bool} {oT : Obj} {k : Nat} {xs ys zs : Array Value} {Q : Option Value → Shared → Prop} (hh : A.handled = none) (a1 : l1 < N)
    (hz : IsZipHeld s.heap (N + 5) (N + 3) (N + 4) T f) (hT : s.heap.get? T = some oT) (Z : Z3 s.heap N l1 l2 l3 xs ys zs k) (hx : xs[k]? = none)
    (hQ : ∀ h', ButZ N s.heap h' → Q none { s with heap := h' }) : wpAny (model prog w) A (pyNext (.ref (N + 5))) Q E s := by
  have hTy : s.TypeIs (.ref (N + 5)) "zip" := ⟨_, hz, rfl⟩
  unfold pyNext
  refine wpAny_bind (wpAny_attempt (wpAny_callSpecial?_slot (name := Str.ofString "__next__") hTy F.slot_zip_next
    (wpAny_call_entry F.slot_zip_next hTy F.entry_zip_next (held3_end hh a1 hz hT Z hx fun h' e hk he => ?_) (F.args_zip_next_1 _))))
  obtain ⟨o, ho, hc⟩ := he
  refine wpAny_bind (wpAny_isInstance (T := "StopIteration") (b := true) ⟨o, ho, hc⟩ isSubtype_stop ?_)
  exact wpAny_pure (hQ _ hk)
/-- what the list has got: new tuples, in their order -/
structure Got (h : Heap) (N : Addr) (xs ys zs : Array Value) (ts : List Addr) : Prop where
  nd : ts.Nodup
  ge : ∀ t ∈ ts, N + 7 ≤ t
  at_ : ∀ (j : Nat) t, ts[j]? = some t → ∃ x y z, xs[j]? = some x ∧ ys[j]? = some y ∧ zs[j]? = some z ∧ IsTupOf3 h t x y z
theorem Got.lt {h : Heap} {N : Addr} {xs ys zs : Array Value} {ts : List Addr} (g : Got h N xs ys zs ts) : ∀ t ∈ ts, t < h.objs.size := fun t ht => by
  obtain ⟨j, hj⟩ := List.mem_iff_getElem?.mp ht
  obtain ⟨x, y, z, _, _, _, e⟩ := g.at_ j t hj
  exact Heap.lt_size e
theorem Got.keep {h h' : Heap} {N : Addr} {xs ys zs : Array Value} {ts : List Addr} (g : Got h N xs ys zs ts) (k : ∀ b o, N + 7 ≤ b → h.get? b = some o → h'.get? b = some o) : Got h' N xs ys zs ts :=
  ⟨g.nd, g.ge, fun j t ht => by
    obtain ⟨x, y, z, a1, a2, a3, e⟩ := g.at_ j t ht
    exact ⟨x, y, z, a1, a2, a3, k _ _ (g.ge t (List.mem_of_getElem? ht)) e⟩⟩
theorem Got.more {h h' : Heap} {N : Addr} {xs ys zs : Array Value} {ts : List Addr} {x y z : Value} {i : Nat} (g : Got h N xs ys zs ts) (k : ∀ b o, N + 7 ≤ b → h.get? b = some o → h'.get? b = some o) (hi : ts.length = i) (hN : N + 7 ≤ h.objs.size)
    (e1 : xs[i]? = some x) (e2 : ys[i]? = some y) (e3 : zs[i]? = some z) (ht : IsTupOf3 h' h.objs.size x y z) : Got h' N xs ys zs (ts ++ [h.objs.size]) := by
  refine ⟨List.nodup_append.mpr ⟨g.nd, by simp, fun a ha b hb q => ?_⟩, fun t hm => ?_, fun j t hj => ?_⟩
  · rw [List.mem_singleton.mp hb] at q
    exact absurd (g.lt a ha) (by rw [q]; exact Nat.lt_irrefl _)
  · rcases List.mem_append.mp hm with q | q
    · exact g.ge t q
    · rw [List.mem_singleton.mp q]; exact hN
  · by_cases c : j < ts.length
    · rw [List.getElem?_append_left c] at hj
      exact (g.keep k).at_ j t hj
    · rw [List.getElem?_append_right (by omega)] at hj
      have h0 : j - ts.length = 0 := by
        have := (List.getElem?_eq_some_iff.mp hj).1
        simp at this
        omega
      rw [h0] at hj
      simp at hj
      subst hj
      have : j = i := by omega
      subst this
      exact ⟨x, y, z, e1, e2, e3, ht⟩
abbrev listAt (h : Heap) (S : Addr) (ts : List Addr) (c : Nat) : Prop := h.get? S = some { cls := .type "list", dict := none, data := .seq (ts.map Value.ref).toArray c, slots := #[] }
theorem loop3 {R : Result → Shared → Prop} {N l1 l2 l3 : Addr} {xs ys zs : Array Value} {n : Nat} (hn : n ≤ 1000) (hxs : xs.size = n) (hys : ys.size = n) (hzs : zs.size = n) (a1 : l1 < N) (a2 : l2 < N) (a3 : l3 < N) (hh : A.handled = none) (res : Value) :
    ∀ (k i : Nat) (s : Shared) (ts : List Addr) (c : Nat) (T : Addr) (f : Bool) (oT : Obj), n - i = k → i ≤ n → IsZipHeld s.heap (N + 5) (N + 3) (N + 4) T f → s.heap.get? T = some oT → N + 7 ≤ T → Z3 s.heap N l1 l2 l3 xs ys zs i →
      listAt s.heap (N + 6) ts c → Got s.heap N xs ys zs ts → ts.length = i →
      (∀ h' tk ts' c', (∀ b o, b < N → s.heap.get? b = some o → h'.get? b = some o) → listAt h' (N + 6) ts' c' → Got h' N xs ys zs ts' → ts'.length = n → R (.ok (.ret res)) { s with heap := h', toks := tk }) →
      codeAny (model prog w) A (.builtin "list.extend.loop" ⟨[.ref (N + 6), .ref (N + 5), res], []⟩) R s := by
  have n60 : (N + 6 : Nat) ≠ N := add_ne (k := 0) (by decide)
  have n61 : (N + 6 : Nat) ≠ N + 1 := add_ne (by decide)
  have n62 : (N + 6 : Nat) ≠ N + 2 := add_ne (by decide)
  have n63 : (N + 6 : Nat) ≠ N + 3 := add_ne (by decide)
  have n65 : (N + 6 : Nat) ≠ N + 5 := add_ne (by decide)
  have far : ∀ {b : Addr}, N + 7 ≤ b → ∀ j : Nat, j < 7 → b ≠ N + j := fun {b} hb j hj e => absurd (Nat.le_of_add_le_add_left (show N + 7 ≤ N + j from e ▸ hb)) (Nat.not_le_of_lt hj)
  have near : ∀ {b : Addr}, b < N → ∀ j : Nat, b ≠ N + j := fun h j => lt_nat h j
  intro k
  induction k with
  | zero =>
    intro i s ts c T f oT hk hi hz hT hTN Z hS g hl hR
    obtain rfl : i = n := by omega
    refine codeAny_builtin PySem.F.entry_extend_loop ?_
    rw [Around.under_plainId PySem.F.plain_extend_loop _]
    show wpAny _ A.in1 (pyNext (.ref (N + 5)) >>= _) _ _ s
    refine wpAny_bind (next3_end hh a1 hz hT Z (by rw [Array.getElem?_eq_none (by omega)]) fun h' hk' => ?_)
    exact wpAny_pure (hR h' s.toks ts c (fun b o hb e => hk' b o (near hb 5) (near hb 0) (near hb 1) (near hb 2) e) (hk' _ _ n65 n60 n61 n62 hS) (g.keep fun b o hb e => hk' b o (far hb 5 (by decide)) (far hb 0 (by decide)) (far hb 1 (by decide)) (far hb 2 (by decide)) e) hl)
  | succ k ih =>
    intro i s ts c T f oT hk hi hz hT hTN Z hS g hl hR
    have hlt : i < n := by omega
    obtain ⟨x, hx⟩ : ∃ x, xs[i]? = some x := ⟨_, Array.getElem?_eq_getElem (by omega)⟩
    obtain ⟨y, hy⟩ : ∃ x, ys[i]? = some x := ⟨_, Array.getElem?_eq_getElem (by omega)⟩
    obtain ⟨v, hv⟩ : ∃ x, zs[i]? = some x := ⟨_, Array.getElem?_eq_getElem (by omega)⟩
    refine codeAny_builtin PySem.F.entry_extend_loop ?_
    rw [Around.under_plainId PySem.F.plain_extend_loop _]
    show wpAny _ A.in1 (pyNext (.ref (N + 5)) >>= _) _ _ s
    refine wpAny_bind (next3_item a1 a2 a3 hz hT Z hx hy hv fun h₁ hz₁ Z₁ ht₁ hsz₁ hk₁ => ?_)
    have hS₁ : listAt h₁ (N + 6) ts c := hk₁ _ _ n65 n60 n61 n62 hS
    have kf : ∀ b o, N + 7 ≤ b → s.heap.get? b = some o → h₁.get? b = some o := fun b o hb e => hk₁ b o (far hb 5 (by decide)) (far hb 0 (by decide)) (far hb 1 (by decide)) (far hb 2 (by decide)) e
    have hN7 : N + 7 ≤ s.heap.objs.size := Nat.le_trans hTN (Nat.le_of_lt (Heap.lt_size hT))
    have g₁ := g.more kf hl hN7 hx hy hv ht₁
    show wpAny _ A.in1 (updateSeq (N + 6) (·.push (.ref s.heap.objs.size)) >>= _) _ _ _
    refine wpAny_bind ?_
    have us : (ts.map Value.ref).toArray.size = i := by simp [hl]
    refine wpAny_updateSeq hS₁ rfl (wpAny_pure ⟨plainId_quiet PySem.F.plain_extend_loop _, ?_⟩) (by rw [us]; exact Nat.le_trans (Nat.le_of_lt hlt) (Nat.le_trans hn (by decide))) (by show ((ts.map Value.ref).toArray.push _).size ≤ sizeLine + 1; rw [Array.size_push, us]; exact Nat.le_trans (show i + 1 ≤ 1001 by omega) (by decide))
    have oth : ∀ b o, b ≠ N + 6 → h₁.get? b = some o → (h₁.update (N + 6) (Obj.mapSeq (·.push (Value.ref s.heap.objs.size)))).get? b = some o := fun b o hb e => (Heap.get?_update_other _ _ (Ne.symm hb)).trans e
    obtain ⟨c2, hS₂⟩ : ∃ c2, listAt (h₁.update (N + 6) (Obj.mapSeq (·.push (Value.ref s.heap.objs.size)))) (N + 6) (ts ++ [s.heap.objs.size]) c2 := by
      have q := Heap.get?_update_self (Obj.mapSeq (·.push (Value.ref s.heap.objs.size))) hS₁ rfl
      have e : ((ts.map Value.ref).toArray.push (Value.ref s.heap.objs.size)) = ((ts ++ [s.heap.objs.size]).map Value.ref).toArray := by simp
      obtain ⟨c2, q2⟩ : ∃ c2, (h₁.update (N + 6) (Obj.mapSeq (·.push (Value.ref s.heap.objs.size)))).get? (N + 6) = some { cls := .type "list", dict := none, data := .seq ((ts.map Value.ref).toArray.push (Value.ref s.heap.objs.size)) c2, slots := #[] } := ⟨_, q⟩
      rw [e] at q2
      exact ⟨c2, q2⟩
    refine ih (i + 1) _ (ts ++ [s.heap.objs.size]) _ T true oT (by omega) hlt (oth _ _ n65.symm hz₁) (oth _ _ (far hTN 6 (by decide)) (kf _ _ hTN hT)) hTN ?_ hS₂ (g₁.keep fun b o hb e => oth b o (far hb 6 (by decide)) e) (by simp [hl]) fun h' tk ts' c' hk' hS' g' hl' => ?_
    · refine ⟨oth _ _ n63.symm Z₁.TI, Z₁.i1.at fun o e => oth _ _ n60.symm e, Z₁.i2.at fun o e => oth _ _ n61.symm e, Z₁.i3.at fun o e => oth _ _ n62.symm e, ?_, ?_, ?_⟩
      · obtain ⟨o, e, r⟩ := Z₁.l1
        exact ⟨o, oth _ _ (near a1 6) e, r⟩
      · obtain ⟨o, e, r⟩ := Z₁.l2
        exact ⟨o, oth _ _ (near a2 6) e, r⟩
      · obtain ⟨o, e, r⟩ := Z₁.l3
        exact ⟨o, oth _ _ (near a3 6) e, r⟩
    · refine hR h' tk ts' c' (fun b o hb e => hk' b o hb (oth b o (near hb 6) ?_)) hS' g' hl'
      exact hk₁ b o (near hb 5) (near hb 0) (near hb 1) (near hb 2) e
theorem hint_zip {r : Addr} {Q : Bool → Shared → Prop} (hT : s.TypeIs (.ref r) "zip") (h : Q true s) : wpAny (model prog w) A (Builtin.List.listLengthHint (.ref r)) Q E s := by
  unfold Builtin.List.listLengthHint
  refine wpAny_bind (wpAny_specialOf hT zip_nolen ?_)
  show wpAny _ A (specialOf (Value.ref r) (Str.ofString "__length_hint__") >>= _) _ _ _
  refine wpAny_bind (wpAny_specialOf hT zip_nohint ?_)
  exact wpAny_pure h
/-- the zip has begun: nothing drawn yet -/
structure Z0 (h : Heap) (N l1 l2 l3 : Addr) (xs ys zs : Array Value) : Prop where
  z : IsZip h (N + 5) (N + 3) (N + 4) .none
  TO : ∃ x y v, IsTupOf3 h (N + 4) x y v
  Z : Z3 h N l1 l2 l3 xs ys zs 0
theorem Z0.keep {h h' : Heap} {N l1 l2 l3 : Addr} {xs ys zs : Array Value} (z : Z0 h N l1 l2 l3 xs ys zs) (k : ∀ b o, b < N + 6 → h.get? b = some o → h'.get? b = some o) (a1 : l1 < N) (a2 : l2 < N) (a3 : l3 < N) : Z0 h' N l1 l2 l3 xs ys zs := by
  have lt : ∀ j, j < 6 → (N + j : Nat) < N + 6 := fun j hj => Nat.add_lt_add_left hj N
  have l6 : ∀ {b : Addr}, b < N → b < N + 6 := fun h => Nat.lt_of_lt_of_le h (Nat.le_add_right _ _)
  obtain ⟨x, y, v, hTO⟩ := z.TO
  refine ⟨k _ _ (lt 5 (by decide)) z.z, ⟨x, y, v, k _ _ (lt 4 (by decide)) hTO⟩, k _ _ (lt 3 (by decide)) z.Z.TI, z.Z.i1.at fun o e => k _ _ (lt 0 (by decide)) e, z.Z.i2.at fun o e => k _ _ (lt 1 (by decide)) e, z.Z.i3.at fun o e => k _ _ (lt 2 (by decide)) e, ?_, ?_, ?_⟩
  · obtain ⟨o, e, r⟩ := z.Z.l1
    exact ⟨o, k _ _ (l6 a1) e, r⟩
  · obtain ⟨o, e, r⟩ := z.Z.l2
    exact ⟨o, k _ _ (l6 a2) e, r⟩
  · obtain ⟨o, e, r⟩ := z.Z.l3
    exact ⟨o, k _ _ (l6 a3) e, r⟩
/-- the loop's first turn, then the others -/
theorem loop3_begin {R : Result → Shared → Prop} {N l1 l2 l3 : Addr} {xs ys zs : Array Value} {n c : Nat} (hn0 : 0 < n) (hn : n ≤ 1000) (hxs : xs.size = n) (hys : ys.size = n) (hzs : zs.size = n) (a1 : l1 < N) (a2 : l2 < N) (a3 : l3 < N) (hh : A.handled = none) (res : Value)
    (hz : Z0 s.heap N l1 l2 l3 xs ys zs) (hS : listAt s.heap (N + 6) [] c) (hsz : s.heap.objs.size = N + 7)
    (hR : ∀ h' tk ts' c', (∀ b o, b < N → s.heap.get? b = some o → h'.get? b = some o) → listAt h' (N + 6) ts' c' → Got h' N xs ys zs ts' → ts'.length = n → R (.ok (.ret res)) { s with heap := h', toks := tk }) :
    codeAny (model prog w) A (.builtin "list.extend.loop" ⟨[.ref (N + 6), .ref (N + 5), res], []⟩) R s := by
  obtain ⟨hz, ⟨x0, y0, v0, hTO⟩, Z⟩ := hz
  have n60 : (N + 6 : Nat) ≠ N := add_ne (k := 0) (by decide)
  have n61 : (N + 6 : Nat) ≠ N + 1 := add_ne (by decide)
  have n62 : (N + 6 : Nat) ≠ N + 2 := add_ne (by decide)
  have n63 : (N + 6 : Nat) ≠ N + 3 := add_ne (by decide)
  have n64 : (N + 6 : Nat) ≠ N + 4 := add_ne (by decide)
  have n65 : (N + 6 : Nat) ≠ N + 5 := add_ne (by decide)
  have n30 : (N + 3 : Nat) ≠ N := add_ne (k := 0) (by decide)
  have n31 : (N + 3 : Nat) ≠ N + 1 := add_ne (by decide)
  have n32 : (N + 3 : Nat) ≠ N + 2 := add_ne (by decide)
  have n34 : (N + 3 : Nat) ≠ N + 4 := add_ne (by decide)
  have n35 : (N + 3 : Nat) ≠ N + 5 := add_ne (by decide)
  have far : ∀ {b : Addr}, N + 7 ≤ b → ∀ j : Nat, j < 7 → b ≠ N + j := fun {b} hb j hj e => absurd (Nat.le_of_add_le_add_left (show N + 7 ≤ N + j from e ▸ hb)) (Nat.not_le_of_lt hj)
  have near : ∀ {b : Addr}, b < N → ∀ j : Nat, b ≠ N + j := fun h j => lt_nat h j
  have S3 : ZipSep3 (N + 5) (N + 3) (N + 4) N (N + 1) (N + 2) [N, l1] [N + 1, l2] [N + 2, l3] := zip_sep3 (N := N) (fp1 := [l1]) (fp2 := [l2]) (fp3 := [l3]) (by simpa using a1) (by simpa using a2) (by simpa using a3)
  refine codeAny_builtin PySem.F.entry_extend_loop ?_
  rw [Around.under_plainId PySem.F.plain_extend_loop _]
  show wpAny _ A.in1 (pyNext (.ref (N + 5)) >>= _) _ _ s
  have hh1 : A.in1.in1.handled = none := hh
  refine wpAny_bind (wpAny_pyNext_zipD3_item S3 (Draws.list hh1 N l1 (near a1 0) xs) (Draws.list hh1 (N + 1) l2 (near a2 1) ys) (Draws.list hh1 (N + 2) l3 (near a3 2) zs) hz Z.TI hTO ⟨Z.i1, Z.l1⟩ ⟨Z.i2, Z.l2⟩ ⟨Z.i3, Z.l3⟩ (by rw [hxs]; exact hn0) (by rw [hys]; exact hn0) (by rw [hzs]; exact hn0) fun x y v h₁ tk hx hy hv hz₁ hTO₁ d1 d2 d3 ht₁ hs₁ hk₁ => ?_)
  have hS₁ : listAt h₁ (N + 6) [] c := hk₁ _ _ n65 n64 n60 n61 n62 hS
  show wpAny _ A.in1 (updateSeq (N + 6) (·.push (.ref s.heap.objs.size)) >>= _) _ _ _
  refine wpAny_bind ?_
  refine wpAny_updateSeq hS₁ rfl (wpAny_pure ⟨plainId_quiet PySem.F.plain_extend_loop _, ?_⟩) (by decide) (by show 1 ≤ sizeLine + 1; decide)
  have oth : ∀ b o, b ≠ N + 6 → h₁.get? b = some o → (h₁.update (N + 6) (Obj.mapSeq (·.push (Value.ref s.heap.objs.size)))).get? b = some o := fun b o hb e => (Heap.get?_update_other _ _ (Ne.symm hb)).trans e
  obtain ⟨c2, hS₂⟩ : ∃ c2, listAt (h₁.update (N + 6) (Obj.mapSeq (·.push (Value.ref s.heap.objs.size)))) (N + 6) [s.heap.objs.size] c2 := ⟨_, Heap.get?_update_self (Obj.mapSeq (·.push (Value.ref s.heap.objs.size))) hS₁ rfl⟩
  have hTN : N + 7 ≤ s.heap.objs.size := by rw [hsz]; exact Nat.le_refl _
  have g0 : Got s.heap N xs ys zs [] := ⟨List.nodup_nil, (by simp), (by simp)⟩
  have kf : ∀ b o, N + 7 ≤ b → s.heap.get? b = some o → h₁.get? b = some o := fun b o hb e => hk₁ b o (far hb 5 (by decide)) (far hb 4 (by decide)) (far hb 0 (by decide)) (far hb 1 (by decide)) (far hb 2 (by decide)) e
  have g₁ : Got h₁ N xs ys zs [s.heap.objs.size] := g0.more kf rfl hTN hx hy hv ht₁
  refine loop3 hn hxs hys hzs a1 a2 a3 hh res (n - 1) 1 _ [s.heap.objs.size] _ s.heap.objs.size false _ rfl hn0 (oth _ _ n65.symm hz₁) (oth _ _ (far hTN 6 (by decide)) ht₁) hTN ?_ hS₂ (g₁.keep fun b o hb e => oth b o (far hb 6 (by decide)) e) rfl fun h' tk' ts' c' hk' hS' g' hl' => ?_
  · refine ⟨oth _ _ n63.symm (hk₁ _ _ n35 n34 n30 n31 n32 Z.TI), d1.1.at fun o e => oth _ _ n60.symm e, d2.1.at fun o e => oth _ _ n61.symm e, d3.1.at fun o e => oth _ _ n62.symm e, ?_, ?_, ?_⟩
    · obtain ⟨o, e, r⟩ := d1.2
      exact ⟨o, oth _ _ (near a1 6) e, r⟩
    · obtain ⟨o, e, r⟩ := d2.2
      exact ⟨o, oth _ _ (near a2 6) e, r⟩
    · obtain ⟨o, e, r⟩ := d3.2
      exact ⟨o, oth _ _ (near a3 6) e, r⟩
  · refine hR h' tk' ts' c' (fun b o hb e => hk' b o hb (oth b o (near hb 6) ?_)) hS' g' hl'
    exact hk₁ b o (near hb 5) (near hb 4) (near hb 0) (near hb 1) (near hb 2) e
/-- list(z) -/
theorem call_list_zip3 {Q : Value → Shared → Prop} {N l1 l2 l3 : Addr} {xs ys zs : Array Value} {n : Nat} (hn0 : 0 < n) (hn : n ≤ 1000) (hxs : xs.size = n) (hys : ys.size = n) (hzs : zs.size = n) (a1 : l1 < N) (a2 : l2 < N) (a3 : l3 < N) (hh : A.handled = none)
    (hz : Z0 s.heap N l1 l2 l3 xs ys zs) (hsz : s.heap.objs.size = N + 6)
    (hQ : ∀ h' tk ts' c', (∀ b o, b < N → s.heap.get? b = some o → h'.get? b = some o) → listAt h' (N + 6) ts' c' → Got h' N xs ys zs ts' → ts'.length = n → Q (.ref (N + 6)) { s with heap := h', toks := tk }) :
    wpAny (model prog w) A (call (.type "list") [.ref (N + 5)]) Q E s := by
  have n65 : (N + 6 : Nat) ≠ N + 5 := add_ne (by decide)
  have near : ∀ {b : Addr}, b < N → ∀ j : Nat, b ≠ N + j := fun h j => lt_nat h j
  refine callType_codes (Q₁ := fun obj s₁ => obj = .ref s.heap.objs.size ∧ s₁ = { s with heap := s.heap.push { cls := .type "list", data := .seq #[] } }) PySem.F.called_list (PySem.F.typeCall_list_1 _) PySem.F.entry_list_init
    (code_list_new _ ⟨rfl, rfl⟩) fun obj s₁ h₁ => ?_
  obtain ⟨rfl, rfl⟩ := h₁
  have hS : (s.heap.push { cls := .type "list", data := .seq #[] }).get? s.heap.objs.size = some { cls := .type "list", data := .seq #[] } := Heap.get?_push_size _ rfl
  refine ⟨⟨_, hS, rfl⟩, PySem.F.args_list_init_2 _ _, ?_⟩
  rw [hsz] at hS ⊢
  have k0 : ∀ b o, s.heap.get? b = some o → (s.heap.push { cls := .type "list", data := .seq #[] }).get? b = some o := fun b o e => Heap.get?_push_of_some _ e
  have z0 := hz.keep (h' := s.heap.push { cls := .type "list", data := .seq #[] }) (fun b o _ e => k0 b o e) a1 a2 a3
  have sz0 : (s.heap.push { cls := .type "list", data := .seq #[] }).objs.size = N + 7 := by rw [Heap.size_push, hsz]
  show wpAny _ _ (do let old ← Builtin.List.listItems (.ref (N + 6)); Builtin.List.listUpdate (.ref (N + 6)) (fun _ => #[]); letGo old.toList.reverse; Builtin.List.listExtendWith (.ref (N + 6)) (.ref (N + 5)) .none) _ _ _
  refine wpAny_bind ?_
  unfold Builtin.List.listItems
  refine wpAny_bind (wpAny_seqItems hS rfl (wpAny_pure ?_))
  show wpAny _ _ (updateSeq (N + 6) (fun _ => #[]) >>= fun _ => letGo (#[] : Array Value).toList.reverse >>= fun _ => Builtin.List.listExtendWith (.ref (N + 6)) (.ref (N + 5)) .none) _ _ _
  refine wpAny_bind (wpAny_updateSeq hS rfl ?_)
  have hS₂ := Heap.get?_update_self (Obj.mapSeq (fun _ => (#[] : Array Value))) hS rfl
  have k1 : ∀ b o, b ≠ N + 6 → (s.heap.push { cls := .type "list", data := .seq #[] }).get? b = some o → ((s.heap.push { cls := .type "list", data := .seq #[] }).update (N + 6) (Obj.mapSeq (fun _ => (#[] : Array Value)))).get? b = some o := fun b o hb e => (Heap.get?_update_other _ _ (Ne.symm hb)).trans e
  have z1 := z0.keep (fun b o hb e => k1 b o (Nat.ne_of_lt hb) e) a1 a2 a3
  refine wpAny_bind (wpAny_letGo ?_)
  have hT : ∀ (h : Heap), Z0 h N l1 l2 l3 xs ys zs → ({ s with heap := h } : Shared).TypeIs (.ref (N + 5)) "zip" := fun h z => ⟨_, z.z, rfl⟩
  unfold Builtin.List.listExtendWith
  refine wpAny_bind (wpAny_typeOf (T := "zip") (hT _ z1) ?_)
  have h1 : Builtin.List.listSameRef (.ref (N + 6)) (.ref (N + 5)) = false := by simp [Builtin.List.listSameRef, n65]
  have h2 : (Value.type "zip" == Value.type "list") = false := by decide
  have h3 : (Value.type "zip" == Value.type "tuple") = false := by decide
  simp only [h1, h2, h3, Bool.or_false, Bool.false_eq_true, if_false]
  refine wpAny_bind (wpAny_pyIter_zip z1.z ?_)
  refine wpAny_bind (wpAny_holding (hint_zip (hT _ z1) ?_))
  refine wpAny_ite_split (fun _ => ?_) (fun hab => absurd rfl hab)
  refine wpAny_bind (wpAny_rule ?_)
  refine wpAny_bind ?_
  show wpAny _ _ (updateSeq (N + 6) (·.push .none) >>= fun _ => updateSeq (N + 6) (·.pop)) _ _ _
  refine wpAny_bind (wpAny_updateSeq hS₂ rfl ?_)
  have hS₃ := Heap.get?_update_self (Obj.mapSeq (·.push Value.none)) hS₂ rfl
  refine wpAny_updateSeq (hz := by seq_fits) hS₃ rfl ?_
  have hS₄ := Heap.get?_update_self (Obj.mapSeq (·.pop)) hS₃ rfl
  refine wpAny_pure ⟨plainId_quiet PySem.F.plain_extend_loop _, ?_⟩
  have k3 : ∀ b o, b ≠ N + 6 → (s.heap.push { cls := .type "list", data := .seq #[] }).get? b = some o → ((((s.heap.push { cls := .type "list", data := .seq #[] }).update (N + 6) (Obj.mapSeq (fun _ => (#[] : Array Value)))).update (N + 6) (Obj.mapSeq (·.push Value.none))).update (N + 6) (Obj.mapSeq (·.pop))).get? b = some o :=
    fun b o hb e => (Heap.get?_update_other _ _ (Ne.symm hb)).trans ((Heap.get?_update_other _ _ (Ne.symm hb)).trans (k1 b o hb e))
  refine loop3_begin (A := A.in1) (s := { s with heap := ((((s.heap.push { cls := .type "list", data := .seq #[] }).update (N + 6) (Obj.mapSeq (fun _ => (#[] : Array Value)))).update (N + 6) (Obj.mapSeq (·.push Value.none))).update (N + 6) (Obj.mapSeq (·.pop))) }) hn0 hn hxs hys hzs a1 a2 a3 hh .none (z0.keep (fun b o hb e => k3 b o (Nat.ne_of_lt hb) e) a1 a2 a3) hS₄ ?_ fun h' tk ts' c' hk' hS' g' hl' => ?_
  · rw [Heap.size_update, Heap.size_update, Heap.size_update, sz0]
  · exact ⟨rfl, hQ h' tk ts' c' (fun b o hb e => hk' b o hb (k3 b o (near hb 6) (k0 b o e))) hS' g' hl'⟩
end
/-! ### as an expression -/
open Classical in
noncomputable def layT (H : Hp) (ts : List Addr) (vs : Nat → List V) : Hp := fun b => if h : ∃ j, ts[j]? = some b then some (.tup (vs h.choose)) else H b
theorem layT_at {H : Hp} {ts : List Addr} {vs : Nat → List V} (hn : ts.Nodup) {j : Nat} {t : Addr} (h : ts[j]? = some t) : layT H ts vs t = some (.tup (vs j)) := by
  have he : ∃ j, ts[j]? = some t := ⟨j, h⟩
  unfold layT
  rw [dif_pos he]
  have hc := he.choose_spec
  have hl := (List.getElem?_eq_some_iff.mp hc).1
  have : he.choose = j := (List.getElem?_inj hl hn).mp (hc.trans h.symm)
  rw [this]
theorem layT_other {H : Hp} {ts : List Addr} {vs : Nat → List V} {b : Addr} (h : b ∉ ts) : layT H ts vs b = H b := by
  unfold layT
  rw [dif_neg]
  rintro ⟨j, hj⟩
  exact h (List.mem_of_getElem? hj)
theorem vals_refs : ∀ ts : List Addr, Vals (ts.map V.ref) (ts.map Value.ref)
  | [] => .nil
  | t :: ts => .cons rfl (vals_refs ts)
/-- list(zip(a, b, c)) -/
def tListZip3 (K : PySem.W.Frag) (ta : TA) : TE := fun σ H Q => ta σ H fun vs H1 => ∃ (a b c : Addr) (xs ys zs : List V), vs = [.ref a, .ref b, .ref c] ∧ SqL K H1 a xs ∧ SqL K H1 b ys ∧ SqL K H1 c zs ∧ ys.length = xs.length ∧ zs.length = xs.length ∧ 0 < xs.length ∧ xs.length ≤ 1000 ∧
  ∀ p H' (ts : List Addr), H1 p = none → Ex H1 H' → H' p = some (.lst (ts.map V.ref)) → ts.length = xs.length → (∀ (j : Nat) t, ts[j]? = some t → ∃ x y z, xs[j]? = some x ∧ ys[j]? = some y ∧ zs[j]? = some z ∧ H' t = some (.tup [x, y, z])) → Q (.ref p) H'
theorem pe_listZip3X {X : Cx} {e1 e2 e3 : Expr} {ta : TA} {p p2 q pos : Pos} (hc : X.calm = true) (hg : Gl X "list") (hm : X.mg "list" = none) (hg2 : Gl X "zip") (hm2 : X.mg "zip" = none) (ha : PA X [e1, e2, e3] ta)
    (hs : starEach [e1, e2, e3] X.env = (false, eval e1 X.env) :: starEach [e2, e3] X.env := by rfl) (hpl : (backTo q (starEach [e2, e3] X.env)).any (·.1) = false := by rfl)
    (na : starEach [.Call (.Name "zip" p2) [e1, e2, e3] [] q] X.env = (false, eval (.Call (.Name "zip" p2) [e1, e2, e3] [] q) X.env) :: starEach [] X.env := by rfl) :
    PE X (.Call (.Name "list" p) [.Call (.Name "zip" p2) [e1, e2, e3] [] q] [] pos) (tListZip3 X.K ta) := by
  refine ⟨fun pins s σ H Q I h => ?_⟩
  refine Call_ (ld_blt I hg hm boot_list ?_)
  refine PyProof.Rows.callWith_type1 (PyProof.Rows.args_cons ?_ na) na rfl
  refine Call_ (ld_blt I hg2 hm2 PyProof.Rows.boot_zip (PyProof.Rows.callWith_type1 (thn (ha.run q pins s σ H _ I h) fun us s1 ⟨vs, H1, I1, r1, q1⟩ => ?_) hs hpl))
  obtain ⟨a, b, c, xs, ys, zs, rfl, hqx, hqy, hqz, ly, lz, h0, hl, q1⟩ := q1
  cases r1 with
  | cons ra r1 =>
  cases r1 with
  | cons rb r1 =>
  cases r1 with
  | cons rc r1 =>
  cases r1
  cases ra
  cases rb
  cases rc
  obtain ⟨its, rv, p1, _⟩ := I1.list hqx
  obtain ⟨its2, rv2, p2', _⟩ := I1.list hqy
  obtain ⟨its3, rv3, p3, _⟩ := I1.list hqz
  refine zip_begins3 (begins_list a its.toArray) (begins_list b its2.toArray) (begins_list c its3.toArray) p1.isList p2'.isList p3.isList fun h' hz hTI hTO g1 g2 g3 hsz hk => ?_
  refine PyProof.Rows.args_nil ?_
  have z0 : Z0 h' s1.heap.objs.size a b c its.toArray its2.toArray its3.toArray := ⟨hz, ⟨_, _, _, hTO⟩, hTI, ⟨_, g1, rfl, rfl⟩, ⟨_, g2, rfl, rfl⟩, ⟨_, g3, rfl, rfl⟩, by
      obtain ⟨o, e, r⟩ := p1.isList
      exact ⟨o, hk _ _ e, r⟩, by
      obtain ⟨o, e, r⟩ := p2'.isList
      exact ⟨o, hk _ _ e, r⟩, by
      obtain ⟨o, e, r⟩ := p3.isList
      exact ⟨o, hk _ _ e, r⟩⟩
  refine call_list_zip3 (s := { s1 with heap := h' }) (n := xs.length) h0 hl (by rw [List.size_toArray, ← rv.length]) (by rw [List.size_toArray, ← rv2.length, ly]) (by rw [List.size_toArray, ← rv3.length, lz]) p1.lt p2'.lt p3.lt (I1.ok.hd hc) z0 hsz fun h2 tk ts cc hk2 hS g hl2 => ?_
  have keep : ∀ b o, s1.heap.get? b = some o → h2.get? b = some o := fun b o e => hk2 b o (Heap.lt_size e) (hk b o e)
  -- what is tracked then
  have big : ∀ t ∈ ts, s1.heap.objs.size + 7 ≤ t := g.ge
  have notin : ∀ b, H1 b ≠ none → b ∉ ts := fun b hb hm' => hb (I1.hok.fresh (Nat.le_trans (Nat.le_add_right _ 7) (big b hm')))
  have hSn : s1.heap.objs.size + 6 ∉ ts := fun hm' => absurd (Nat.le_of_add_le_add_left (big _ hm')) (by decide)
  have hH6 : H1 (s1.heap.objs.size + 6) = none := I1.hok.fresh (Nat.le_add_right _ _)
  let vs : Nat → List V := fun j => [xs.getD j .non, ys.getD j .non, zs.getD j .non]
  have eT : Ex H1 (layT H1 ts vs) := fun b o e => by
    rw [layT_other (notin b (by rw [e]; exact fun z => nomatch z))]
    exact e
  have hL6 : layT H1 ts vs (s1.heap.objs.size + 6) = none := by rw [layT_other hSn]; exact hH6
  have e2 : Ex H1 (upd (layT H1 ts vs) (s1.heap.objs.size + 6) (.lst (ts.map V.ref))) := eT.trans (Ex.new hL6)
  have atT : ∀ (j : Nat) t, ts[j]? = some t → upd (layT H1 ts vs) (s1.heap.objs.size + 6) (.lst (ts.map V.ref)) t = some (.tup (vs j)) := fun j t ht => by
    have hne : t ≠ s1.heap.objs.size + 6 := fun z => hSn (z ▸ List.mem_of_getElem? ht)
    rw [upd_ne hne, layT_at g.nd ht]
  have un : Un X.fs [] H1 (upd (layT H1 ts vs) (s1.heap.objs.size + 6) (.lst (ts.map V.ref))) s1.heap h2 := by
    refine ⟨fun b o e _ _ _ => keep b o e, fun b o e _ _ _ => ⟨o.slots, keep b o e⟩, fun b o e n _ => ?_, fun b o e _ => ⟨o, keep b o e⟩, fun b ws e => e2 _ _ e, fun b o u e => e2 _ _ e, fun b ps e => ⟨#[], by rw [e2 _ _ e]; simp⟩⟩
    have hb := Heap.lt_size e
    rw [upd_ne (Nat.ne_of_lt (Nat.lt_of_lt_of_le hb (Nat.le_add_right _ 6))), layT_other fun hm' => ?_]
    · exact n
    · exact absurd (Nat.lt_of_lt_of_le hb (Nat.le_trans (Nat.le_add_right _ 7) (big b hm'))) (Nat.lt_irrefl _)
  have vat : ∀ {ws : List V} {us : List Value} {j : Nat} {u : Value}, Vals ws us → us.toArray[j]? = some u → RelV (ws.getD j .non) u ∧ ws[j]? = some (ws.getD j .non) := fun {ws us j u} r e => by
    obtain ⟨x, hx, rx⟩ := vals_at r (i := j) (u := u) (by simpa using e)
    have : ws.getD j .non = x := by rw [List.getD_eq_getElem?_getD, hx]; rfl
    rw [this]
    exact ⟨rx, hx⟩
  have hok : HOk X.prog X.w (upd (layT H1 ts vs) (s1.heap.objs.size + 6) (.lst (ts.map V.ref))) h2 := by
    intro d o e
    by_cases c1 : d = s1.heap.objs.size + 6
    · subst c1
      rw [upd_same] at e
      cases e
      refine ⟨by rw [List.length_map, hl2]; exact Nat.le_trans hl (by decide), ts.map Value.ref, cc, vals_refs ts, hS⟩
    · by_cases c2 : d ∈ ts
      · obtain ⟨j, hj⟩ := List.mem_iff_getElem?.mp c2
        rw [atT j d hj] at e
        cases e
        obtain ⟨x, y, z, ex, ey, ez, ht⟩ := g.at_ j d hj
        exact ⟨by show 3 ≤ sizeLine; decide, [x, y, z], .cons (vat rv ex).1 (.cons (vat rv2 ey).1 (.cons (vat rv3 ez).1 .nil)), ⟨_, ht, rfl, _, rfl⟩⟩
      · rw [upd_ne c1, layT_other c2] at e
        exact (I1.hok d o e).stay (fun b u _ q => keep b u q) (fun b q => e2 _ _ q) fun b ws q => e2 _ _ q
  refine ⟨.ref (s1.heap.objs.size + 6), _, I1.un (h' := h2) (t' := tk) un hok, rfl, q1 _ _ ts hH6 e2 upd_same hl2 fun j t ht => ?_⟩
  obtain ⟨x, y, z, ex, ey, ez, _⟩ := g.at_ j t ht
  exact ⟨_, _, _, (vat rv ex).2, (vat rv2 ey).2, (vat rv3 ez).2, atT j t ht⟩
theorem pe_listZip3 {X : Cx} {K : PySem.W.Frag} {e1 e2 e3 : Expr} {ta : TA} {p p2 q pos : Pos} (hc : X.calm = true) (hg : Gl X "list") (hm : X.mg "list" = none) (hg2 : Gl X "zip") (hm2 : X.mg "zip" = none) (ha : PA X [e1, e2, e3] ta)
    (hs : starEach [e1, e2, e3] X.env = (false, eval e1 X.env) :: starEach [e2, e3] X.env := by rfl) (hpl : (backTo q (starEach [e2, e3] X.env)).any (·.1) = false := by rfl)
    (na : starEach [.Call (.Name "zip" p2) [e1, e2, e3] [] q] X.env = (false, eval (.Call (.Name "zip" p2) [e1, e2, e3] [] q) X.env) :: starEach [] X.env := by rfl) (hK : X.K = K := by rfl) :
    PE X (.Call (.Name "list" p) [.Call (.Name "zip" p2) [e1, e2, e3] [] q] [] pos) (tListZip3 K ta) := by
  subst hK
  exact pe_listZip3X hc hg hm hg2 hm2 ha hs hpl na
end GW
set_option Elab.async false
set_option linter.all false
set_option maxRecDepth 100000
set_option maxHeartbeats 4000000
/-! WF: fractions.py -/
namespace GW
open PySem PySem.Spec PyProof.Rows L2 GM
section
variable {P : Program} {w : World} {K : PySem.W.Frag} {mg : Str → Option Value} {base : Heap}
/-! divisor_of -/
abbrev N_divisor_of : List Str := ["one", "other"]
theorem sc_divisor_of : FnScope N_divisor_of ["one", "other"] (defScope s_divisor_of) := ⟨rfl, rfl, rfl, by decide +kernel, rfl, by decide +kernel, by decide +kernel⟩
def sp_divisor_of : Sp := sp2 fun a b H Q => ∃ n m : Nat, a = .int n ∧ b = .int m ∧ Q (.int (Nat.gcd n m : Nat)) H
theorem ok_divisor_of (T : Txt K mg) : DOk P w K mg base "divisor_of" ["one", "other"] 1 sp_divisor_of := by
  refine T.d_divisor_of.ok sc_divisor_of sp2_len (fun f cdv A outer s H vs Q E hr h => ?_)
  obtain ⟨_, _, rfl, n, m, rfl, rfl, k⟩ := h
  refine ⟨_, (pss_cons (ps_while PassesOwn.never (pt_cmpR op_gt (pv 1) pe_int (nomark _)) (pss_one (ps_par (i := 0) (j := 1) (by rfl) sc_divisor_of.nd rfl rfl (by decide) rfl rfl (pa_cons (pv 1) (pa_cons (pe_op op_mod (pv 0) (pv 1)) pa_nil)) (by rfl))))
        (pss_one (ps_ret (pv 0)))), ?_⟩
  refine ⟨fun c σ H' => ∃ a b : Nat, σ = [some (.int a), some (.int b)] ∧ H' = H ∧ Nat.gcd a b = Nat.gcd n m ∧ b = c, ⟨m, n, m, rfl, rfl, rfl, rfl⟩, ?_⟩
  rintro _ σ H' ⟨a, b, rfl, rfl, e, rfl⟩
  refine ⟨_, rfl, _, _, rfl, rfl, _, rfl, ite2 (fun hb => ?_) (fun hb => ?_)⟩
  · have hb' : 0 < (b : Int) := of_decide_eq_true hb
    refine ⟨fun σ' H2 => ∃ a' b' : Nat, σ' = [some (.int a'), some (.int b')] ∧ H2 = H' ∧ Nat.gcd a' b' = Nat.gcd n m ∧ b' < b, ?_, ?_⟩
    · rintro σ' H2 ⟨a', b', rfl, rfl, e', hlt⟩
      exact ⟨b', hlt, a', b', rfl, rfl, e', rfl⟩
    · refine ⟨_, rfl, _, rfl, _, rfl, _, _, rfl, rfl, hb', _, _, rfl, ?_⟩
      refine ⟨b, a % b, ?_, rfl, ?_, Nat.mod_lt _ (by omega)⟩
      · show [some (V.int b), some (V.int ((a : Int) % (b : Int)))] = _
        rw [Int.natCast_emod]
      · rw [← e, Nat.gcd_comm b, ← Nat.gcd_rec, Nat.gcd_comm]
  · have hb' : ¬ 0 < (b : Int) := fun q => hb (decide_eq_true q)
    have e0 : b = 0 := by omega
    subst e0
    refine ⟨_, rfl, ?_⟩
    rw [← e] at k
    simpa using k

theorem abs_nat (n : Int) : (if n < 0 then -n else n) = (n.natAbs : Int) := by
  split <;> omega
theorem bits_mul {x y : Int} {a : Nat} (hx : x.natAbs < 2 ^ a) (hy : 0 < y) : Builtin.Int.intBits (x * y) ≤ Builtin.Int.intBits y + a := by
  have h1 : y.natAbs < 2 ^ (y.natAbs.log2 + 1) := Nat.lt_log2_self
  have e : Builtin.Int.intBits y = y.natAbs.log2 + 1 := by
    unfold Builtin.Int.intBits
    rw [if_neg]
    simpa using (show y ≠ 0 by omega)
  have h2 : (x * y).natAbs < 2 ^ (a + (y.natAbs.log2 + 1)) := by
    rw [Int.natAbs_mul]
    exact mul_lt_pow hx h1
  have h3 := PyProof.Rows.intBits_le h2
  rw [e]
  omega
theorem divp_exact {i j : Int} (hj : 0 < j) (hd : j ∣ i) (h : (i / j).natAbs < 2 ^ 4000) : CDivP i j := by
  refine divp_ok hj ?_
  have e : i / j * j = i := Int.ediv_mul_cancel hd
  have := bits_mul h hj
  rw [e] at this
  exact this
/-! fraction -/
abbrev N_fraction : List Str := ["n", "d", "divisor"]
theorem sc_fraction : FnScope N_fraction ["n", "d"] (defScope s_fraction) := ⟨rfl, rfl, rfl, by decide +kernel, rfl, by decide +kernel, by decide +kernel⟩
def sp_fraction (K : PySem.W.Frag) : Sp := sp2 fun a b H Q => ∃ (n : Int) (d : Nat), a = .int n ∧ b = .int d ∧ d ≠ 0 ∧ Sz 4000 (mkRat n d) ∧ RetFr K (mkRat n d) H Q
theorem ok_fraction (T : Txt K mg) : DOk P w K mg base "fraction" ["n", "d"] 2 (sp_fraction K) := by
  have G_divisor_of := ok_divisor_of (P := P) (w := w) (base := base) T
  refine T.d_fraction.ok sc_fraction sp2_len (fun f cdv A outer s H vs Q E hr h => ?_)
  obtain ⟨_, _, rfl, n, d, rfl, rfl, hd, hz, k⟩ := h
  refine ⟨_, (pss_cons (ps_set (i := 2) sc_fraction.nd rfl (Or.inl rfl) (pe_callD G_divisor_of (hr.mono (by decide)) (pa_cons (pe_callB call_abs (by rfl) T.n_abs (by decide +kernel) (pa_cons (pv 0) pa_nil)) (pa_cons (pe_callB call_abs (by rfl) T.n_abs (by decide +kernel) (pa_cons (pv 1) pa_nil)) pa_nil))))
        (pss_cons (ps_if (pt_cmpR op_lt (pv 1) pe_int (nomark _)) (pss_one (ps_set (i := 2) sc_fraction.nd rfl (Or.inl rfl) (pe_un un_neg (pv 2)))) pss_nil)
        (pss_one (ps_ret (pe_tup (pa_cons (pe_op op_fdivP (pv 0) (pv 2)) (pa_cons (pe_op op_fdivP (pv 1) (pv 2)) pa_nil))))))), ?_⟩
  have hg : 0 < Nat.gcd n.natAbs d := Nat.gcd_pos_of_pos_right _ (by omega)
  have m := mkRat_gcd n hd
  refine ⟨_, rfl, _, rfl, _, rfl, _, rfl, _, _, rfl, n.natAbs, d, congrArg V.int (abs_nat n), congrArg V.int (abs_nat d), ?_⟩
  refine ⟨_, rfl, _, _, rfl, rfl, _, rfl, ite2 (fun hb => ?_) (fun hb => ?_)⟩
  · have := of_decide_eq_true hb
    omega
  refine ⟨_, rfl, _, rfl, _, _, rfl, rfl, ?_, _, rfl, _, rfl, _, _, rfl, rfl, ?_, by show 2 ≤ sizeLine; decide, fun p hp => ?_⟩
  · exact divp_exact (by omega) (Int.ofNat_dvd_left.mpr (Nat.gcd_dvd_left _ _)) (by rw [← m.1]; exact hz.1)
  · exact divp_exact (by omega) (Int.natCast_dvd_natCast.mpr (Nat.gcd_dvd_right _ _)) (by rw [← m.2]; exact hz.2)
  · refine k _ _ (Evl.Ex.new hp) ⟨p, rfl, .of ?_, hz⟩
    rw [upd_same, m.1, m.2]

theorem mulx_of {a b : Nat} {i j : Int} (hi : i.natAbs < 2 ^ a) (hj : j.natAbs < 2 ^ b) (h : a + b ≤ 134217728) : CMulX i j := mulx_ok hi hj h
theorem nat_abs_lt {n a : Nat} (h : n < 2 ^ a) : ((n : Int)).natAbs < 2 ^ a := h
/-! added, taken, times, over -/
def spBin (K : PySem.W.Frag) (C : Rat → Rat → Prop) (g : Rat → Rat → Rat) : Sp := sp2 fun a b H Q => ∃ p q : Rat, FrV K H a p ∧ FrV K H b q ∧ C p q ∧ Sz 4000 (g p q) ∧ RetFr K (g p q) H Q
abbrev N_added : List Str := ["one", "other"]
theorem sc_added : FnScope N_added ["one", "other"] (defScope s_added) := ⟨rfl, rfl, rfl, by decide +kernel, rfl, by decide +kernel, by decide +kernel⟩
theorem ok_added (T : Txt K mg) : DOk P w K mg base "added" ["one", "other"] 3 (spBin K (fun _ _ => True) (· + ·)) := by
  have G_fraction := ok_fraction (P := P) (w := w) (base := base) T
  refine T.d_added.ok sc_added sp2_len (fun f cdv A outer s H vs Q E hr h => ?_)
  obtain ⟨_, _, rfl, p, q, ⟨a, rfl, ha, za⟩, ⟨b, rfl, hb, zb⟩, _, hz, k⟩ := h
  refine ⟨_, (pss_one (ps_ret (pe_callD G_fraction (hr.mono (by decide)) (pa_cons (pe_op op_add (pe_op op_mulX (pe_ix ix_tup (pv 0) pe_int (fun _ _ => rfl)) (pe_ix ix_tup (pv 1) pe_int (fun _ _ => rfl))) (pe_op op_mulX (pe_ix ix_tup (pv 1) pe_int (fun _ _ => rfl)) (pe_ix ix_tup (pv 0) pe_int (fun _ _ => rfl)))) (pa_cons (pe_op op_mulX (pe_ix ix_tup (pv 0) pe_int (fun _ _ => rfl)) (pe_ix ix_tup (pv 1) pe_int (fun _ _ => rfl))) pa_nil))))), ?_⟩
  refine ⟨_, rfl, _, _, _, _, rfl, rfl, ha.sq, rfl, _, rfl, _, _, _, _, rfl, rfl, hb.sq, rfl, _, _, rfl, rfl, mulx_of za.1 (nat_abs_lt zb.2) (by decide), ?_⟩
  refine ⟨_, rfl, _, _, _, _, rfl, rfl, hb.sq, rfl, _, rfl, _, _, _, _, rfl, rfl, ha.sq, rfl, _, _, rfl, rfl, mulx_of zb.1 (nat_abs_lt za.2) (by decide), _, _, rfl, rfl, ?_⟩
  refine ⟨_, rfl, _, _, _, _, rfl, rfl, ha.sq, rfl, _, rfl, _, _, _, _, rfl, rfl, hb.sq, rfl, _, _, rfl, rfl, mulx_of (nat_abs_lt za.2) (nat_abs_lt zb.2) (by decide), ?_⟩
  have e := Rat.add_def' p q
  refine ⟨_, _, rfl, _, p.den * q.den, rfl, congrArg V.int (Int.natCast_mul _ _).symm, Nat.mul_ne_zero p.den_nz q.den_nz, by rw [← e]; exact hz, ?_⟩
  rw [← e]
  exact k
abbrev N_taken : List Str := ["one", "other"]
theorem sc_taken : FnScope N_taken ["one", "other"] (defScope s_taken) := ⟨rfl, rfl, rfl, by decide +kernel, rfl, by decide +kernel, by decide +kernel⟩
theorem ok_taken (T : Txt K mg) : DOk P w K mg base "taken" ["one", "other"] 3 (spBin K (fun _ _ => True) (· - ·)) := by
  have G_fraction := ok_fraction (P := P) (w := w) (base := base) T
  refine T.d_taken.ok sc_taken sp2_len (fun f cdv A outer s H vs Q E hr h => ?_)
  obtain ⟨_, _, rfl, p, q, ⟨a, rfl, ha, za⟩, ⟨b, rfl, hb, zb⟩, _, hz, k⟩ := h
  refine ⟨_, (pss_one (ps_ret (pe_callD G_fraction (hr.mono (by decide)) (pa_cons (pe_op op_sub (pe_op op_mulX (pe_ix ix_tup (pv 0) pe_int (fun _ _ => rfl)) (pe_ix ix_tup (pv 1) pe_int (fun _ _ => rfl))) (pe_op op_mulX (pe_ix ix_tup (pv 1) pe_int (fun _ _ => rfl)) (pe_ix ix_tup (pv 0) pe_int (fun _ _ => rfl)))) (pa_cons (pe_op op_mulX (pe_ix ix_tup (pv 0) pe_int (fun _ _ => rfl)) (pe_ix ix_tup (pv 1) pe_int (fun _ _ => rfl))) pa_nil))))), ?_⟩
  refine ⟨_, rfl, _, _, _, _, rfl, rfl, ha.sq, rfl, _, rfl, _, _, _, _, rfl, rfl, hb.sq, rfl, _, _, rfl, rfl, mulx_of za.1 (nat_abs_lt zb.2) (by decide), ?_⟩
  refine ⟨_, rfl, _, _, _, _, rfl, rfl, hb.sq, rfl, _, rfl, _, _, _, _, rfl, rfl, ha.sq, rfl, _, _, rfl, rfl, mulx_of zb.1 (nat_abs_lt za.2) (by decide), _, _, rfl, rfl, ?_⟩
  refine ⟨_, rfl, _, _, _, _, rfl, rfl, ha.sq, rfl, _, rfl, _, _, _, _, rfl, rfl, hb.sq, rfl, _, _, rfl, rfl, mulx_of (nat_abs_lt za.2) (nat_abs_lt zb.2) (by decide), ?_⟩
  have e := Rat.sub_def' p q
  refine ⟨_, _, rfl, _, p.den * q.den, rfl, congrArg V.int (Int.natCast_mul _ _).symm, Nat.mul_ne_zero p.den_nz q.den_nz, by rw [← e]; exact hz, ?_⟩
  rw [← e]
  exact k
abbrev N_times : List Str := ["one", "other"]
theorem sc_times : FnScope N_times ["one", "other"] (defScope s_times) := ⟨rfl, rfl, rfl, by decide +kernel, rfl, by decide +kernel, by decide +kernel⟩
theorem ok_times (T : Txt K mg) : DOk P w K mg base "times" ["one", "other"] 3 (spBin K (fun _ _ => True) (· * ·)) := by
  have G_fraction := ok_fraction (P := P) (w := w) (base := base) T
  refine T.d_times.ok sc_times sp2_len (fun f cdv A outer s H vs Q E hr h => ?_)
  obtain ⟨_, _, rfl, p, q, ⟨a, rfl, ha, za⟩, ⟨b, rfl, hb, zb⟩, _, hz, k⟩ := h
  refine ⟨_, (pss_one (ps_ret (pe_callD G_fraction (hr.mono (by decide)) (pa_cons (pe_op op_mulX (pe_ix ix_tup (pv 0) pe_int (fun _ _ => rfl)) (pe_ix ix_tup (pv 1) pe_int (fun _ _ => rfl))) (pa_cons (pe_op op_mulX (pe_ix ix_tup (pv 0) pe_int (fun _ _ => rfl)) (pe_ix ix_tup (pv 1) pe_int (fun _ _ => rfl))) pa_nil))))), ?_⟩
  refine ⟨_, rfl, _, _, _, _, rfl, rfl, ha.sq, rfl, _, rfl, _, _, _, _, rfl, rfl, hb.sq, rfl, _, _, rfl, rfl, mulx_of za.1 zb.1 (by decide), ?_⟩
  refine ⟨_, rfl, _, _, _, _, rfl, rfl, ha.sq, rfl, _, rfl, _, _, _, _, rfl, rfl, hb.sq, rfl, _, _, rfl, rfl, mulx_of (nat_abs_lt za.2) (nat_abs_lt zb.2) (by decide), ?_⟩
  have e := Rat.mul_def' p q
  refine ⟨_, _, rfl, _, p.den * q.den, rfl, congrArg V.int (Int.natCast_mul _ _).symm, Nat.mul_ne_zero p.den_nz q.den_nz, by rw [← e]; exact hz, ?_⟩
  rw [← e]
  exact k
abbrev N_over : List Str := ["one", "other"]
theorem sc_over : FnScope N_over ["one", "other"] (defScope s_over) := ⟨rfl, rfl, rfl, by decide +kernel, rfl, by decide +kernel, by decide +kernel⟩
theorem ok_over (T : Txt K mg) : DOk P w K mg base "over" ["one", "other"] 3 (spBin K (fun _ q => 0 < q) (· / ·)) := by
  have G_fraction := ok_fraction (P := P) (w := w) (base := base) T
  refine T.d_over.ok sc_over sp2_len (fun f cdv A outer s H vs Q E hr h => ?_)
  obtain ⟨_, _, rfl, p, q, ⟨a, rfl, ha, za⟩, ⟨b, rfl, hb, zb⟩, hq, hz, k⟩ := h
  refine ⟨_, (pss_one (ps_ret (pe_callD G_fraction (hr.mono (by decide)) (pa_cons (pe_op op_mulX (pe_ix ix_tup (pv 0) pe_int (fun _ _ => rfl)) (pe_ix ix_tup (pv 1) pe_int (fun _ _ => rfl))) (pa_cons (pe_op op_mulX (pe_ix ix_tup (pv 0) pe_int (fun _ _ => rfl)) (pe_ix ix_tup (pv 1) pe_int (fun _ _ => rfl))) pa_nil))))), ?_⟩
  refine ⟨_, rfl, _, _, _, _, rfl, rfl, ha.sq, rfl, _, rfl, _, _, _, _, rfl, rfl, hb.sq, rfl, _, _, rfl, rfl, mulx_of za.1 (nat_abs_lt zb.2) (by decide), ?_⟩
  refine ⟨_, rfl, _, _, _, _, rfl, rfl, ha.sq, rfl, _, rfl, _, _, _, _, rfl, rfl, hb.sq, rfl, _, _, rfl, rfl, mulx_of (nat_abs_lt za.2) zb.1 (by decide), ?_⟩
  have e := div_def' p q hq
  have hn := num_pos hq
  refine ⟨_, _, rfl, _, p.den * q.num.toNat, rfl, congrArg V.int ?_, Nat.mul_ne_zero p.den_nz (by omega), by rw [← e]; exact hz, ?_⟩
  · rw [Int.natCast_mul, Int.toNat_of_nonneg (by omega)]
  rw [← e]
  exact k
/-! compared -/
def sgn (p q : Rat) : Int := (if q < p then 1 else 0) - (if p < q then 1 else 0)
theorem sgn_pos {p q : Rat} : 0 < sgn p q ↔ q < p := by
  unfold sgn
  by_cases h : q < p <;> by_cases k : p < q <;> simp only [h, k, if_true, if_false]
  · grind
  · simp
  · simp
  · simp
theorem sgn_neg {p q : Rat} : sgn p q < 0 ↔ p < q := by
  unfold sgn
  by_cases h : q < p <;> by_cases k : p < q <;> simp only [h, k, if_true, if_false]
  · grind
  · simp
  · simp
  · simp
abbrev N_compared : List Str := ["one", "other", "here", "there"]
theorem sc_compared : FnScope N_compared ["one", "other"] (defScope s_compared) := ⟨rfl, rfl, rfl, by decide +kernel, rfl, by decide +kernel, by decide +kernel⟩
def sp_compared (K : PySem.W.Frag) : Sp := sp2 fun a b H Q => ∃ p q : Rat, FrV K H a p ∧ FrV K H b q ∧ Q (.int (sgn p q)) H
theorem ok_compared (T : Txt K mg) : DOk P w K mg base "compared" ["one", "other"] 1 (sp_compared K) := by
  refine T.d_compared.ok sc_compared sp2_len (fun f cdv A outer s H vs Q E hr h => ?_)
  obtain ⟨_, _, rfl, p, q, ⟨a, rfl, ha, za⟩, ⟨b, rfl, hb, zb⟩, k⟩ := h
  refine ⟨_, (pss_cons (ps_par (i := 2) (j := 3) (by rfl) sc_compared.nd rfl rfl (by decide) rfl rfl (pa_cons (pe_op op_mulX (pe_ix ix_tup (pv 0) pe_int (fun _ _ => rfl)) (pe_ix ix_tup (pv 1) pe_int (fun _ _ => rfl))) (pa_cons (pe_op op_mulX (pe_ix ix_tup (pv 1) pe_int (fun _ _ => rfl)) (pe_ix ix_tup (pv 0) pe_int (fun _ _ => rfl))) pa_nil)) (by rfl))
        (pss_one (ps_ret (pe_op op_sub (pe_callTy call_int1 (by rfl) T.n_int (by decide +kernel) (pa_cons (pe_cmpR op_gt (pv 2) (pv 3) (nomark _)) pa_nil)) (pe_callTy call_int1 (by rfl) T.n_int (by decide +kernel) (pa_cons (pe_cmpR op_lt (pv 2) (pv 3) (nomark _)) pa_nil)))))), ?_⟩
  refine ⟨_, rfl, _, _, _, _, rfl, rfl, ha.sq, rfl, _, rfl, _, _, _, _, rfl, rfl, hb.sq, rfl, _, _, rfl, rfl, mulx_of za.1 (nat_abs_lt zb.2) (by decide), ?_⟩
  refine ⟨_, rfl, _, _, _, _, rfl, rfl, hb.sq, rfl, _, rfl, _, _, _, _, rfl, rfl, ha.sq, rfl, _, _, rfl, rfl, mulx_of zb.1 (nat_abs_lt za.2) (by decide), _, _, rfl, ?_⟩
  refine ⟨_, rfl, _, rfl, _, _, rfl, rfl, .inr ⟨_, rfl, _, rfl, _, rfl, _, _, rfl, rfl, .inr ⟨_, rfl, _, _, rfl, rfl, ?_⟩⟩⟩
  have e1 : (q.num * (p.den : Int) < p.num * (q.den : Int)) = (q < p) := propext (cross_lt q p)
  have e2 : (p.num * (q.den : Int) < q.num * (p.den : Int)) = (p < q) := propext (cross_lt p q)
  simp only [e1, e2, decide_eq_true_eq]
  exact k
end
end GW
set_option Elab.async false
set_option linter.all false
set_option maxRecDepth 100000
set_option maxHeartbeats 4000000
/-! WL: least, is_number, left.py -/
namespace GW
open PySem PySem.Spec PyProof.Rows L2 GM
section
variable {P : Program} {w : World} {K : PySem.W.Frag} {mg : Str → Option Value} {base : Heap}
/-- a number of ties, steps, places -/
abbrev Few {β : Type} (l : List β) : Prop := l.length ≤ 1000
def sp_is_number : Sp := sp1 fun a H Q => ∃ n : Int, a = .int n ∧ Q (.bl true) H
/-! is_number: slots 0:thing -/
abbrev N_is_number : List Str := ["thing"]
theorem sc_is_number : FnScope N_is_number ["thing"] (defScope s_is_number) := ⟨rfl, rfl, rfl, by decide +kernel, rfl, by decide +kernel, by decide +kernel⟩
theorem ok_is_number (T : Txt K mg) : DOk P w K mg base "is_number" ["thing"] 1 (sp_is_number) := by
  refine T.d_is_number.ok sc_is_number sp1_len (fun f cdv A outer s H vs Q E hr h => ?_)
  refine ⟨_, (pss_one (ps_ret (pe_and (pe_callB call_isi (by rfl) T.n_isinstance (by decide +kernel) (pa_cons (pv 0) (pa_cons (pe_bltn (v := .ty "int") (u := .type "int") (by rfl) T.n_int (by decide +kernel) rfl) pa_nil))) (pe_one (pe_not (pe_callB call_isi (by rfl) T.n_isinstance (by decide +kernel) (pa_cons (pv 0) (pa_cons (pe_bltn (v := .ty "bool") (u := .type "bool") (by rfl) T.n_bool (by decide +kernel) rfl) pa_nil)))))))), ?_⟩
  obtain ⟨_, rfl, n, rfl, k⟩ := h
  refine ⟨_, rfl, _, _, _, _, true, rfl, .ty "int", .base (.int n), kit_ty (by decide +kernel), true, rfl, iteT ?_⟩
  exact ⟨_, rfl, _, _, _, _, false, rfl, .ty "bool", .base (.int n), kit_ty (by decide +kernel), false, rfl, k⟩
def sp_least (K : PySem.W.Frag) : Sp := sp1 fun a H Q => ∃ qs : List Rat, qs ≠ [] ∧ qs.length ≤ 1000 ∧ LsV (FrV K) H a qs ∧ ∀ v H' m, Ex H H' → FrV K H' v m → m ∈ qs → (∀ q ∈ qs, m ≤ q) → Q v H'
/-! least: slots 0:parts 1:found 2:part -/
abbrev N_least : List Str := ["parts", "found", "part"]
theorem sc_least : FnScope N_least ["parts"] (defScope s_least) := ⟨rfl, rfl, rfl, by decide +kernel, rfl, by decide +kernel, by decide +kernel⟩
theorem ok_least (T : Txt K mg) : DOk P w K mg base "least" ["parts"] 2 (sp_least K) := by
  have G_compared := ok_compared (P := P) (w := w) (base := base) T
  refine T.d_least.ok sc_least sp1_len (fun f cdv A outer s H vs Q E hr h => ?_)
  refine ⟨_, (pss_cons (ps_set (i := 1) sc_least.nd rfl (Or.inl rfl) (pe_ix (ixL K) (pv 0) pe_int (fun _ _ => rfl)))
        (pss_cons (ps_for PassesOwn.never rfl (piL K (pe_slice (slL K) (pv 0) (po_some pe_int) po_none)) (pg_name (i := 2) sc_least.nd rfl (Or.inl rfl)) (pss_one (ps_if (pt_cmpR op_lt (pe_callD G_compared (hr.mono (by decide)) (pa_cons (pv 2) (pa_cons (pv 1) pa_nil))) pe_int (nomark _)) (pss_one (ps_set (i := 1) sc_least.nd rfl (Or.inl rfl) (pv 2))) pss_nil)))
        (pss_one (ps_ret (pv 1))))), ?_⟩
  obtain ⟨_, rfl, qs, hne, hlen, ⟨a, vs, rfl, ha, hv⟩, k⟩ := h
  obtain ⟨q0, qr, rfl⟩ : ∃ q0 qr, qs = q0 :: qr := by
    cases qs with
    | nil => exact (hne rfl).elim
    | cons x y => exact ⟨x, y, rfl⟩
  obtain ⟨v0, vr, rfl, hv0, hvr⟩ : ∃ v0 vr, vs = v0 :: vr ∧ FrV K H v0 q0 ∧ All2 (FrV K H) vr qr := by
    cases hv with
    | cons r t => exact ⟨_, _, rfl, r, t⟩
  refine ⟨_, rfl, _, _, _, v0, rfl, rfl, SqL.of ha, atI_nat (j := 0) rfl, ?_⟩
  refine ⟨_, rfl, _, rfl, a, _, rfl, SqL.of ha, fun p hp => ?_⟩
  have ec : cutV (v0 :: vr) (some (1 : Int)) none = vr := cut_from (v0 :: vr) 1
  rw [ec]
  refine ⟨p, rfl, ⟨_, SqL.of upd_same⟩, for_list (K := K) (a := p) (xs := vr) (fun i σ H' => ∃ v m x, σ = [some (.ref a), some v, x] ∧ Ex (upd H p (.lst vr)) H' ∧ FrV K H' v m ∧ m ∈ q0 :: qr.take i ∧ ∀ q ∈ q0 :: qr.take i, m ≤ q)
    ⟨v0, q0, none, rfl, Ex.refl _, hv0.ex (Ex.new hp), by simp, by simp [Rat.le_refl]⟩ (fun i σ H' _ ⟨_, _, _, _, e, _⟩ => SqL.of (e _ _ upd_same)) ?_ ?_⟩
  · rintro i y σ H' hy ⟨v, m, x, rfl, e, hm, h1, h2⟩
    obtain ⟨q, hq, hr'⟩ := hvr.get hy
    have hyq : FrV K H' y q := hr'.ex ((Ex.new hp).trans e)
    have et : qr.take (i + 1) = qr.take i ++ [q] := take_snoc hq
    refine ⟨_, rfl, _, rfl, _, _, rfl, q, m, hyq, hm, _, _, rfl, rfl, _, rfl, ite2 (fun hb => ?_) (fun hb => ?_)⟩
    · have hlt : q < m := sgn_neg.mp (of_decide_eq_true hb)
      refine ⟨_, rfl, y, q, _, rfl, e, hyq, by rw [et]; simp, fun z hz => ?_⟩
      rw [et] at hz
      have : z ∈ q0 :: qr.take i ∨ z = q := by simpa [or_assoc] using hz
      rcases this with hz | rfl
      · exact Rat.le_trans (Rat.le_of_lt hlt) (h2 z hz)
      · exact Rat.le_refl
    · have hge : m ≤ q := Rat.not_lt.mp fun q' => hb (decide_eq_true (sgn_neg.mpr q'))
      refine ⟨v, m, _, rfl, e, hm, ?_, fun z hz => ?_⟩
      · rw [et]
        rcases List.mem_cons.mp h1 with q' | q'
        · simp [q']
        · simp [q']
      rw [et] at hz
      have : z ∈ q0 :: qr.take i ∨ z = q := by simpa [or_assoc] using hz
      rcases this with hz | rfl
      · exact h2 z hz
      · exact hge
  · rintro σ H' ⟨v, m, x, rfl, e, hm, h1, h2⟩
    rw [show qr.take vr.length = qr by rw [hvr.length, List.take_length]] at h1 h2
    exact ⟨_, rfl, k v H' m ((Ex.new hp).trans e) hm h1 h2⟩
/-! ### steps of a tie -/
/-- sizes under which the steps of a tie are reckoned -/
structure TieSz (t : Tie Str) (x : Rat) : Prop where
  g : 0 < t.gain
  z1 : Sz 4000 (t.most - x)
  z2 : Sz 4000 (x * t.gain)
  z3 : Sz 4000 (1 / t.gain)
theorem fr_one {H : Hp} {a : Addr} (h : ∀ H : Hp, SqT K H a [.int 1, .int 1]) : FrV K H (.ref a) 1 := ⟨a, rfl, .inr h, Sz.one.mono (by decide)⟩
def sp_steps_of_tie (K : PySem.W.Frag) : Sp := sp3 fun a b c H Q => ∃ (i : Nat) (t : Tie Str) (x : Rat), a = .int i ∧ TieV K H b t ∧ FrV K H c x ∧ TieSz t x ∧ RetLs (StV K) (stepsOfTie i t x) H Q
/-! steps_of_tie: slots 0:number 1:tie 2:goes 3:begin 4:end 5:most 6:gain 7:price 8:found -/
abbrev N_steps_of_tie : List Str := ["number", "tie", "goes", "begin", "end", "most", "gain", "price", "found"]
theorem sc_steps_of_tie : FnScope N_steps_of_tie ["number", "tie", "goes"] (defScope s_steps_of_tie) := ⟨rfl, rfl, rfl, by decide +kernel, rfl, by decide +kernel, by decide +kernel⟩
theorem ok_steps_of_tie (T : Txt K mg) : DOk P w K mg base "steps_of_tie" ["number", "tie", "goes"] 4 (sp_steps_of_tie K) := by
  have G_over := ok_over (P := P) (w := w) (base := base) T
  have G_times := ok_times (P := P) (w := w) (base := base) T
  have G_compared := ok_compared (P := P) (w := w) (base := base) T
  have G_taken := ok_taken (P := P) (w := w) (base := base) T
  obtain ⟨aO_ONE_fractions, hO_ONE_fractions, tO_ONE_fractions⟩ := T.o_ONE_fractions
  have g_ONE_fractions : GC mg "ONE_fractions" (.ref aO_ONE_fractions) := ⟨_, hO_ONE_fractions, rfl⟩
  refine T.d_steps_of_tie.ok sc_steps_of_tie sp3_len (fun f cdv A outer s H vs Q E hr h => ?_)
  refine ⟨_, (pss_cons (ps_asg (pv 1) (pgT K 5 rfl (pgs_cons (pg_name (i := 3) sc_steps_of_tie.nd rfl (Or.inl rfl)) (pgs_cons (pg_name (i := 4) sc_steps_of_tie.nd rfl (Or.inl rfl)) (pgs_cons (pg_name (i := 5) sc_steps_of_tie.nd rfl (Or.inl rfl)) (pgs_cons (pg_name (i := 6) sc_steps_of_tie.nd rfl (Or.inl rfl)) (pgs_cons (pg_name (i := 7) sc_steps_of_tie.nd rfl (Or.inl rfl)) pgs_nil)))))))
        (pss_cons (ps_set (i := 8) sc_steps_of_tie.nd rfl (Or.inl rfl) (pe_lst pa_nil))
        (Evl.pss_cut (ps_if (pt_cmpR op_lt (pe_callD G_compared (hr.mono (by decide)) (pa_cons (pv 2) (pa_cons (pv 5) pa_nil))) pe_int (nomark _)) (pss_one (ps_expr (pe_bm PySem.F.plainAttrs_list PySem.F.slot_list_append PySem.F.type_list_append mt_append (pv 8) (pa_cons (pe_tup (pa_cons (pv 0) (pa_cons pe_bl (pa_cons (pv 3) (pa_cons (pv 4) (pa_cons (pe_callD G_taken (hr.mono (by decide)) (pa_cons (pv 5) (pa_cons (pv 2) pa_nil))) (pa_cons (pv 6) pa_nil))))))) pa_nil)))) pss_nil)
        (Evl.pss_cut (ps_if (pt_cmpR op_gt (pe_ix (ixT K) (pv 2) pe_int (fun _ _ => rfl)) pe_int (nomark _)) (pss_one (ps_expr (pe_bm PySem.F.plainAttrs_list PySem.F.slot_list_append PySem.F.type_list_append mt_append (pv 8) (pa_cons (pe_tup (pa_cons (pv 0) (pa_cons pe_bl (pa_cons (pv 4) (pa_cons (pv 3) (pa_cons (pe_callD G_times (hr.mono (by decide)) (pa_cons (pv 2) (pa_cons (pv 6) pa_nil))) (pa_cons (pe_callD G_over (hr.mono (by decide)) (pa_cons (pe_gc g_ONE_fractions) (pa_cons (pv 6) pa_nil))) pa_nil))))))) pa_nil)))) pss_nil)
        (pss_one (ps_ret (pv 8))))))), ?_⟩
  obtain ⟨_, _, c, rfl, i, t, x, rfl, ⟨a, vm, vg, vp, qp, rfl, ht, hm, hg, hp⟩, hx, S, k⟩ := h
  refine ⟨_, rfl, a, _, rfl, ht.sq, rfl, _, _, rfl, _, _, rfl, _, _, rfl, _, _, rfl, _, _, rfl, rfl, ?_⟩
  refine ⟨smallE (by decide), fun p hp0 => ?_⟩
  have e0 : Ex H (upd H p (.lst [])) := Ex.new hp0
  refine ⟨fun σ H1 => ∃ (acc : List V), σ = [some (V.int i), some (V.ref a), some c, some (V.str t.b), some (V.str t.e), some vm, some vg, some vp, some (V.ref p)] ∧ Ex H H1 ∧ H1 p = some (.lst acc) ∧
    All2 (StV K H1) acc (if x < t.most then [⟨i, false, t.b, t.e, t.most - x, t.gain⟩] else []), ?_, ?_⟩
  · refine ⟨_, rfl, _, rfl, _, _, rfl, x, t.most, hx.ex e0, hm.ex e0, _, _, rfl, rfl, _, rfl, ite2 (fun hb => ?_) (fun hb => ?_)⟩
    · have hlt : x < t.most := sgn_neg.mp (of_decide_eq_true hb)
      refine ⟨_, rfl, .inl ⟨rfl, _, SqL.of upd_same⟩, _, rfl, _, rfl, _, rfl, _, rfl, _, rfl, _, _, rfl, t.most, x, hm.ex e0, hx.ex e0, trivial, S.z1, fun v H1 e1 h1 => ?_⟩
      refine ⟨_, rfl, smallE (by simp), fun q hq => ?_⟩
      have e2 : Ex (upd H p (.lst [])) (upd H1 q (.tup [.int i, .bl false, .str t.b, .str t.e, v, vg])) := e1.trans (Ex.new hq)
      have hp2 := e2 _ _ upd_same
      refine ⟨p, [], _, rfl, rfl, hp2, small (by decide), _, rfl, (e0.trans e2).upd_new hp0, upd_same, ?_⟩
      rw [if_pos hlt]
      refine .cons ⟨q, v, vg, rfl, .of ?_, (h1.ex (Ex.new hq)).mono (.wl hp2), (hg.ex (e0.trans e2)).mono (.wl hp2)⟩ .nil
      rw [upd_ne (ne_of upd_same hp2 (by intro z; cases z)), upd_same]
    · have hge : ¬ x < t.most := fun q => hb (decide_eq_true (sgn_neg.mpr q))
      refine ⟨[], rfl, e0, upd_same, ?_⟩
      rw [if_neg hge]
      exact .nil
  · rintro σ H1 ⟨acc, rfl, e1, hp1, ha⟩
    have hl : acc.length ≤ 1 := by
      rw [ha.length]
      split <;> simp
    refine ⟨fun σ H2 => ∃ (acc : List V), σ[8]? = some (some (V.ref p)) ∧ Ex H H2 ∧ H2 p = some (.lst acc) ∧ All2 (StV K H2) acc (stepsOfTie i t x), ?_, ?_⟩
    · obtain ⟨ax, rfl, hx2, zx⟩ := id hx
      refine ⟨_, rfl, _, _, _, _, rfl, rfl, (hx2.mono (.of e1)).sq, rfl, _, _, rfl, rfl, _, rfl, ite2 (fun hb => ?_) (fun hb => ?_)⟩
      · have hpos : 0 < x := num_pos_iff.mp (of_decide_eq_true hb)
        refine ⟨_, rfl, .inl ⟨rfl, _, SqL.of hp1⟩, _, rfl, _, rfl, _, rfl, _, rfl, _, rfl, _, _, rfl, x, t.gain, hx.ex e1, hg.ex e1, trivial, S.z2, fun v H2 e2 h2 => ?_⟩
        refine ⟨_, rfl, _, _, rfl, 1, t.gain, fr_one tO_ONE_fractions, hg.ex (e1.trans e2), S.g, S.z3, fun v3 H3 e3 h3 => ?_⟩
        refine ⟨smallE (by simp), fun q hq => ?_⟩
        have e4 : Ex H1 (upd H3 q (.tup [.int i, .bl true, .str t.e, .str t.b, v, v3])) := (e2.trans e3).trans (Ex.new hq)
        have hp4 := e4 _ _ hp1
        refine ⟨p, acc, _, rfl, rfl, hp4, small (by omega), _, rfl, (e1.trans e4).upd_new hp0, upd_same, ?_⟩
        unfold stepsOfTie
        rw [if_pos hpos]
        refine ((ha.tm tm_st (.of e4)).tm tm_st (.wl hp4)).snoc ⟨q, v, v3, rfl, .of ?_, ((h2.ex e3).ex (Ex.new hq)).mono (.wl hp4), (h3.ex (Ex.new hq)).mono (.wl hp4)⟩
        rw [upd_ne (ne_of upd_same hp4 (by intro z; cases z)), upd_same]
      · have hge : ¬ 0 < x := fun q => hb (decide_eq_true (num_pos_iff.mpr q))
        refine ⟨acc, rfl, e1, hp1, ?_⟩
        unfold stepsOfTie
        rw [if_neg hge, List.append_nil]
        exact ha
    · rintro σ H2 ⟨acc, hσ, e2, hp2, ha2⟩
      exact ⟨_, hσ, k p H2 acc hp0 e2 hp2 ha2⟩
end
end GW
set_option Elab.async false
set_option linter.all false
set_option maxRecDepth 100000
set_option maxHeartbeats 4000000
/-! WL2: left_steps -/
namespace GW
open PySem PySem.Spec PyProof.Rows L2 GM
section
variable {P : Program} {w : World} {K : PySem.W.Frag} {mg : Str → Option Value} {base : Heap}
/-- what is asked of a net and a stream so that its steps can be told -/
structure StepsSz (ts : List (Tie Str)) (xs : List Rat) : Prop where
  len : xs.length = ts.length
  few : ts.length ≤ 100
  sz : ∀ (i : Nat) t x, ts[i]? = some t → xs[i]? = some x → TieSz t x
def sp_left_steps (K : PySem.W.Frag) : Sp := sp2 fun a b H Q => ∃ ps ts xs, NetV K H a ps ts ∧ LsV (FrV K) H b xs ∧ StepsSz ts xs ∧ RetLs (StV K) (stepsOf ts xs) H Q
/-! left_steps: slots 0:net 1:stream 2:found 3:number 4:tie -/
abbrev N_left_steps : List Str := ["net", "stream", "found", "number", "tie"]
theorem sc_left_steps : FnScope N_left_steps ["net", "stream"] (defScope s_left_steps) := ⟨rfl, rfl, rfl, by decide +kernel, rfl, by decide +kernel, by decide +kernel⟩
theorem ok_left_steps (T : Txt K mg) : DOk P w K mg base "left_steps" ["net", "stream"] 5 (sp_left_steps K) := by
  have G_steps_of_tie := ok_steps_of_tie (P := P) (w := w) (base := base) T
  refine T.d_left_steps.ok sc_left_steps sp2_len (fun f cdv A outer s H vs Q E hr h => ?_)
  refine ⟨_, (pss_cons (ps_set (i := 2) sc_left_steps.nd rfl (Or.inl rfl) (pe_lst pa_nil))
        (pss_cons (ps_for PassesOwn.never rfl (pi_enumT (by rfl) T.n_enumerate (pa_cons (pe_ix (ixT K) (pv 0) pe_int (fun _ _ => rfl)) pa_nil)) (pgT K 2 rfl (pgs_cons (pg_name (i := 3) sc_left_steps.nd rfl (Or.inl rfl)) (pgs_cons (pg_name (i := 4) sc_left_steps.nd rfl (Or.inl rfl)) pgs_nil))) (pss_one (ps_expr (pe_bm PySem.F.plainAttrs_list PySem.F.slot_list_extend PySem.F.type_list_extend mt_extend (pv 2) (pa_cons (pe_callD G_steps_of_tie (hr.mono (by decide)) (pa_cons (pv 3) (pa_cons (pv 4) (pa_cons (pe_ix (ixL K) (pv 1) (pv 3) (fun _ _ => rfl)) pa_nil)))) pa_nil)))))
        (pss_one (ps_ret (pv 2))))), ?_⟩
  obtain ⟨_, _, rfl, ps, ts, xs, ⟨na, nb, nc, tv, rfl, h1, h2, h3, h4⟩, ⟨sa, sv, rfl, h5, h6⟩, S, k⟩ := h
  refine ⟨smallE (by simp), fun p hp => ?_⟩
  have e0 : Ex H (upd H p (.lst [])) := Ex.new hp
  have ltv : tv.length = ts.length := h4.length
  refine ⟨_, rfl, _, _, _, .ref nc, rfl, rfl, (h1.mono (.of e0)).sq, rfl, nc, tv, rfl, (h3.mono (.of e0)).sq, ?_⟩
  refine for_it walk_T (fun i σ H' => ∃ n t acc, σ = [some (.ref na), some (.ref sa), some (.ref p), n, t] ∧ Ex H H' ∧ H' p = some (.lst acc) ∧ All2 (StV K H') acc (stepsTo ts xs i))
    ⟨none, none, [], rfl, e0, upd_same, .nil⟩ (fun i σ H' _ ⟨_, _, _, _, e, _⟩ => (h3.mono (.of e)).sq) ?_ ?_
  · rintro i y σ H' H2 hi ⟨n, t, acc, rfl, e, hp', ha⟩ ⟨T, _, rfl, hT, rfl, tv', htv, rfl⟩
    have e1 : Ex H' (upd H' T (.tup [.int (i : Nat), tv'])) := Ex.new hT
    have e2 := e.trans e1
    obtain ⟨t0, ht0, rt0⟩ := h4.get htv
    have hxi : i < xs.length := by rw [S.len, ← ltv]; exact hi
    obtain ⟨x0, hx0⟩ : ∃ x0, xs[i]? = some x0 := ⟨_, List.getElem?_eq_getElem hxi⟩
    obtain ⟨xv, hxv, rx0⟩ := h6.get' hx0
    refine ⟨T, _, rfl, SqT.of upd_same, rfl, _, _, rfl, _, _, rfl, rfl, ?_⟩
    have hp2 := e1 _ _ hp'
    refine ⟨_, rfl, .inl ⟨rfl, _, SqL.of hp2⟩, _, rfl, _, rfl, _, rfl, _, rfl, sa, _, _, xv, rfl, rfl, SqL.of (e2 _ _ h5), atI_nat hxv, ?_⟩
    refine ⟨_, _, _, rfl, i, t0, x0, rfl, rt0.mono (.of e2), rx0.ex e2, S.sz i t0 x0 ht0 hx0, fun q H3 zs hq e3 hq3 hzs => ?_⟩
    have hp3 := e3 _ _ hp2
    have hla : acc.length ≤ 200 := by
      rw [ha.length]
      have := stepsTo_len ts xs i
      have := S.few
      omega
    have hlz : zs.length ≤ 2 := by
      rw [hzs.length]
      exact stepsOfTie_len ..
    refine ⟨p, q, acc, zs, rfl, rfl, hp3, hq3, smallE (by omega), ?_⟩
    refine ⟨_, _, acc ++ zs, rfl, (e2.trans e3).upd_new hp, upd_same, ?_⟩
    rw [stepsTo_succ ht0 hx0]
    exact (((ha.tm tm_st (.of e1)).tm tm_st (.of e3)).append hzs).tm tm_st (.wl hp3)
  · rintro σ H' ⟨n, t, acc, rfl, e, hp', ha⟩
    refine ⟨_, rfl, k p H' acc hp e hp' ?_⟩
    rw [ltv] at ha
    exact ha
end
end GW
set_option Elab.async false
set_option linter.all false
set_option maxRecDepth 100000
set_option maxHeartbeats 4000000
/-! WR: rounds.py -/
namespace GW
open PySem PySem.Spec PyProof.Rows L2 GM
section
variable {P : Program} {w : World} {K : PySem.W.Frag} {mg : Str → Option Value} {base : Heap}
/-- a lane: begin, end, gain -/
def LaneV (K : PySem.W.Frag) (H : Hp) (v : V) (s : Step Str) : Prop := ∃ a vg, v = .ref a ∧ Tp K H a [.str s.b, .str s.e, vg] ∧ FrV K H vg s.gain
theorem tm_lane : TM (LaneV K) := fun _ _ _ _ e ⟨a, vg, h1, h2, h3⟩ => ⟨a, vg, h1, h2.mono e, h3.mono e⟩
/-- worths by places -/
def WorV (K : PySem.W.Frag) (H : Hp) (a : Addr) (ps : List Str) (W : Str → Rat) (n : Nat) : Prop := ∃ f, DicV H a f n ∧ ∀ p ∈ ps, ∃ v, f p = some v ∧ FrV K H v (W p)
/-- lanes' numbers by places -/
def NxtV (H : Hp) (b : Addr) (N : Str → Option Nat) (n : Nat) : Prop := DicV H b (fun x => (N x).map fun i => V.int (i : Nat)) n
theorem DicV.upd_ne {H : Hp} {a b : Addr} {f : Str → Option V} {n : Nat} {o : HO} (h : DicV H a f n) (ne : a ≠ b) : DicV (upd H b o) a f n := by
  obtain ⟨kvs, h1, h2⟩ := h
  exact ⟨kvs, by rw [L2.upd_ne ne]; exact h1, h2⟩
theorem DicV.le {H : Hp} {a : Addr} {f : Str → Option V} {n m : Nat} (h : DicV H a f n) (l : n ≤ m) : DicV H a f m := by
  obtain ⟨kvs, h1, h2, h3⟩ := h
  exact ⟨kvs, h1, Nat.le_trans h2 l, h3⟩
theorem WorV.ex {H H' : Hp} {a : Addr} {ps : List Str} {W : Str → Rat} {n : Nat} (h : WorV K H a ps W n) (e : Ex H H') : WorV K H' a ps W n := by
  obtain ⟨f, h1, h2⟩ := h
  refine ⟨f, h1.ex e, fun p hp => ?_⟩
  obtain ⟨v, h3, h4⟩ := h2 p hp
  exact ⟨v, h3, h4.ex e⟩
/-- all but what stands at two places stays -/
def But2 (a b : Addr) (H H' : Hp) : Prop := ∀ c o, c ≠ a → c ≠ b → H c = some o → H' c = some o
theorem But2.ex {a b : Addr} {H H1 H2 : Hp} (h : But2 a b H H1) (e : Ex H1 H2) : But2 a b H H2 := fun c o h1 h2 h3 => e _ _ (h c o h1 h2 h3)
theorem But2.tx {a b : Addr} {H H' : Hp} {xs ys : List (Key × V)} (h : But2 a b H H') (ha : H a = some (.dK xs)) (hb : H b = some (.dK ys)) : TX H H' := fun c zs hc =>
  h c _ (ne_of hc ha (by intro z; cases z)) (ne_of hc hb (by intro z; cases z)) hc
theorem DicV.at {H : Hp} {a : Addr} {f : Str → Option V} {n : Nat} (h : DicV H a f n) : ∃ kvs, H a = some (.dK kvs) := let ⟨kvs, h1, _⟩ := h; ⟨kvs, h1⟩

def sp_grow_once (K : PySem.W.Frag) : Sp := sp3 fun a b c H Q => ∃ (la wa na : Addr) (lv : List V) (ps : List Str) (L : List (Step Str)) (W : Str → Rat) (N : Str → Option Nat) (ts rk : Str → Nat) (T r nw nn : Nat),
  a = .ref la ∧ b = .ref wa ∧ c = .ref na ∧ wa ≠ na ∧ H la = some (.lst lv) ∧ All2 (LaneV K H) lv L ∧ WorV K H wa ps W nw ∧ NxtV H na N nn ∧ nw + L.length ≤ 10000 ∧ nn + L.length ≤ 10000 ∧
  LaneOk ps L ∧ Grow L W N ts rk T ∧ T + L.length ≤ 600 ∧ Seen L W rk r 0 ∧ (∀ p, rk p ≤ r) ∧
  ∀ (g : Bool) H' W' N' ts' rk', But2 wa na H H' → WorV K H' wa ps W' (nw + L.length) → NxtV H' na N' (nn + L.length) → Grow L W' N' ts' rk' (T + L.length) → Seen L W' rk' r L.length → (∀ p, rk' p ≤ r) →
    (g = true → ∃ p ∈ ps, rk' p = r) → (g = false → ∀ s ∈ L, s.gain * W' s.e ≤ W' s.b) → Q (.bl g) H'
/-! grow_once: slots 0:lanes 1:worths 2:nexts 3:grown 4:number 5:begin 6:end 7:gain 8:other -/
abbrev N_grow_once : List Str := ["lanes", "worths", "nexts", "grown", "number", "begin", "end", "gain", "other"]
theorem sc_grow_once : FnScope N_grow_once ["lanes", "worths", "nexts"] (defScope s_grow_once) := ⟨rfl, rfl, rfl, by decide +kernel, rfl, by decide +kernel, by decide +kernel⟩
theorem ok_grow_once (T : Txt K mg) : DOk P w K mg base "grow_once" ["lanes", "worths", "nexts"] 4 (sp_grow_once K) := by
  have G_compared := ok_compared (P := P) (w := w) (base := base) T
  have G_times := ok_times (P := P) (w := w) (base := base) T
  refine T.d_grow_once.ok sc_grow_once sp3_len (fun f cdv A outer s H vs Q E hr h => ?_)
  refine ⟨_, (pss_cons (ps_set (i := 3) sc_grow_once.nd rfl (Or.inl rfl) pe_bl)
        (pss_cons (ps_for PassesOwn.never rfl (pi_enum (by rfl) T.n_enumerate (pa_cons (pv 0) pa_nil)) (pgT K 2 rfl (pgs_cons (pg_name (i := 4) sc_grow_once.nd rfl (Or.inl rfl)) (pgs_cons (pgT K 3 rfl (pgs_cons (pg_name (i := 5) sc_grow_once.nd rfl (Or.inl rfl)) (pgs_cons (pg_name (i := 6) sc_grow_once.nd rfl (Or.inl rfl)) (pgs_cons (pg_name (i := 7) sc_grow_once.nd rfl (Or.inl rfl)) pgs_nil)))) pgs_nil))) (pss_cons (ps_set (i := 8) sc_grow_once.nd rfl (Or.inl rfl) (pe_callD G_times (hr.mono (by decide)) (pa_cons (pv 7) (pa_cons (pe_dget (hu_of hr) (pv 1) (pv 6) (fun _ _ => rfl)) pa_nil))))
        (pss_one (ps_if (pt_cmpR op_gt (pe_callD G_compared (hr.mono (by decide)) (pa_cons (pv 8) (pa_cons (pe_dget (hu_of hr) (pv 1) (pv 5) (fun _ _ => rfl)) pa_nil))) pe_int (nomark _)) (pss_cons (ps_dput (hu_of hr) (pv 1) (pv 5) (pv 8) rfl)
        (pss_cons (ps_dput (hu_of hr) (pv 2) (pv 5) (pv 4) rfl)
        (pss_one (ps_set (i := 3) sc_grow_once.nd rfl (Or.inl rfl) pe_bl)))) pss_nil))))
        (pss_one (ps_ret (pv 3))))), ?_⟩
  obtain ⟨_, _, _, rfl, la, wa, na, lv, ps, L, W, N, ts, rk, T, r, nw, nn, rfl, rfl, rfl, hwn, hla, hlv, hW, hN, bw, bn, O, G, bT, S, R, k⟩ := h
  have lvL : lv.length = L.length := hlv.length
  obtain ⟨kw, hkw⟩ : ∃ kvs, H wa = some (.dK kvs) := by
    obtain ⟨f, hf, _⟩ := hW
    exact hf.at
  obtain ⟨kn, hkn⟩ := DicV.at hN
  have nlw : la ≠ wa := ne_of hla hkw (by intro z; cases z)
  have nln : la ≠ na := ne_of hla hkn (by intro z; cases z)
  refine ⟨_, rfl, la, lv, rfl, SqL.of hla, for_it walk_en (fun i σ H' => ∃ (g : Bool) (x1 x2 x3 x4 x5 : Option V) (W' : Str → Rat) (N' : Str → Option Nat) (ts' rk' : Str → Nat), σ = [some (.ref la), some (.ref wa), some (.ref na), some (.bl g), x1, x2, x3, x4, x5] ∧ But2 wa na H H' ∧
    WorV K H' wa ps W' (nw + i) ∧ NxtV H' na N' (nn + i) ∧ Grow L W' N' ts' rk' (T + i) ∧ Seen L W' rk' r i ∧ (∀ p, rk' p ≤ r) ∧ (g = true → ∃ p ∈ ps, rk' p = r) ∧ (g = false → ∀ (j : Nat) s, j < i → L[j]? = some s → ¬ W' s.b < s.gain * W' s.e))
    ⟨false, none, none, none, none, none, W, N, ts, rk, rfl, fun _ _ _ _ h => h, hW, hN, G, S, R, (fun q => nomatch q), fun _ j s hj _ => by omega⟩
    (fun i σ H' _ ⟨_, _, _, _, _, _, _, _, _, _, _, e, _⟩ => SqL.of (e _ _ nlw nln hla)) ?_ ?_⟩
  · rintro i y σ H' H2 hi ⟨g, x1, x2, x3, x4, x5, W', N', ts', rk', rfl, e, hW', hN', G', S', R', g1, g2⟩ ⟨Tu, lvi, rfl, hT, rfl, hlvi⟩
    have hiL : i < L.length := by omega
    obtain ⟨s0, hs0, rs0⟩ := hlv.get hlvi
    have hsL : s0 ∈ L := List.mem_of_getElem? hs0
    have e1 : Ex H' (upd H' Tu (.tup [.int (i : Nat), lvi])) := Ex.new hT
    have tx0 : TX H H' := e.tx hkw hkn
    obtain ⟨ta, vg, rfl, ht, hg⟩ := tm_lane _ _ _ _ (tx0.trans (.of e1)) rs0
    have hW2 := hW'.ex e1
    have hN2 : NxtV _ na N' (nn + i) := DicV.ex hN' e1
    obtain ⟨f, fd, fp⟩ := hW2
    obtain ⟨ve, fe, re⟩ := fp s0.e (O.e s0 hsL)
    obtain ⟨vb, fb, rb⟩ := fp s0.b (O.b s0 hsL)
    refine ⟨Tu, _, rfl, SqT.of upd_same, rfl, _, _, rfl, _, _, rfl, ta, _, rfl, ht.sq, rfl, _, _, rfl, _, _, rfl, _, _, rfl, rfl, rfl, ?_⟩
    have dg : DGet _ wa (.str s0.e) (some ve) := fe ▸ fd.get s0.e
    have sz : Sz 4000 (s0.gain * W' s0.e) := ((O.sz s0 hsL).mul (G'.sz s0.e)).mono (by have := G'.tT s0.e; omega)
    refine ⟨_, rfl, _, rfl, _, rfl, wa, ve, rfl, dg, _, _, rfl, s0.gain, W' s0.e, hg, re, trivial, sz, fun vo H3 e3 h3 => ?_⟩
    have db : DGet H3 wa (.str s0.b) (some vb) := fb ▸ (fd.ex e3).get s0.b
    refine ⟨_, rfl, _, rfl, _, rfl, wa, vb, rfl, db, _, _, rfl, s0.gain * W' s0.e, W' s0.b, h3, rb.ex e3, _, _, rfl, rfl, _, rfl, ite2 (fun hb => ?_) (fun hb => ?_)⟩
    · have hgt : W' s0.b < s0.gain * W' s0.e := sgn_pos.mp (of_decide_eq_true hb)
      obtain ⟨H4, p4, d4, ⟨o4, rfl⟩, tx4⟩ := (fd.ex e3).put (by omega) s0.b vo
      obtain ⟨H5, p5, d5, ⟨o5, rfl⟩, tx5⟩ := ((DicV.ex hN2 e3).upd_ne (o := o4) (Ne.symm hwn)).put (by omega) s0.b (.int (i : Nat))
      refine ⟨_, rfl, _, rfl, _, rfl, wa, _, rfl, p4, _, rfl, _, rfl, _, rfl, na, _, rfl, p5, ?_⟩
      have hrs : r ≤ rk' s0.e + 1 := by
        have := S' i s0 hs0 hgt
        rw [if_neg (Nat.lt_irrefl _)] at this
        exact this
      refine ⟨true, _, _, _, _, _, up W' s0.b (s0.gain * W' s0.e), up N' s0.b (some i), up ts' s0.b (T + i + 1), up rk' s0.b r, rfl, fun c o c1 c2 ho => ?_, ⟨_, (d4.upd_ne hwn).le (by omega), fun p hp => ?_⟩, ?_, G'.step O hs0 hgt hrs (R' _), S'.grow O hs0 hgt R', fun p => ?_, fun _ => ⟨s0.b, O.b s0 hsL, up_same _ _ _⟩, fun q => nomatch q⟩
      · rw [L2.upd_ne c2, L2.upd_ne c1]
        exact e3 _ _ (e1 _ _ (e c o c1 c2 ho))
      · by_cases q : p = s0.b
        · subst q
          rw [GM.up_same]
          exact ⟨vo, if_pos rfl, h3.mono (tx4.trans tx5)⟩
        · rw [GM.up_ne _ _ q]
          obtain ⟨v, h6, h7⟩ := fp p hp
          exact ⟨v, by rw [if_neg q]; exact h6, (h7.ex e3).mono (tx4.trans tx5)⟩
      · refine (show DicV _ na _ _ from ?_)
        have ef : (fun x => (up N' s0.b (some i) x).map fun i => V.int (i : Nat)) = fun y => if y = s0.b then some (V.int (i : Nat)) else (N' y).map fun i => V.int (i : Nat) := by
          funext y
          unfold up
          split <;> rfl
        rw [ef]
        exact d5
      · by_cases q : p = s0.b
        · subst q; rw [GM.up_same]; exact Nat.le_refl _
        · rw [GM.up_ne _ _ q]; exact R' p
    · have hng : ¬ W' s0.b < s0.gain * W' s0.e := fun q => hb (decide_eq_true (sgn_pos.mpr q))
      refine ⟨g, _, _, _, _, _, W', N', ts', rk', rfl, (e.ex e1).ex e3, ⟨f, (fd.ex e3).le (by omega), fun p hp => ?_⟩, ((DicV.ex hN2 e3).le (by omega)), G'.mono (by omega), S'.skip hs0 hng, R', g1, fun q j s hj hs => ?_⟩
      · obtain ⟨v, h6, h7⟩ := fp p hp
        exact ⟨v, h6, h7.ex e3⟩
      · by_cases c : j = i
        · subst c
          rw [hs0] at hs
          cases hs
          exact hng
        · exact g2 q j s (by omega) hs
  · rintro σ H' ⟨g, x1, x2, x3, x4, x5, W', N', ts', rk', rfl, e, hW', hN', G', S', R', g1, g2⟩
    rw [lvL] at hW' hN' G' S' g2
    refine ⟨_, rfl, k g H' W' N' ts' rk' e hW' hN' G' S' R' g1 fun q s hs => ?_⟩
    obtain ⟨j, hj⟩ := List.mem_iff_getElem?.mp hs
    exact Rat.not_lt.mp (g2 q j s (List.getElem?_eq_some_iff.mp hj).1 hj)
end
end GW
set_option Elab.async false
set_option linter.all false
set_option maxRecDepth 100000
set_option maxHeartbeats 4000000
/-! WR2: ring_among -/
namespace GW
open PySem PySem.Spec PyProof.Rows L2 GM
section
variable {P : Program} {w : World} {K : PySem.W.Frag} {mg : Str → Option Value} {base : Heap}
def LeadsOut (ps : List Str) (L : List (Step Str)) (N : Str → Option Nat) (p : Str) : Prop :=
  ∃ l e, Chain p l e ∧ (∀ s ∈ l, Nx L N s) ∧ N e = none ∧ (p :: l.map (·.e)).Nodup ∧ ∀ x ∈ p :: l.map (·.e), x ∈ ps
/-- a ring of lanes, by their numbers -/
def RingIx (L : List (Step Str)) (N : Str → Option Nat) (is : List Nat) (ss : List (Step Str)) : Prop :=
  All2 (fun i s => L[i]? = some s) is ss ∧ (∀ s ∈ ss, Nx L N s) ∧ ss ≠ [] ∧ (ss.map (·.b)).Nodup ∧ ∃ x, Chain x ss x
def sp_ring_among (K : PySem.W.Frag) : Sp := sp3 fun a b c H Q => ∃ (pa la na : Addr) (lv : List V) (ps : List Str) (L : List (Step Str)) (N : Str → Option Nat) (nn : Nat),
  a = .ref pa ∧ b = .ref la ∧ c = .ref na ∧ Tp K H pa (ps.map V.str) ∧ H la = some (.lst lv) ∧ All2 (LaneV K H) lv L ∧ NxtV H na N nn ∧ LaneOk ps L ∧ ps.length ≤ 1000 ∧ (∀ p i, N p = some i → ∃ s, L[i]? = some s ∧ s.b = p) ∧
  ((∀ p ∈ ps, LeadsOut ps L N p) → ∀ H', Ex H H' → Q .non H') ∧
  (∀ q H' is ss, H q = none → Ex H H' → H' q = some (.lst (is.map fun i : Nat => V.int (i : Nat))) → RingIx L N is ss → Q (.ref q) H')
theorem chain_snoc {α : Type} [DecidableEq α] {b c : α} {l : List (Step α)} {s : Step α} (h : Chain b l c) (hs : s.b = c) : Chain b (l ++ [s]) s.e := h.append ⟨hs, rfl⟩
/-- the places of a chain, the last one aside -/
theorem chain_begins {α : Type} [DecidableEq α] : ∀ {l : List (Step α)} {b e : α}, Chain b l e → l.map (·.b) ++ [e] = b :: l.map (·.e)
  | [], b, e, h => by cases h; rfl
  | s :: l, b, e, ⟨h1, h2⟩ => by
    show s.b :: (l.map (·.b) ++ [e]) = b :: s.e :: l.map (·.e)
    rw [chain_begins h2, h1]
/-! ring_among: slots 0:places 1:lanes 2:nexts 3:first 4:met 5:path 6:here -/
abbrev N_ring_among : List Str := ["places", "lanes", "nexts", "first", "met", "path", "here"]
theorem sc_ring_among : FnScope N_ring_among ["places", "lanes", "nexts"] (defScope s_ring_among) := ⟨rfl, rfl, rfl, by decide +kernel, rfl, by decide +kernel, by decide +kernel⟩
theorem ok_ring_among (T : Txt K mg) : DOk P w K mg base "ring_among" ["places", "lanes", "nexts"] 1 (sp_ring_among K) := by
  refine T.d_ring_among.ok sc_ring_among sp3_len (fun f cdv A outer s H vs Q E hr h => ?_)
  refine ⟨_, (pss_cons (ps_for PassesOwn.never rfl (piT K (pv 0)) (pg_name (i := 3) sc_ring_among.nd rfl (Or.inl rfl)) (pss_cons (ps_set (i := 4) sc_ring_among.nd rfl (Or.inl rfl) pe_dnewK)
        (pss_cons (ps_set (i := 5) sc_ring_among.nd rfl (Or.inl rfl) (pe_lst pa_nil))
        (pss_cons (ps_set (i := 6) sc_ring_among.nd rfl (Or.inl rfl) (pv 3))
        (Evl.pss_cut (ps_while PassesOwn.never (PW.pt (pw_and (pt_cmp (pc_din (hu_of hr) (pv 6) (pv 2))) (pw_and1 (pt_cmp (pc_dnotin (hu_of hr) (pv 6) (pv 4)))))) (pss_cons (ps_dput (hu_of hr) (pv 4) (pv 6) (pe_callB (lenK K) (by rfl) T.n_len PySem.boot_len (pa_cons (pv 5) pa_nil)) rfl)
        (pss_cons (ps_expr (pe_bm PySem.F.plainAttrs_list PySem.F.slot_list_append PySem.F.type_list_append mt_append (pv 5) (pa_cons (pe_dget (hu_of hr) (pv 2) (pv 6) (fun _ _ => rfl)) pa_nil)))
        (pss_one (ps_set (i := 6) sc_ring_among.nd rfl (Or.inl rfl) (pe_ix (ixT K) (pe_ix (ixL K) (pv 1) (pe_dget (hu_of hr) (pv 2) (pv 6) (fun _ _ => rfl)) (fun _ _ => rfl)) pe_int (fun _ _ => rfl)))))))
        (pss_one (ps_if (pt_cmp (pc_din (hu_of hr) (pv 6) (pv 4))) (pss_one (ps_ret (pe_slice (slL K) (pv 5) (po_some (pe_dget (hu_of hr) (pv 4) (pv 6) (fun _ _ => rfl))) po_none))) pss_nil)))))))
        (pss_one (ps_ret pe_non))), ?_⟩
  obtain ⟨_, _, _, rfl, pa, la, na, lv, ps, L, N, nn, rfl, rfl, rfl, hpa, hla, hlv, hN, O, hps, hNL, k1, k2⟩ := h
  refine ⟨_, rfl, pa, rfl, ⟨_, hpa.sq⟩, for_tup (K := K) (a := pa) (xs := ps.map V.str) (fun i σ H' => ∃ x3 x4 x5 x6, σ = [some (.ref pa), some (.ref la), some (.ref na), x3, x4, x5, x6] ∧ Ex H H' ∧ ∀ p ∈ ps.take i, LeadsOut ps L N p)
    ⟨none, none, none, none, rfl, Ex.refl _, by simp⟩ (fun i σ H' _ ⟨_, _, _, _, _, e, _⟩ => (hpa.mono (.of e)).sq) ?_ ?_⟩
  · rintro i y σ H0 hy ⟨x3, x4, x5, x6, rfl, e0, hl⟩
    obtain ⟨first, hf, rfl⟩ : ∃ z, ps[i]? = some z ∧ y = V.str z := by
      rw [List.getElem?_map] at hy
      cases q : ps[i]? with
      | none => rw [q] at hy; cases hy
      | some z => rw [q] at hy; exact ⟨z, rfl, (Option.some.inj hy).symm⟩
    have hfp : first ∈ ps := List.mem_of_getElem? hf
    intro md hmd
    refine ⟨smallE (by simp), fun pd hpd => ?_⟩
    have mdpd : md ≠ pd := ne_of_none upd_same hpd
    have eA : Ex H (upd (upd H0 md (.dK [])) pd (.lst [])) := (e0.upd_new (e0.back hmd)).upd_new ((e0.upd_new (e0.back hmd)).back hpd)
    have nmd : H md = none := e0.back hmd
    have npd : H pd = none := (e0.upd_new nmd).back hpd
    refine ⟨_, rfl, ?_⟩
    -- what holds in the walk from the first place on
    let Inv0 : List Nat → List (Step Str) → Str → (Str → Option V) → Hp → Prop := fun is ss here g H' => Ex H H' ∧ H' pd = some (.lst (is.map fun i : Nat => V.int (i : Nat))) ∧ DicV H' md g is.length ∧ All2 (fun i s => L[i]? = some s) is ss ∧ Chain first ss here ∧
      (∀ s ∈ ss, Nx L N s) ∧ (∀ (j : Nat) s, ss[j]? = some s → g s.b = some (.int (j : Nat))) ∧ (∀ x v, g x = some v → ∃ j : Nat, ∃ s, ss[j]? = some s ∧ s.b = x ∧ v = V.int (j : Nat)) ∧ (ss.map (·.b)).Nodup ∧ (∀ s ∈ ss, s.b ∈ ps) ∧ here ∈ ps
    refine ⟨fun σ H' => ∃ is ss here g, σ = [some (.ref pa), some (.ref la), some (.ref na), some (.str first), some (.ref md), some (.ref pd), some (.str here)] ∧ Inv0 is ss here g H' ∧ (N here = none ∨ g here ≠ none), ?_, ?_⟩
    · refine ⟨fun m σ H' => ∃ is ss here g, σ = [some (.ref pa), some (.ref la), some (.ref na), some (.str first), some (.ref md), some (.ref pd), some (.str here)] ∧ Inv0 is ss here g H' ∧ m = ps.length - ss.length,
        ⟨_, [], [], first, fun _ => none, rfl, ⟨eA, upd_same, ⟨[], by rw [upd_ne mdpd]; exact upd_same, Nat.le_refl _, fun _ => rfl⟩, .nil, rfl, by simp, by simp, (fun _ _ q => nomatch q), List.nodup_nil, by simp, hfp⟩, rfl⟩, ?_⟩
      rintro m σ H' ⟨is, ss, here, g, rfl, ⟨e, hpd', hmd', hat, hch, hnx, hg1, hg2, hnd, hbp, hhp⟩, rfl⟩
      have hN' : NxtV H' na N nn := DicV.ex hN e
      refine ⟨_, rfl, _, rfl, na, _, rfl, hN'.get here, _, rfl, ?_⟩
      cases hNh : N here with
      | none =>
        refine iteF (iteF ⟨is, ss, here, g, rfl, ⟨e, hpd', hmd', hat, hch, hnx, hg1, hg2, hnd, hbp, hhp⟩, .inl hNh⟩)
      | some i0 =>
        refine iteT ⟨_, rfl, _, rfl, md, _, rfl, hmd'.get here, _, rfl, ?_⟩
        cases hgh : g here with
        | some v0 =>
          exact iteF ⟨is, ss, here, g, rfl, ⟨e, hpd', hmd', hat, hch, hnx, hg1, hg2, hnd, hbp, hhp⟩, .inr (by rw [hgh]; exact fun q => nomatch q)⟩
        | none =>
          obtain ⟨s0, hs0, hs0b⟩ := hNL here i0 hNh
          have hsL : s0 ∈ L := List.mem_of_getElem? hs0
          obtain ⟨lv0, hlv0, rlv0⟩ := hlv.get' hs0
          have hnb : here ∉ ss.map (·.b) := fun q => by
            obtain ⟨s, hs, hsb⟩ := List.mem_map.mp q
            obtain ⟨j, hj⟩ := List.mem_iff_getElem?.mp hs
            have := hg1 j s hj
            rw [hsb, hgh] at this
            cases this
          have hnd' : ((ss ++ [s0]).map (·.b)).Nodup := by
            rw [List.map_append]
            show (ss.map (·.b) ++ [s0.b]).Nodup
            rw [hs0b]
            exact nd_snoc hnd hnb
          have hbp' : ∀ s ∈ ss ++ [s0], s.b ∈ ps := fun s hs => by
            rcases List.mem_append.mp hs with q | q
            · exact hbp s q
            · rw [List.mem_singleton.mp q, hs0b]; exact hhp
          have hle : ss.length + 1 ≤ ps.length := by
            have := nodup_le hnd' (ps := ps) (fun x hx => by
              obtain ⟨s, hs, rfl⟩ := List.mem_map.mp hx
              exact hbp' s hs)
            simpa using this
          have isl : is.length = ss.length := hat.length
          refine iteT ⟨fun σ H' => ∃ is' ss' here' g', σ = [some (.ref pa), some (.ref la), some (.ref na), some (.str first), some (.ref md), some (.ref pd), some (.str here')] ∧ Inv0 is' ss' here' g' H' ∧ ss'.length = ss.length + 1, ?_, ?_⟩
          · rintro σ' H2 ⟨is', ss', here', g', rfl, h', hl'⟩
            exact ⟨ps.length - ss'.length, by omega, is', ss', here', g', rfl, h', rfl⟩
          obtain ⟨H2, p2, d2, ⟨o2, rfl⟩, tx2⟩ := hmd'.put (by omega) here (.int ((is.map fun i : Nat => V.int (i : Nat)).length : Nat))
          refine ⟨_, rfl, pd, _, rfl, .inl (SqL.of hpd'), _, rfl, _, rfl, md, _, rfl, p2, ?_⟩
          have e2 : Ex H (upd H' md o2) := e.upd_new nmd
          have hN2 : NxtV (upd H' md o2) na N nn := DicV.ex hN e2
          have g2 : DGet (upd H' md o2) na (.str here) (some (.int (i0 : Nat))) := by
            have := hN2.get here
            rw [hNh] at this
            exact this
          have pd2 : upd H' md o2 pd = some (.lst (is.map fun i : Nat => V.int (i : Nat))) := by rw [upd_ne (Ne.symm mdpd)]; exact hpd'
          refine ⟨_, rfl, .inl ⟨rfl, _, SqL.of pd2⟩, _, rfl, _, rfl, na, _, rfl, g2, pd, _, _, rfl, rfl, pd2, small (by simp; omega), ?_⟩
          have e3 : Ex H (upd (upd H' md o2) pd (.lst ((is.map fun i : Nat => V.int (i : Nat)) ++ [V.int (i0 : Nat)]))) := e2.upd_new npd
          have hN3 : NxtV _ na N nn := DicV.ex hN e3
          have g3 : DGet (upd (upd H' md o2) pd (.lst ((is.map fun i : Nat => V.int (i : Nat)) ++ [V.int (i0 : Nat)]))) na (.str here) (some (.int (i0 : Nat))) := by
            have := hN3.get here
            rw [hNh] at this
            exact this
          obtain ⟨ta, vg, rfl, ht, hgn⟩ := rlv0
          refine ⟨_, rfl, _, rfl, _, rfl, na, _, rfl, g3, la, lv, _, .ref ta, rfl, rfl, SqL.of (e3 _ _ hla), atI_nat hlv0, ta, _, _, .str s0.e, rfl, rfl, (ht.mono (.of e3)).sq, rfl, ?_⟩
          refine ⟨is ++ [i0], ss ++ [s0], s0.e, fun y => if y = here then some (V.int ((is.map fun i : Nat => V.int (i : Nat)).length : Nat)) else g y, rfl, ⟨e3, ?_, ?_, hat.snoc hs0, chain_snoc hch hs0b, fun s hs => ?_, fun j s hj => ?_, fun x v hv => ?_, hnd', hbp', O.e s0 hsL⟩, by simp⟩
          · rw [upd_same, List.map_append]; rfl
          · rw [List.length_append]
            exact (d2.upd_ne (o := .lst ((is.map fun i : Nat => V.int (i : Nat)) ++ [V.int (i0 : Nat)])) mdpd)
          · rcases List.mem_append.mp hs with q | q
            · exact hnx s q
            · rw [List.mem_singleton.mp q]; exact ⟨i0, by rw [hs0b]; exact hNh, hs0⟩
          · by_cases c : j < ss.length
            · rw [List.getElem?_append_left c] at hj
              have hne : s.b ≠ here := fun q => hnb (q ▸ List.mem_map.mpr ⟨s, List.mem_of_getElem? hj, rfl⟩)
              show (if s.b = here then _ else g s.b) = _
              rw [if_neg hne]
              exact hg1 j s hj
            · rw [List.getElem?_append_right (by omega)] at hj
              have hj0 : j - ss.length = 0 := by
                have := (List.getElem?_eq_some_iff.mp hj).1
                simp at this
                omega
              rw [hj0] at hj
              simp at hj
              subst hj
              show (if s0.b = here then _ else g s0.b) = _
              rw [if_pos hs0b, List.length_map, isl]
              have : j = ss.length := by omega
              rw [this]
          · by_cases c : x = here
            · subst c
              have hv' : some (V.int ((is.map fun i : Nat => V.int (i : Nat)).length : Nat)) = some v := by
                have : (if x = x then some (V.int ((is.map fun i : Nat => V.int (i : Nat)).length : Nat)) else g x) = some v := hv
                rwa [if_pos rfl] at this
              refine ⟨ss.length, s0, by simp, hs0b, ?_⟩
              rw [← isl]
              rw [List.length_map] at hv'
              exact (Option.some.inj hv').symm
            · have hv' : g x = some v := by
                have : (if x = here then some (V.int ((is.map fun i : Nat => V.int (i : Nat)).length : Nat)) else g x) = some v := hv
                rwa [if_neg c] at this
              obtain ⟨j, s, h1, h2, h3⟩ := hg2 x v hv'
              exact ⟨j, s, by rw [List.getElem?_append_left (List.getElem?_eq_some_iff.mp h1).1]; exact h1, h2, h3⟩
    · rintro σ H' ⟨is, ss, here, g, rfl, ⟨e, hpd', hmd', hat, hch, hnx, hg1, hg2, hnd, hbp, hhp⟩, hend⟩
      refine ⟨_, rfl, _, rfl, md, _, rfl, hmd'.get here, _, rfl, ?_⟩
      cases hgh : g here with
      | none =>
        refine iteF ⟨_, _, _, _, rfl, e, fun p hp => ?_⟩
        rw [take_snoc hf] at hp
        rcases List.mem_append.mp hp with q | q
        · exact hl p q
        rw [List.mem_singleton.mp q]
        have hNh : N here = none := hend.resolve_right fun z => z hgh
        have hnb : here ∉ ss.map (·.b) := fun q => by
          obtain ⟨s, hs, hsb⟩ := List.mem_map.mp q
          obtain ⟨j, hj⟩ := List.mem_iff_getElem?.mp hs
          have := hg1 j s hj
          rw [hsb, hgh] at this
          cases this
        have eb := chain_begins hch
        refine ⟨ss, here, hch, hnx, hNh, ?_, fun x hx => ?_⟩
        · rw [← eb]
          exact nd_snoc hnd hnb
        · rw [← eb] at hx
          rcases List.mem_append.mp hx with q | q
          · obtain ⟨s, hs, rfl⟩ := List.mem_map.mp q
            exact hbp s hs
          · rw [List.mem_singleton.mp q]; exact hhp
      | some v0 =>
        obtain ⟨j, s, hj, hsb, rfl⟩ := hg2 here v0 hgh
        have dg : DGet H' md (.str here) (some (.int (j : Nat))) := hgh ▸ hmd'.get here
        refine iteT ⟨_, rfl, _, rfl, _, rfl, md, _, rfl, dg, _, rfl, pd, _, rfl, SqL.of hpd', fun q hq => ?_⟩
        rw [cut_from, ← List.map_drop]
        refine k2 q _ (is.drop j) (ss.drop j) (e.back hq) (e.upd_new (e.back hq)) upd_same ⟨hat.drop j, fun u hu => hnx u (List.mem_of_mem_drop hu), fun z => ?_, ?_, here, ?_⟩
        · have := (List.getElem?_eq_some_iff.mp hj).1
          have hz := congrArg List.length z
          simp at hz
          omega
        · rw [List.map_drop]
          exact hnd.sublist (List.drop_sublist _ _)
        · have hsplit : Chain first (ss.take j ++ ss.drop j) here := by rw [List.take_append_drop]; exact hch
          obtain ⟨c, h1, h2⟩ := hsplit.split
          have hlt := (List.getElem?_eq_some_iff.mp hj).1
          have ed : ss.drop j = s :: ss.drop (j + 1) := by
            rw [List.drop_eq_getElem_cons hlt]
            congr 1
            exact Option.some.inj ((List.getElem?_eq_getElem hlt).symm.trans hj)
          rw [ed] at h2 ⊢
          have : c = here := h2.1 ▸ hsb
          subst this
          exact h2
  · rintro σ H' ⟨x3, x4, x5, x6, rfl, e, hl⟩
    refine k1 (fun p hp => hl p ?_) H' e
    rw [List.length_map, List.take_length]
    exact hp
end
end GW
set_option Elab.async false
set_option linter.all false
set_option maxRecDepth 100000
set_option maxHeartbeats 4000000
/-! WR3: worths_or_ring -/
namespace GW
open PySem PySem.Spec PyProof.Rows L2 GM
theorem All2.refs {β : Type} {R : Addr → β → Prop} {zs : List V} {xs : List β} (h : All2 (fun v x => ∃ a, v = V.ref a ∧ R a x) zs xs) : ∃ as : List Addr, zs = as.map V.ref ∧ All2 R as xs := by
  induction h with
  | nil => exact ⟨[], rfl, .nil⟩
  | cons r _ ih =>
    obtain ⟨as, rfl, h2⟩ := ih
    obtain ⟨a, rfl, ra⟩ := r
    exact ⟨a :: as, rfl, .cons ra h2⟩
theorem All2.paired {α β γ : Type} {R : α → β → Prop} {F : α → γ → Prop} {f : β → γ} {as : List α} {bs : List β} (h : All2 R as bs) (k : ∀ a b, R a b → F a (f b)) : Paired F as (bs.map f) := by
  induction h with
  | nil => exact .nil
  | cons r _ ih => exact .cons (k _ _ r) ih
theorem valV_merge {k : Key} : ∀ (more acc : List (Key × V)), (more.map (·.1)).Nodup → valV (mergeK acc more) k = (valV more k).or (valV acc k)
  | [], acc, _ => by show valV acc k = _; rw [valV_nil]; rfl
  | p :: more, acc, h => by
    have h : (p.1 :: more.map (·.1)).Nodup := h
    obtain ⟨h1, h2⟩ := List.nodup_cons.mp h
    show valV (mergeK (putK acc p.1 p.2) more) k = _
    rw [valV_merge more _ h2, valV_put]
    by_cases e : p.1 = k
    · rw [valV_pos e, if_pos e.symm]
      have : valV more k = none := by
        cases q : valV more k with
        | none => rfl
        | some v => exact absurd (e ▸ valV_in q) (e ▸ h1)
      rw [this]
      rfl
    · rw [valV_neg e, if_neg (fun q => e q.symm)]
theorem merge_len : ∀ (more acc : List (Key × V)), (mergeK acc more).length ≤ acc.length + more.length
  | [], acc => Nat.le_refl _
  | p :: more, acc => by
    show (mergeK (putK acc p.1 p.2) more).length ≤ _
    have h1 := merge_len more (putK acc p.1 p.2)
    have h2 := putK_len acc p.1 p.2
    simp
    omega
theorem valV_map_str {β : Type} {f : β → Str} {g : β → V} : ∀ {ys : List β} {i : Nat} {y : β}, (ys.map f).Nodup → ys[i]? = some y → valV (ys.map fun y => ((Sum.inr (f y) : Key), g y)) (Sum.inr (f y)) = some (g y)
  | [], i, y, _, h => by simp at h
  | z :: ys, 0, y, _, h => by
    simp at h
    subst h
    exact valV_pos rfl
  | z :: ys, i + 1, y, hn, h => by
    have hn : (f z :: ys.map f).Nodup := hn
    obtain ⟨h1, h2⟩ := List.nodup_cons.mp hn
    have hy : ys[i]? = some y := by simpa using h
    show valV (((Sum.inr (f z) : Key), g z) :: ys.map fun y => ((Sum.inr (f y) : Key), g y)) (Sum.inr (f y)) = _
    rw [valV_neg]
    · exact valV_map_str h2 hy
    · intro q
      exact h1 ((Sum.inr.inj q) ▸ List.mem_map.mpr ⟨y, List.mem_of_getElem? hy, rfl⟩)
theorem valV_map_none {β : Type} {f : β → Str} {g : β → V} {x : Str} : ∀ {ys : List β}, x ∉ ys.map f → valV (ys.map fun y => ((Sum.inr (f y) : Key), g y)) (Sum.inr x) = none
  | [], _ => rfl
  | z :: ys, h => by
    have h : x ∉ f z :: ys.map f := h
    show valV (((Sum.inr (f z) : Key), g z) :: ys.map fun y => ((Sum.inr (f y) : Key), g y)) (Sum.inr x) = _
    rw [valV_neg (fun q => h (by rw [← Sum.inr.inj q]; simp))]
    exact valV_map_none fun q => h (by simp [q])
theorem map_inr_nodup {β : Type} {f : β → Str} {g : β → V} {ys : List β} (h : (ys.map f).Nodup) : ((ys.map fun y => ((Sum.inr (f y) : Key), g y)).map (·.1)).Nodup := by
  rw [List.map_map]
  have e : ((fun p : Key × V => p.1) ∘ fun y => ((Sum.inr (f y) : Key), g y)) = (Sum.inr : Str → Key) ∘ f := rfl
  rw [e, ← List.map_map]
  exact h.map _ (fun a b hab q => hab (Sum.inr.inj q))
section
variable {P : Program} {w : World} {K : PySem.W.Frag} {mg : Str → Option Value} {base : Heap}
/-- a ring of lanes that gains, by their numbers -/
def GainRing (L : List (Step Str)) (is : List Nat) (ss : List (Step Str)) : Prop :=
  All2 (fun i s => L[i]? = some s) is ss ∧ ss ≠ [] ∧ (ss.map (·.b)).Nodup ∧ (∃ x, Chain x ss x) ∧ 1 < gainOf ss
def sp_worths_or_ring (K : PySem.W.Frag) : Sp := sp2 fun a b H Q => ∃ (pa la : Addr) (lv : List V) (ps : List Str) (L : List (Step Str)), a = .ref pa ∧ b = .ref la ∧ Tp K H pa (ps.map V.str) ∧ H la = some (.lst lv) ∧ All2 (LaneV K H) lv L ∧
  LaneOk ps L ∧ ps.Nodup ∧ ps.length ≤ 10 ∧ 1 ≤ ps.length ∧ L.length ≤ 48 ∧
  ∀ (H' : Hp) (t : Addr) (v1 v2 : V), Ex H H' → H' t = some (.tup [v1, v2]) →
    ((v2 = .non ∧ ∃ W : Str → Rat, (∀ p, 0 < W p) ∧ ∀ s ∈ L, s.gain * W s.e ≤ W s.b) ∨ (∃ q is ss, v2 = .ref q ∧ H q = none ∧ H' q = some (.lst (is.map fun i : Nat => V.int (i : Nat))) ∧ GainRing L is ss)) → Q (.ref t) H'
/-! worths_or_ring: slots 0:places 1:lanes 2:worths 3:nexts 4:found 5:place -/
abbrev N_worths_or_ring : List Str := ["places", "lanes", "worths", "nexts", "found", "place"]
theorem sc_worths_or_ring : FnScope N_worths_or_ring ["places", "lanes"] (defScope s_worths_or_ring) := ⟨rfl, rfl, rfl, by decide +kernel, rfl, by decide +kernel, by decide +kernel⟩
theorem ok_worths_or_ring (T : Txt K mg) : DOk P w K mg base "worths_or_ring" ["places", "lanes"] 5 (sp_worths_or_ring K) := by
  have G_grow_once := ok_grow_once (P := P) (w := w) (base := base) T
  have G_ring_among := ok_ring_among (P := P) (w := w) (base := base) T
  obtain ⟨aO_ONE_rounds, hO_ONE_rounds, tO_ONE_rounds⟩ := T.o_ONE_rounds
  have g_ONE_rounds : GC mg "ONE_rounds" (.ref aO_ONE_rounds) := ⟨_, hO_ONE_rounds, rfl⟩
  refine T.d_worths_or_ring.ok sc_worths_or_ring sp2_len (fun f cdv A outer s H vs Q E hr h => ?_)
  refine ⟨_, (pss_cons (ps_set (i := 2) sc_worths_or_ring.nd rfl (Or.inl rfl) (pe_callTy (call_dictP rfl) (by rfl) T.n_dict (by decide +kernel) (pa_cons (pe_lc (own := [("place", 5)]) (g := gName 5) (tt := tYes) (by rfl) sc_worths_or_ring.nd (piT K (pv 0)) (blkOk_by (N := N_worths_or_ring) (sc := defScope s_worths_or_ring) (own := [("place", 5)]) (by decide +kernel)) (fun _ _ _ _ _ => (pg_name (i := 5) sc_worths_or_ring.nd rfl (Or.inl rfl))) (fun _ _ _ _ _ => pts_nil) (fun _ _ _ _ _ => (pe_tup (pa_cons (pv 5) (pa_cons (pe_gc g_ONE_rounds) pa_nil))))) pa_nil)))
        (pss_cons (ps_set (i := 3) sc_worths_or_ring.nd rfl (Or.inl rfl) pe_dnewK)
        (pss_cons (ps_while PassesOwn.never (pt_val (pe_callD G_grow_once (hr.mono (by decide)) (pa_cons (pv 1) (pa_cons (pv 2) (pa_cons (pv 3) pa_nil))))) (pss_cons (ps_set (i := 4) sc_worths_or_ring.nd rfl (Or.inl rfl) (pe_callD G_ring_among (hr.mono (by decide)) (pa_cons (pv 0) (pa_cons (pv 1) (pa_cons (pv 3) pa_nil)))))
        (pss_one (ps_if (pt_cmpR op_notN (pv 4) pe_non (nomark _)) (pss_one (ps_ret (pe_tup (pa_cons pe_non (pa_cons (pv 4) pa_nil))))) pss_nil))))
        (pss_one (ps_ret (pe_tup (pa_cons (pv 2) (pa_cons pe_non pa_nil)))))))), ?_⟩
  obtain ⟨_, _, rfl, pa, la, lv, ps, L, rfl, rfl, hpa, hla, hlv, O, hnd, hp10, hp1, hL, k⟩ := h
  refine ⟨_, rfl, pa, rfl, ⟨_, hpa.sq⟩, lc_fmT (K := K) (ys := ps) (R := fun H v (x : Str) => ∃ a, v = .ref a ∧ H a = some (.tup [.str x, .ref aO_ONE_rounds])) (fun H H' v y e ⟨a, h1, h2⟩ => ⟨a, h1, e _ _ h2⟩) (p := fun _ => true) (f := id) hpa (by simp) (by omega) ?_ ?_⟩
  · intro i x y H1 hx hy e
    rw [List.getElem?_map, hy] at hx
    cases hx
    exact LcTurn.yes fun A hA => ⟨rfl, _, rfl, smallE (by simp), fun p hp => hA _ _ (Ex.new hp) ⟨p, rfl, upd_same⟩⟩
  · intro D H1 zs hD e1 hz az
    have ef : (ps.filter fun _ => true).map id = ps := by simp
    rw [ef] at az
    obtain ⟨as, rfl, has⟩ := az.refs
    refine ⟨D, as, ps.map fun y => ((Sum.inr y : Key), V.ref aO_ONE_rounds), rfl, SqL.of hz, has.paired fun a x h => SqT.of h, fun wd hwd => ?_⟩
    have hn1 : (ps.map id).Nodup := by simpa using hnd
    have e2 : Ex H (upd H1 wd (.dK (mergeK [] (ps.map fun y => ((Sum.inr y : Key), V.ref aO_ONE_rounds))))) := e1.upd_new (e1.back hwd)
    intro nd hnd0
    have wn : wd ≠ nd := ne_of_none upd_same hnd0
    have hwd0 : H wd = none := e1.back hwd
    have hnd1 : H nd = none := e2.back hnd0
    have e3 := e2.upd_new (o := .dK []) hnd1
    have hW0 : WorV K (upd (upd H1 wd (.dK (mergeK [] (ps.map fun y => ((Sum.inr y : Key), V.ref aO_ONE_rounds))))) nd (.dK [])) wd ps (fun _ => 1) 10 := by
      refine ⟨fun x => if x ∈ ps then some (V.ref aO_ONE_rounds) else none, ⟨_, by rw [upd_ne wn]; exact upd_same, ?_, fun x => ?_⟩, fun p hp => ⟨_, if_pos hp, fr_one tO_ONE_rounds⟩⟩
      · have := merge_len (ps.map fun y => ((Sum.inr y : Key), V.ref aO_ONE_rounds)) []
        simp at this
        omega
      · have hm : valV (mergeK [] (ps.map fun y => ((Sum.inr y : Key), V.ref aO_ONE_rounds))) (Sum.inr x) = _ := valV_merge _ _ (map_inr_nodup (f := id) (g := fun _ => V.ref aO_ONE_rounds) hn1)
        rw [hm, valV_nil, Option.or_none]
        show _ = if x ∈ ps then some (V.ref aO_ONE_rounds) else none
        by_cases hx : x ∈ ps
        · rw [if_pos hx]
          obtain ⟨i, hi⟩ := List.mem_iff_getElem?.mp hx
          exact valV_map_str (f := id) (g := fun _ => V.ref aO_ONE_rounds) hn1 hi
        · rw [if_neg hx]
          exact valV_map_none (f := id) (g := fun _ => V.ref aO_ONE_rounds) (by simpa using hx)
    refine ⟨fun m σ H' => ∃ (x4 x5 : Option V) (W : Str → Rat) (N : Str → Option Nat) (ts rk : Str → Nat) (r T : Nat), σ = [some (.ref pa), some (.ref la), some (.ref wd), some (.ref nd), x4, x5] ∧ Ex H H' ∧ WorV K H' wd ps W (10 + T) ∧ NxtV H' nd N T ∧
      Grow L W N ts rk T ∧ Seen L W rk r 0 ∧ (∀ p, rk p ≤ r) ∧ 1 ≤ r ∧ r ≤ ps.length ∧ T + 48 ≤ r * 48 ∧ m + r = ps.length + 1, ⟨ps.length, none, none, fun _ => 1, fun _ => none, fun _ => 0, fun _ => 0, 1, 0, rfl, e3, hW0, ?_, Grow.start L, ?_, fun _ => Nat.zero_le _, Nat.le_refl _, hp1, by decide, rfl⟩, ?_⟩
    · exact ⟨[], upd_same, Nat.le_refl _, fun _ => rfl⟩
    · intro i s _ _
      rw [if_neg (Nat.not_lt_zero _)]
      exact Nat.le_refl _
    rintro m σ H2 ⟨x4, x5, W, N, ts, rk, r, T, rfl, e, hW, hN, G, S, R, r1, r2, hT, hm⟩
    refine ⟨_, rfl, _, rfl, _, rfl, _, _, _, rfl, la, wd, nd, lv, ps, L, W, N, ts, rk, T, r, 10 + T, T, rfl, rfl, rfl, wn, e _ _ hla, hlv.tm tm_lane (.of e), hW, hN, by omega, by omega, O, G, by omega, S, R, ?_⟩
    intro g H3 W' N' ts' rk' hb hW' hN' G' S' R' g1 g2
    have e4 : Ex H H3 := fun c o ho => hb c o (ne_of_none ho hwd0) (ne_of_none ho hnd1) (e c o ho)
    refine ⟨g, rfl, ?_⟩
    cases g with
    | false =>
      refine iteF ?_
      refine ⟨_, rfl, smallE (by simp), fun t ht => k _ t _ _ (e4.trans (Ex.new ht)) upd_same (.inl ⟨rfl, W', G'.pos, g2 rfl⟩)⟩
    | true =>
      refine iteT ?_
      have hNL : ∀ p i, N' p = some i → ∃ s, L[i]? = some s ∧ s.b = p := fun p i h => by
        obtain ⟨s, h1, h2, _⟩ := G'.nx p i h
        exact ⟨s, h1, h2⟩
      refine ⟨fun σ' H' => ∃ (x4 x5 : Option V) (W : Str → Rat) (N : Str → Option Nat) (ts rk : Str → Nat) (T : Nat), σ' = [some (.ref pa), some (.ref la), some (.ref wd), some (.ref nd), x4, x5] ∧ Ex H H' ∧ WorV K H' wd ps W (10 + T) ∧ NxtV H' nd N T ∧
        Grow L W N ts rk T ∧ Seen L W rk (r + 1) 0 ∧ (∀ p, rk p ≤ r + 1) ∧ r + 1 ≤ ps.length ∧ T + 48 ≤ (r + 1) * 48, ?_, ?_⟩
      · rintro σ' H' ⟨x4, x5, W, N, ts, rk, T, rfl, a1, a2, a3, a4, a5, a6, a7, a8⟩
        exact ⟨ps.length - r, by omega, x4, x5, W, N, ts, rk, r + 1, T, rfl, a1, a2, a3, a4, a5, a6, by omega, a7, a8, by omega⟩
      refine ⟨_, rfl, _, rfl, _, rfl, _, _, _, rfl, pa, la, nd, lv, ps, L, N', T + L.length, rfl, rfl, rfl, hpa.mono (.of e4), e4 _ _ hla, hlv.tm tm_lane (.of e4), hN', O, by omega, hNL, fun hall H4 e5 => ?_, fun q H4 is ss hq e5 hq4 hring => ?_⟩
      · refine ⟨_, rfl, rfl, _, rfl, ?_⟩
        refine iteF ?_
        obtain ⟨p, hp, hpr⟩ := g1 rfl
        obtain ⟨l, e', c1, c2, c3, c4, c5⟩ := hall p hp
        have hlt := G'.rank O.pos c1 c2 c3 c4 c5
        refine ⟨_, _, W', N', ts', rk', T + L.length, rfl, e4.trans e5, ?_, DicV.ex hN' e5, G', ?_, fun p => Nat.le_succ_of_le (R' p), by omega, by omega⟩
        · have := hW'.ex e5
          rw [Nat.add_assoc] at this
          exact this
        · intro i s hi hs
          rw [if_neg (Nat.not_lt_zero _)]
          have := S' i s hi hs
          rw [if_pos (List.getElem?_eq_some_iff.mp hi).1] at this
          omega
      · refine ⟨_, rfl, rfl, _, rfl, ?_⟩
        refine iteT ?_
        obtain ⟨r1', r2', r3', r4', x, r5'⟩ := hring
        refine ⟨_, rfl, smallE (by simp), fun t ht => k _ t _ _ ((e4.trans e5).trans (Ex.new ht)) upd_same (.inr ⟨q, is, ss, rfl, e4.back hq, (Ex.new ht) _ _ hq4, r1', r3', r4', ⟨x, r5'⟩, G'.ring O.pos r5' r2' r3'⟩)⟩
end
end GW
set_option Elab.async false
set_option linter.all false
set_option maxRecDepth 100000
set_option maxHeartbeats 4000000
/-! WB: pairs_of, course_from, steps_to -/
namespace GW
open PySem PySem.Spec PyProof.Rows L2 GM
/-- the places ks from which steps lead to e; F: by which step each goes on, dep: in how many -/
structure Found (ss : List (Step Str)) (e : Str) (ks : List Str) (F : Str → Option (Step Str)) (dep : Str → Nat) : Prop where
  nd : ks.Nodup
  en : e ∈ ks
  at_ : ∀ x ∈ ks, (x = e ∧ F x = none ∧ dep x = 0) ∨ ∃ s, F x = some s ∧ s ∈ ss ∧ s.b = x ∧ s.e ∈ ks ∧ dep x = dep s.e + 1
section
variable {P : Program} {w : World} {K : PySem.W.Frag} {mg : Str → Option Value} {base : Heap}
def FouV (K : PySem.W.Frag) (H : Hp) (a : Addr) (ks : List Str) (F : Str → Option (Step Str)) (n : Nat) : Prop := ∃ f, DicV H a f n ∧ (∀ x, x ∉ ks → f x = none) ∧ ∀ x ∈ ks, ∃ v, f x = some v ∧
  ((F x = none ∧ v = .non) ∨ ∃ s, F x = some s ∧ StV K H v s)
theorem FouV.ex {H H' : Hp} {a : Addr} {ks : List Str} {F : Str → Option (Step Str)} {n : Nat} (h : FouV K H a ks F n) (e : Ex H H') : FouV K H' a ks F n := by
  obtain ⟨f, h1, h2, h3⟩ := h
  refine ⟨f, h1.ex e, h2, fun x hx => ?_⟩
  obtain ⟨v, h4, h5⟩ := h3 x hx
  refine ⟨v, h4, ?_⟩
  rcases h5 with h5 | ⟨s, h5, h6⟩
  · exact .inl h5
  · exact .inr ⟨s, h5, h6.mono (.of e)⟩
def sp_pairs_of (K : PySem.W.Frag) : Sp := sp1 fun a H Q => ∃ ss : List (Step Str), LsV (StV K) H a ss ∧ ss.length ≤ 1000 ∧ RetLs (PrV K) (ss.map fun s => (s.n, s.k)) H Q
/-! pairs_of: slots 0:steps 1:step -/
abbrev N_pairs_of : List Str := ["steps", "step"]
theorem sc_pairs_of : FnScope N_pairs_of ["steps"] (defScope s_pairs_of) := ⟨rfl, rfl, rfl, by decide +kernel, rfl, by decide +kernel, by decide +kernel⟩
theorem ok_pairs_of (T : Txt K mg) : DOk P w K mg base "pairs_of" ["steps"] 1 (sp_pairs_of K) := by
  refine T.d_pairs_of.ok sc_pairs_of sp1_len (fun f cdv A outer s H vs Q E hr h => ?_)
  refine ⟨_, (pss_one (ps_ret (pe_lc (own := [("step", 1)]) (g := gName 1) (tt := tYes) (by rfl) sc_pairs_of.nd (piL K (pv 0)) (blkOk_by (N := N_pairs_of) (sc := defScope s_pairs_of) (own := [("step", 1)]) (by decide +kernel)) (fun _ _ _ _ _ => (pg_name (i := 1) sc_pairs_of.nd rfl (Or.inl rfl))) (fun _ _ _ _ _ => pts_nil) (fun _ _ _ _ _ => (pe_slice (slT K) (pv 1) po_none (po_some pe_int)))))), ?_⟩
  obtain ⟨_, rfl, ss, ⟨a, sv, rfl, ha, hs⟩, hl, k⟩ := h
  refine ⟨_, rfl, a, rfl, ⟨_, SqL.of ha⟩, lc_fm (K := K) (ys := ss) (R := PrV K) tm_pr (p := fun _ => true) (f := fun s => (s.n, s.k)) ha hs.length (by omega) ?_ ?_⟩
  · intro i x y H1 hx hy e
    obtain ⟨ta, vr, vg, rfl, ht, _, _⟩ := (hs.two hx hy).mono (.of e)
    refine LcTurn.yes fun A hA => ⟨rfl, _, rfl, _, rfl, ta, _, rfl, ht.sq, (by show ¬ (HT.sIx 6 0 none = 0 ∧ HT.sIx 6 6 (some 2) = 6); decide), fun p hp => ?_⟩
    exact hA _ _ (Ex.new hp) ⟨p, rfl, .of upd_same⟩
  · intro D H' zs hD e hz az
    have ef : (ss.filter fun _ => true) = ss := by simp
    rw [ef] at az
    exact k D H' zs hD e hz az
/-- a course along the steps that places go on by -/
structure Crs (ss : List (Step Str)) (dep : Str → Nat) (x e : Str) (l : List (Step Str)) : Prop where
  ch : Chain x l e
  mem : ∀ s ∈ l, s ∈ ss
  len : l.length = dep x
  nd : (x :: l.map (·.e)).Nodup
  lt : ∀ s ∈ l, dep s.e < dep x
def sp_course_from (K : PySem.W.Frag) : Sp := sp2 fun a b H Q => ∃ (d : Addr) (ks : List Str) (F : Str → Option (Step Str)) (dep : Str → Nat) (ss : List (Step Str)) (e x : Str) (n : Nat), a = .ref d ∧ b = .str x ∧ FouV K H d ks F n ∧ Found ss e ks F dep ∧ x ∈ ks ∧ ks.length ≤ 1000 ∧
  ∀ p H' vs l, H p = none → Ex H H' → H' p = some (.lst vs) → All2 (StV K H') vs l → Crs ss dep x e l → Q (.ref p) H'
/-! course_from: slots 0:found 1:place 2:course -/
abbrev N_course_from : List Str := ["found", "place", "course"]
theorem sc_course_from : FnScope N_course_from ["found", "place"] (defScope s_course_from) := ⟨rfl, rfl, rfl, by decide +kernel, rfl, by decide +kernel, by decide +kernel⟩
theorem ok_course_from (T : Txt K mg) : DOk P w K mg base "course_from" ["found", "place"] 1 (sp_course_from K) := by
  refine T.d_course_from.ok sc_course_from sp2_len (fun f cdv A outer s H vs Q E hr h => ?_)
  refine ⟨_, (pss_cons (ps_set (i := 2) sc_course_from.nd rfl (Or.inl rfl) (pe_lst pa_nil))
        (pss_cons (ps_while PassesOwn.never (pt_cmpR op_notN (pe_dget (hu_of hr) (pv 0) (pv 1) (fun _ _ => rfl)) pe_non (nomark _)) (pss_cons (ps_expr (pe_bm PySem.F.plainAttrs_list PySem.F.slot_list_append PySem.F.type_list_append mt_append (pv 2) (pa_cons (pe_dget (hu_of hr) (pv 0) (pv 1) (fun _ _ => rfl)) pa_nil)))
        (pss_one (ps_set (i := 1) sc_course_from.nd rfl (Or.inl rfl) (pe_ix (ixT K) (pe_dget (hu_of hr) (pv 0) (pv 1) (fun _ _ => rfl)) (pe_gc T.c_ENDS) (fun _ _ => rfl))))))
        (pss_one (ps_ret (pv 2))))), ?_⟩
  obtain ⟨_, _, rfl, d, ks, F, dep, ss, e, x, n, rfl, rfl, hF, hf, hx, hks, k⟩ := h
  refine ⟨smallE (by simp), fun p hp => ?_⟩
  have e0 : Ex H (upd H p (.lst [])) := Ex.new hp
  refine ⟨fun m σ H' => ∃ (pl : Str) (acc : List V) (l : List (Step Str)), σ = [some (.ref d), some (.str pl), some (.ref p)] ∧ Ex H H' ∧ H' p = some (.lst acc) ∧ All2 (StV K H') acc l ∧ pl ∈ ks ∧ Chain x l pl ∧ (∀ s ∈ l, s ∈ ss) ∧ l.length + dep pl = dep x ∧
    (x :: l.map (·.e)).Nodup ∧ (∀ y ∈ x :: l.map (·.e), dep pl ≤ dep y) ∧ (∀ y ∈ x :: l.map (·.e), y ∈ ks) ∧ (∀ s ∈ l, dep s.e < dep x) ∧ m = dep pl,
    ⟨_, x, [], [], rfl, e0, upd_same, .nil, hx, rfl, by simp, by simp, by simp, by simp, by simpa using hx, by simp, rfl⟩, ?_⟩
  rintro m σ H' ⟨pl, acc, l, rfl, e1, hp1, ha, hpl, hch, hss, hdep, hnd, hge, hin, hlt, rfl⟩
  obtain ⟨f, fd, _, fv⟩ := hF.ex e1
  obtain ⟨v, hv, hvF⟩ := fv pl hpl
  have dg : DGet H' d (.str pl) (some v) := hv ▸ fd.get pl
  refine ⟨_, rfl, _, rfl, d, v, rfl, dg, rfl, _, rfl, ?_⟩
  rcases hvF with ⟨hFn, rfl⟩ | ⟨s, hFs, hst⟩
  · refine iteF ⟨_, rfl, k p H' acc l hp e1 hp1 ha ?_⟩
    rcases hf.at_ pl hpl with ⟨q, _, q2⟩ | ⟨s, q, _⟩
    · subst q
      exact ⟨hch, hss, by omega, hnd, hlt⟩
    · rw [hFn] at q
      cases q
  · rcases hf.at_ pl hpl with ⟨_, q, _⟩ | ⟨s', q, q1, q2, q3, q4⟩
    · rw [hFs] at q
      cases q
    rw [hFs] at q
    cases q
    have llen : l.length ≤ 1000 := by
      have := nodup_le hnd hin
      simp at this
      omega
    obtain ⟨ta, vr, vg, rfl, ht, hr1, hg1⟩ := id hst
    refine iteT ⟨fun σ' H2 => ∃ (pl' : Str) (acc : List V) (l : List (Step Str)), σ' = [some (.ref d), some (.str pl'), some (.ref p)] ∧ Ex H H2 ∧ H2 p = some (.lst acc) ∧ All2 (StV K H2) acc l ∧ pl' ∈ ks ∧ Chain x l pl' ∧ (∀ s ∈ l, s ∈ ss) ∧ l.length + dep pl' = dep x ∧
      (x :: l.map (·.e)).Nodup ∧ (∀ y ∈ x :: l.map (·.e), dep pl' ≤ dep y) ∧ (∀ y ∈ x :: l.map (·.e), y ∈ ks) ∧ (∀ s ∈ l, dep s.e < dep x) ∧ dep pl' < dep pl, ?_, ?_⟩
    · rintro σ' H2 ⟨pl', acc', l', rfl, a1, a2, a3, a4, a5, a6, a7, a8, a9, a10, a11, a12⟩
      exact ⟨dep pl', a12, pl', acc', l', rfl, a1, a2, a3, a4, a5, a6, a7, a8, a9, a10, a11, rfl⟩
    have hal : acc.length = l.length := ha.length
    refine ⟨_, rfl, .inl ⟨rfl, _, SqL.of hp1⟩, _, rfl, _, rfl, d, _, rfl, dg, p, acc, _, rfl, rfl, hp1, small (by omega), ?_⟩
    have e2 : Ex H (upd H' p (.lst (acc ++ [.ref ta]))) := e1.upd_new hp
    have tx : TX H' (upd H' p (.lst (acc ++ [.ref ta]))) := .wl hp1
    have npd : d ≠ p := fun q => by
      obtain ⟨kvs, hk, _⟩ := fd
      rw [q, hp1] at hk
      cases hk
    have dg2 : DGet (upd H' p (.lst (acc ++ [.ref ta]))) d (.str pl) (some (.ref ta)) := hv ▸ (fd.upd_ne npd).get pl
    refine ⟨_, rfl, _, rfl, d, _, rfl, dg2, ta, _, _, .str s.e, rfl, rfl, (ht.mono tx).sq, rfl, ?_⟩
    have hze : s.e ∉ x :: l.map (·.e) := fun q => by
      have := hge _ q
      omega
    refine ⟨s.e, acc ++ [.ref ta], l ++ [s], rfl, e2, upd_same, (ha.tm tm_st tx).snoc (hst.mono tx), q3, chain_snoc hch q2, fun u hu => ?_, by simp; omega, ?_, fun y hy => ?_, fun y hy => ?_, fun u hu => ?_, by omega⟩
    · rcases List.mem_append.mp hu with z | z
      · exact hss u z
      · rw [List.mem_singleton.mp z]; exact q1
    · rw [List.map_append]
      exact nd_snoc hnd hze
    · have hy' : y ∈ (x :: l.map (·.e)) ++ [s.e] := by simpa using hy
      rcases List.mem_append.mp hy' with z | z
      · have := hge y z
        omega
      · rw [List.mem_singleton.mp z]; exact Nat.le_refl _
    · have hy' : y ∈ (x :: l.map (·.e)) ++ [s.e] := by simpa using hy
      rcases List.mem_append.mp hy' with z | z
      · exact hin y z
      · rw [List.mem_singleton.mp z]; exact q3
    · rcases List.mem_append.mp hu with z | z
      · exact hlt u z
      · rw [List.mem_singleton.mp z]; omega

def sp_steps_to (K : PySem.W.Frag) : Sp := sp2 fun a b H Q => ∃ (sa ga : Addr) (sv : List V) (ss : List (Step Str)) (e : Str) (ps : List Str), a = .ref sa ∧ b = .ref ga ∧ H sa = some (.lst sv) ∧ All2 (StV K H) sv ss ∧ H ga = some (.lst [.str e]) ∧ e ∈ ps ∧ (∀ s ∈ ss, s.b ∈ ps) ∧ ps.length ≤ 1000 ∧
  ∀ d H' ks F dep, H d = none → Ex H H' → FouV K H' d ks F 1000 → Found ss e ks F dep → (∀ s ∈ ss, s.e ∈ ks → s.b ∈ ks) → (∀ x ∈ ks, x ∈ ps) → Q (.ref d) H'
/-! steps_to: slots 0:steps 1:goals 2:found 3:waiting 4:here 5:step 6:goal -/
abbrev N_steps_to : List Str := ["steps", "goals", "found", "waiting", "here", "step", "goal"]
theorem sc_steps_to : FnScope N_steps_to ["steps", "goals"] (defScope s_steps_to) := ⟨rfl, rfl, rfl, by decide +kernel, rfl, by decide +kernel, by decide +kernel⟩
theorem ok_steps_to (T : Txt K mg) : DOk P w K mg base "steps_to" ["steps", "goals"] 1 (sp_steps_to K) := by
  refine T.d_steps_to.ok sc_steps_to sp2_len (fun f cdv A outer s H vs Q E hr h => ?_)
  refine ⟨_, (pss_cons (ps_set (i := 2) sc_steps_to.nd rfl (Or.inl rfl) (pe_callTy (call_dictP rfl) (by rfl) T.n_dict (by decide +kernel) (pa_cons (pe_lc (own := [("goal", 6)]) (g := gName 6) (tt := tYes) (by rfl) sc_steps_to.nd (piL K (pv 1)) (blkOk_by (N := N_steps_to) (sc := defScope s_steps_to) (own := [("goal", 6)]) (by decide +kernel)) (fun _ _ _ _ _ => (pg_name (i := 6) sc_steps_to.nd rfl (Or.inl rfl))) (fun _ _ _ _ _ => pts_nil) (fun _ _ _ _ _ => (pe_tup (pa_cons (pv 6) (pa_cons pe_non pa_nil))))) pa_nil)))
        (pss_cons (ps_set (i := 3) sc_steps_to.nd rfl (Or.inl rfl) (pe_callTy call_list_of (by rfl) T.n_list (by decide +kernel) (pa_cons (pv 1) pa_nil)))
        (pss_cons (ps_while PassesOwn.never (pt_cmpR op_gt (pe_callB (lenK K) (by rfl) T.n_len PySem.boot_len (pa_cons (pv 3) pa_nil)) pe_int (nomark _)) (pss_cons (ps_set (i := 4) sc_steps_to.nd rfl (Or.inl rfl) (pe_bm PySem.F.plainAttrs_list PySem.F.slot_list_pop PySem.F.type_list_pop mt_popAt (pv 3) (pa_cons pe_int pa_nil)))
        (pss_one (ps_for PassesOwn.never rfl (piL K (pv 0)) (pg_name (i := 5) sc_steps_to.nd rfl (Or.inl rfl)) (pss_one (ps_if (PW.pt (pw_and (pt_cmpR op_eq (pe_ix (ixT K) (pv 5) (pe_gc T.c_ENDS) (fun _ _ => rfl)) (pv 4) (nomark _)) (pw_and1 (pt_cmp (pc_dnotin (hu_of hr) (pe_ix (ixT K) (pv 5) (pe_gc T.c_BEGINS) (fun _ _ => rfl)) (pv 2)))))) (pss_cons (ps_dput (hu_of hr) (pv 2) (pe_ix (ixT K) (pv 5) (pe_gc T.c_BEGINS) (fun _ _ => rfl)) (pv 5) rfl)
        (pss_one (ps_expr (pe_bm PySem.F.plainAttrs_list PySem.F.slot_list_append PySem.F.type_list_append mt_append (pv 3) (pa_cons (pe_ix (ixT K) (pv 5) (pe_gc T.c_BEGINS) (fun _ _ => rfl)) pa_nil))))) pss_nil))))))
        (pss_one (ps_ret (pv 2)))))), ?_⟩
  obtain ⟨_, _, rfl, sa, ga, sv, ss, e, ps, rfl, rfl, hsa, hsv, hga, hep, hsb, hps, k⟩ := h
  refine ⟨_, rfl, ga, rfl, ⟨_, SqL.of hga⟩, lc_fm (K := K) (ys := [e]) (R := fun H v (x : Str) => ∃ a, v = .ref a ∧ H a = some (.tup [.str x, .non])) (fun H H' v y e ⟨a, h1, h2⟩ => ⟨a, h1, e _ _ h2⟩) (p := fun _ => true) (f := id) hga rfl (by simp) ?_ ?_⟩
  · intro i x y H1 hx hy e1
    have : [V.str e][i]? = ([e][i]?).map V.str := by rw [← List.getElem?_map]; rfl
    rw [this, hy] at hx
    cases hx
    exact LcTurn.yes fun A hA => ⟨rfl, _, rfl, smallE (by simp), fun p hp => hA _ _ (Ex.new hp) ⟨p, rfl, upd_same⟩⟩
  intro D H1 zs hD e1 hz az
  obtain ⟨as, rfl, has⟩ := All2.refs (show All2 (fun v (x : Str) => ∃ a, v = V.ref a ∧ H1 a = some (.tup [.str x, .non])) zs [e] from az)
  refine ⟨D, as, [((Sum.inr e : Key), V.non)], rfl, SqL.of hz, has.paired (f := fun x => ((Sum.inr x : Key), V.non)) fun a x h => SqT.of h, fun d hd => ?_⟩
  have nd : H d = none := e1.back hd
  have e2 : Ex H (upd H1 d (.dK (mergeK [] [((Sum.inr e : Key), V.non)]))) := e1.upd_new nd
  refine ⟨_, rfl, ga, _, rfl, .inl (SqL.of (e2 _ _ hga)), fun q hq => ?_⟩
  have nq : H q = none := e2.back hq
  have dq : d ≠ q := ne_of_none upd_same hq
  have e3 := e2.upd_new (o := .lst [.str e]) nq
  -- the state ahead of each turn: i places have been gone through
  let In : Nat → List Str → (Str → Option (Step Str)) → (Str → Nat) → Hp → Prop := fun i ks F dep H' => Ex H H' ∧ FouV K H' d ks F ks.length ∧ Found ss e ks F dep ∧ (∀ x ∈ ks, x ∈ ps) ∧ H' q = some (.lst ((ks.drop i).map V.str)) ∧ i ≤ ks.length
  refine ⟨fun m σ H' => ∃ (i : Nat) (ks : List Str) (F : Str → Option (Step Str)) (dep : Str → Nat) (x4 x5 x6 : Option V), σ = [some (.ref sa), some (.ref ga), some (.ref d), some (.ref q), x4, x5, x6] ∧ In i ks F dep H' ∧
    (∀ (j : Nat) x, j < i → ks[j]? = some x → ∀ s ∈ ss, s.e = x → s.b ∈ ks) ∧ m + i = ps.length, ⟨ps.length, 0, [e], fun _ => none, fun _ => 0, none, none, none, rfl, ⟨e3, ?_, ⟨by simp, by simp, fun x hx => .inl ⟨by simpa using hx, rfl, rfl⟩⟩, by simpa using hep, upd_same, by simp⟩, fun j x hj => by omega, by omega⟩, ?_⟩
  · refine ⟨fun x => if x = e then some .non else none, ⟨[((Sum.inr e : Key), V.non)], by rw [upd_ne dq]; exact upd_same, by simp, fun x => ?_⟩, fun x hx => if_neg (by simpa using hx), fun x hx => ⟨.non, if_pos (by simpa using hx), .inl ⟨rfl, rfl⟩⟩⟩
    show _ = if x = e then some V.non else none
    by_cases hx : x = e
    · subst hx
      rw [if_pos rfl]
      exact valV_pos rfl
    · rw [if_neg hx]
      exact valV_neg (r := []) (fun z => hx (Sum.inr.inj z).symm)
  rintro m σ H2 ⟨i, ks, F, dep, x4, x5, x6, rfl, ⟨e4, hF, hfo, hkp, hq4, hi⟩, hcl, hm⟩
  have kl : ks.length ≤ ps.length := nodup_le hfo.nd hkp
  refine ⟨_, rfl, q, _, rfl, .inl (SqL.of hq4), _, _, rfl, rfl, _, rfl, ite2 (fun hb => ?_) (fun hb => ?_)⟩
  · have hlt : i < ks.length := by
      have := of_decide_eq_true hb
      simp at this
      omega
    obtain ⟨here, hh⟩ : ∃ x, ks[i]? = some x := ⟨_, List.getElem?_eq_getElem hlt⟩
    have ed : ks.drop i = here :: ks.drop (i + 1) := by
      rw [List.drop_eq_getElem_cons hlt]
      congr 1
      exact Option.some.inj ((List.getElem?_eq_getElem hlt).symm.trans hh)
    have hhk : here ∈ ks := List.mem_of_getElem? hh
    refine ⟨fun σ' H' => ∃ (ks : List Str) (F : Str → Option (Step Str)) (dep : Str → Nat) (x4 x5 x6 : Option V), σ' = [some (.ref sa), some (.ref ga), some (.ref d), some (.ref q), x4, x5, x6] ∧ In (i + 1) ks F dep H' ∧
      (∀ (j : Nat) x, j < i + 1 → ks[j]? = some x → ∀ s ∈ ss, s.e = x → s.b ∈ ks), ?_, ?_⟩
    · rintro σ' H' ⟨ks', F', dep', x4, x5, x6, rfl, a1, a2⟩
      exact ⟨m - 1, by omega, i + 1, ks', F', dep', x4, x5, x6, rfl, a1, a2, by omega⟩
    refine ⟨_, rfl, .inl ⟨rfl, _, SqL.of hq4⟩, q, _, 0, 0, .str here, rfl, rfl, hq4, by decide, by decide, ?_, ?_, ?_⟩
    · rw [ed]; exact (ixN_seq (Evl.ixN_nat (j := 0) (by simp))).1
    · rw [ed]; rfl
    have eE : ((ks.drop i).map V.str).eraseIdx 0 = (ks.drop (i + 1)).map V.str := by rw [ed]; rfl
    rw [eE]
    have e5 : Ex H (upd H2 q (.lst ((ks.drop (i + 1)).map V.str))) := e4.upd_new nq
    have txq : TX H2 (upd H2 q (.lst ((ks.drop (i + 1)).map V.str))) := .wl hq4
    have hF5 : FouV K (upd H2 q (.lst ((ks.drop (i + 1)).map V.str))) d ks F ks.length := by
      obtain ⟨f, f1, f2, f3⟩ := hF
      refine ⟨f, f1.upd_ne dq, f2, fun x hx => ?_⟩
      obtain ⟨v, v1, v2⟩ := f3 x hx
      refine ⟨v, v1, ?_⟩
      rcases v2 with v2 | ⟨s, v2, v3⟩
      · exact .inl v2
      · exact .inr ⟨s, v2, v3.mono txq⟩
    refine ⟨_, rfl, sa, rfl, ⟨_, SqL.of (e5 _ _ hsa)⟩, for_list (K := K) (a := sa) (xs := sv) (fun j σ' H' => ∃ (more : List Str) (F : Str → Option (Step Str)) (dep : Str → Nat) (x5 x6 : Option V), σ' = [some (.ref sa), some (.ref ga), some (.ref d), some (.ref q), some (.str here), x5, x6] ∧ In (i + 1) (ks ++ more) F dep H' ∧
      (∀ s ∈ ss.take j, s.e = here → s.b ∈ ks ++ more)) ⟨[], F, dep, x5, x6, rfl, ?_, by simp⟩ (fun j σ' H' _ ⟨_, _, _, _, _, _, a, _⟩ => SqL.of (a.1 _ _ hsa)) ?_ ?_⟩
    · rw [List.append_nil]
      exact ⟨e5, hF5, hfo, hkp, upd_same, hlt⟩
    · rintro j y σ' H' hy ⟨more, F', dep', x5, x6, rfl, ⟨a1, a2, a3, a4, a5, a6⟩, a7⟩
      obtain ⟨s, hs, rs⟩ := hsv.get hy
      have hsS : s ∈ ss := List.mem_of_getElem? hs
      have rs' : StV K H' y s := rs.mono (.of a1)
      obtain ⟨ta, vr, vg, rfl, ht, hr1, hg1⟩ := id rs'
      have et : ss.take (j + 1) = ss.take j ++ [s] := take_snoc hs
      refine ⟨_, rfl, ta, _, _, .str s.e, rfl, rfl, ht.sq, rfl, _, rfl, rfl, _, rfl, ?_⟩
      by_cases he : s.e = here
      · refine (show if decide (V.str s.e = V.str here) = true then _ else _ from ?_)
        rw [decide_eq_true (congrArg V.str he)]
        refine iteT ?_
        obtain ⟨f, fd, f2, f3⟩ := id a2
        refine ⟨_, rfl, ta, _, _, .str s.b, rfl, rfl, ht.sq, rfl, _, rfl, d, _, rfl, fd.get s.b, _, rfl, ?_⟩
        by_cases hbk : s.b ∈ ks ++ more
        · obtain ⟨v, v1, _⟩ := f3 _ hbk
          rw [v1]
          refine iteF ⟨more, F', dep', _, _, rfl, ⟨a1, a2, a3, a4, a5, a6⟩, fun u hu hue => ?_⟩
          rw [et] at hu
          rcases List.mem_append.mp hu with z | z
          · exact a7 u z hue
          · rw [List.mem_singleton.mp z]; exact hbk
        · rw [f2 _ hbk]
          refine iteT ?_
          have kl2 : (ks ++ more).length ≤ ps.length := nodup_le a3.nd a4
          obtain ⟨H6, p6, d6, ⟨o6, rfl⟩, tx6⟩ := fd.put (by omega) s.b (.ref ta)
          refine ⟨_, rfl, _, rfl, _, rfl, ta, _, _, .str s.b, rfl, rfl, ht.sq, rfl, d, _, rfl, p6, ?_⟩
          have q6 : upd H' d o6 q = some (.lst (((ks ++ more).drop (i + 1)).map V.str)) := by rw [upd_ne (Ne.symm dq)]; exact a5
          have ht6 := ht.mono tx6
          refine ⟨_, rfl, .inl ⟨rfl, _, SqL.of q6⟩, _, rfl, ta, _, _, .str s.b, rfl, rfl, ht6.sq, rfl, q, _, _, rfl, rfl, q6, small (by rw [List.length_map, List.length_drop]; omega), ?_⟩
          have tx7 : TX (upd H' d o6) (upd (upd H' d o6) q (.lst ((((ks ++ more).drop (i + 1)).map V.str) ++ [V.str s.b]))) := .wl q6
          have hse : s.e ∈ ks ++ more := List.mem_append_left _ (he ▸ hhk)
          refine ⟨more ++ [s.b], fun x => if x = s.b then some s else F' x, fun x => if x = s.b then dep' s.e + 1 else dep' x, _, _, rfl, ⟨(a1.upd_new nd).upd_new nq, ⟨_, ((d6.upd_ne dq).le (by rw [← List.append_assoc, List.length_append (bs := [s.b])]; exact Nat.le_refl _)), fun x hx => ?_, fun x hx => ?_⟩, ⟨?_, ?_, fun x hx => ?_⟩, fun x hx => ?_, ?_, ?_⟩, fun u hu hue => ?_⟩
          · have hx' : x ∉ ks ++ more ∧ x ≠ s.b := by
              rw [← List.append_assoc] at hx
              exact ⟨fun z => hx (List.mem_append_left _ z), fun z => hx (by simp [z])⟩
            show (if x = s.b then _ else f x) = none
            rw [if_neg hx'.2]
            exact f2 x hx'.1
          · by_cases hxb : x = s.b
            · exact ⟨.ref ta, if_pos hxb, .inr ⟨s, if_pos hxb, rs'.mono (tx6.trans tx7)⟩⟩
            · have hx' : x ∈ ks ++ more := by
                rw [← List.append_assoc] at hx
                rcases List.mem_append.mp hx with z | z
                · exact z
                · exact absurd (List.mem_singleton.mp z) hxb
              obtain ⟨v, v1, v2⟩ := f3 x hx'
              refine ⟨v, by show (if x = s.b then _ else f x) = _; rw [if_neg hxb]; exact v1, ?_⟩
              show ((if x = s.b then some s else F' x) = none ∧ _) ∨ ∃ s', (if x = s.b then some s else F' x) = some s' ∧ _
              rw [if_neg hxb]
              rcases v2 with v2 | ⟨s', v2, v3⟩
              · exact .inl v2
              · exact .inr ⟨s', v2, v3.mono (tx6.trans tx7)⟩
          · rw [← List.append_assoc]
            exact nd_snoc a3.nd hbk
          · rw [← List.append_assoc]
            exact List.mem_append_left _ a3.en
          · show (x = e ∧ (if x = s.b then some s else F' x) = none ∧ (if x = s.b then dep' s.e + 1 else dep' x) = 0) ∨ ∃ s', (if x = s.b then some s else F' x) = some s' ∧ _
            have hseb : s.e ≠ s.b := fun z => hbk (z ▸ hse)
            by_cases hxb : x = s.b
            · refine .inr ⟨s, if_pos hxb, hsS, hxb.symm, by rw [← List.append_assoc]; exact List.mem_append_left _ hse, ?_⟩
              show (if x = s.b then dep' s.e + 1 else dep' x) = (if s.e = s.b then dep' s.e + 1 else dep' s.e) + 1
              rw [if_pos hxb, if_neg hseb]
            · have hx' : x ∈ ks ++ more := by
                rw [← List.append_assoc] at hx
                rcases List.mem_append.mp hx with z | z
                · exact z
                · exact absurd (List.mem_singleton.mp z) hxb
              rw [if_neg hxb, if_neg hxb]
              rcases a3.at_ x hx' with z | ⟨s', z1, z2, z3, z4, z5⟩
              · exact .inl z
              · refine .inr ⟨s', z1, z2, z3, by rw [← List.append_assoc]; exact List.mem_append_left _ z4, ?_⟩
                show dep' x = (if s'.e = s.b then dep' s.e + 1 else dep' s'.e) + 1
                rw [if_neg (fun z : s'.e = s.b => hbk (z ▸ z4))]
                exact z5
          · rw [← List.append_assoc] at hx
            rcases List.mem_append.mp hx with z | z
            · exact a4 x z
            · rw [List.mem_singleton.mp z]; exact hsb s hsS
          · rw [upd_same, ← List.append_assoc, List.drop_append_of_le_length a6, List.map_append]
            rfl
          · simp at a6 ⊢
            omega
          · rw [et] at hu
            rw [← List.append_assoc]
            rcases List.mem_append.mp hu with z | z
            · exact List.mem_append_left _ (a7 u z hue)
            · rw [List.mem_singleton.mp z]; simp
      · refine (show if decide (V.str s.e = V.str here) = true then _ else _ from ?_)
        rw [decide_eq_false (fun z => he (V.str.inj z))]
        refine iteF (iteF ⟨more, F', dep', _, _, rfl, ⟨a1, a2, a3, a4, a5, a6⟩, fun u hu hue => ?_⟩)
        rw [et] at hu
        rcases List.mem_append.mp hu with z | z
        · exact a7 u z hue
        · rw [List.mem_singleton.mp z] at hue
          exact absurd hue he
    · rintro σ' H' ⟨more, F', dep', x5, x6, rfl, a1, a7⟩
      refine ⟨ks ++ more, F', dep', _, _, _, rfl, a1, fun j x hj hx s hs hse => ?_⟩
      by_cases hji : j = i
      · subst hji
        rw [List.getElem?_append_left hlt, hh] at hx
        cases hx
        exact a7 s (by rw [hsv.length, List.take_length]; exact hs) hse
      · have hjl : j < ks.length := by omega
        rw [List.getElem?_append_left hjl] at hx
        exact List.mem_append_left _ (hcl j x (by omega) hx s hs hse)
  · have hie : i = ks.length := by
      have : ¬ _ := fun z => hb (decide_eq_true z)
      simp at this
      omega
    subst hie
    obtain ⟨f, fd, f2, f3⟩ := hF
    refine ⟨_, rfl, k d H2 ks F dep nd e4 ⟨f, fd.le (by omega), f2, f3⟩ hfo (fun s hs hse => ?_) hkp⟩
    obtain ⟨j, hj⟩ := List.mem_iff_getElem?.mp hse
    exact hcl j s.e (List.getElem?_eq_some_iff.mp hj).1 hj s hs rfl
end
end GW
set_option Elab.async false
set_option linter.all false
set_option maxRecDepth 100000
set_option maxHeartbeats 4000000
/-! WB2: ring_bettering, bettering -/
namespace GW
open PySem PySem.Spec PyProof.Rows L2 GM
section
variable {P : Program} {w : World} {K : PySem.W.Frag} {mg : Str → Option Value} {base : Heap}
/-- all but what stands at D stays -/
def But (D : Addr) (H H' : Hp) : Prop := ∀ c o, c ≠ D → H c = some o → H' c = some o
/-- a comprehension over a list, its items told by what may stand in new lists -/
theorem lc_mapD {a : Addr} {xs : List V} {g : TG} {te : TE} {vs : List Nat} {σ : L2.St} {H1 : Hp} {β : Type} {ys : List β} {R : Addr → Hp → V → β → Prop} (hm : ∀ D H H' v y, But D H H' → TX H H' → R D H v y → R D H' v y) (hx : H1 a = some (.lst xs)) (hl : xs.length = ys.length) (hz : ys.length ≤ 100000)
    (hs : ∀ D (i : Nat) (x : V) (y : β) H, xs[i]? = some x → ys[i]? = some y → Ex H1 H → (∃ acc, H D = some (.lst acc)) → ∀ A : V → Hp → Prop, (∀ v H4, Ex H H4 → R D H4 v y → A v H4) → g x (wipe σ vs) H fun σ2 H2 => wipe σ2 vs = wipe σ vs ∧ te σ2 H2 A)
    {Qd : Addr → Hp → Prop} (k : ∀ D H' zs, H1 D = none → Ex H1 H' → H' D = some (.lst zs) → All2 (R D H') zs ys → Qd D H') : ∀ D, H1 D = none →
    ∃ W : Nat → Nat → Hp → Prop, (∃ m, W 0 m (upd H1 D (.lst []))) ∧ ∀ i m H, W i m H →
      ((Itl K a).stop i H ∧ Qd D H) ∨ ((Itl K a).go i H ∧ ∃ Nx : Hp → Prop, (∀ H', Nx H' → ∃ m', m' < m ∧ W (i + 1) m' H') ∧ ∀ x H', (Itl K a).yld i H x H' → g x (wipe σ vs) H' fun σ2 H2 => wipe σ2 vs = wipe σ vs ∧ tYes σ2 H2 fun b H3 =>
        if b = true then te σ2 H3 fun y H4 => ∃ acc, H4 D = some (.lst acc) ∧ acc.length < sizeLine ∧ Nx (upd H4 D (.lst (acc ++ [y]))) else Nx H3) := by
  intro D hD
  refine lc_list (K := K) (a := a) (xs := xs) (fun i H => Ex H1 H ∧ ∃ acc, H D = some (.lst acc) ∧ All2 (R D H) acc (ys.take i)) ⟨Ex.new hD, [], upd_same, .nil⟩ (fun i H _ q => SqL.of (q.1 _ _ hx)) (fun i x H hi q => ?_) fun H q => ?_
  · obtain ⟨e, acc, h1, h2⟩ := q
    have hlt : i < ys.length := by rw [← hl]; exact (List.getElem?_eq_some_iff.mp hi).1
    have hy : ys[i]? = some ys[i] := List.getElem?_eq_getElem hlt
    refine hs D i x _ H hi hy e ⟨acc, h1⟩ _ fun v H4 e4 r => ⟨acc, e4 _ _ h1, small ?_, (e.trans e4).upd_new hD, acc ++ [v], upd_same, ?_⟩
    · rw [h2.length, List.length_take]; omega
    · have tx : TX H4 (upd H4 D (.lst (acc ++ [v]))) := .wl (e4 _ _ h1)
      have bt : But D H4 (upd H4 D (.lst (acc ++ [v]))) := fun c o hc ho => by rw [upd_ne hc]; exact ho
      rw [take_snoc hy]
      exact (h2.mono fun u y r => hm D _ _ _ _ bt tx (hm D _ _ _ _ (fun c o _ ho => e4 c o ho) (.of e4) r)).snoc (hm D _ _ _ _ bt tx r)
  · obtain ⟨e, acc, h1, h2⟩ := q
    rw [hl, List.take_length] at h2
    exact k D H acc hD e h1 h2
/-- a bettering as a value -/
def BetV (K : PySem.W.Frag) (H : Hp) (v : V) : Bet Str → Prop
  | .way c => ∃ a p vs, v = .ref a ∧ H a = some (.tup [.str "way", .ref p]) ∧ H p = some (.lst vs) ∧ All2 (PrV K H) vs (c.map fun s => (s.n, s.k))
  | .ring r c => ∃ a p q vs ws, v = .ref a ∧ H a = some (.tup [.str "ring", .ref p, .ref q]) ∧ H p = some (.lst vs) ∧ All2 (PrV K H) vs (r.map fun s => (s.n, s.k)) ∧ H q = some (.lst ws) ∧ All2 (PrV K H) ws (c.map fun s => (s.n, s.k))
theorem BetV.ex {H H' : Hp} {v : V} {x : Bet Str} (h : BetV K H v x) (e : Ex H H') : BetV K H' v x := by
  cases x with
  | way c =>
    obtain ⟨a, p, vs, h1, h2, h3, h4⟩ := h
    exact ⟨a, p, vs, h1, e _ _ h2, e _ _ h3, h4.tm tm_pr (.of e)⟩
  | ring r c =>
    obtain ⟨a, p, q, vs, ws, h1, h2, h3, h4, h5, h6⟩ := h
    exact ⟨a, p, q, vs, ws, h1, e _ _ h2, e _ _ h3, h4.tm tm_pr (.of e), e _ _ h5, h6.tm tm_pr (.of e)⟩
/-- a list of ints: where the least stands first -/
theorem first_at {ns : List Int} {m : Int} (h : m ∈ ns) : ∃ j : Nat, ns[j]? = some m ∧ ∀ k z, k < j → ns[k]? = some z → z ≠ m := by
  induction ns with
  | nil => exact nomatch h
  | cons a l ih =>
    by_cases e : a = m
    · exact ⟨0, by simp [e], fun k z hk => by omega⟩
    · have hm : m ∈ l := by
        rcases List.mem_cons.mp h with q | q
        · exact absurd q.symm e
        · exact q
      obtain ⟨j, h1, h2⟩ := ih hm
      refine ⟨j + 1, by simpa using h1, fun k z hk hz => ?_⟩
      cases k with
      | zero => simp at hz; rw [← hz]; exact e
      | succ k => exact h2 k z (by omega) (by simpa using hz)
theorem flat_ints (ns : List Int) : (ns.map V.int).all flatV = true := by simp [List.all_map, flatV]
def sp_ring_bettering (K : PySem.W.Frag) : Sp := sp4 fun a b c d H Q => ∃ (pa pb : Addr) (vt : V) (ps : List Str) (e : Str) (sa : Addr) (sv : List V) (ss : List (Step Str)) (da : Addr) (ks : List Str) (F : Str → Option (Step Str)) (dep : Str → Nat) (n : Nat),
  a = .ref pa ∧ Tp K H pa [.ref pb, vt] ∧ Tp K H pb (ps.map V.str) ∧ b = .str e ∧ c = .ref sa ∧ H sa = some (.lst sv) ∧ All2 (StV K H) sv ss ∧ d = .ref da ∧ FouV K H da ks F n ∧ Found ss e ks F dep ∧ ps.Nodup ∧ ps.length ≤ 10 ∧ 1 ≤ ps.length ∧ ss.length ≤ 48 ∧
  (∀ x ∈ ks, x ∈ ps) ∧ LaneOk ps ss ∧
  ((∃ h : Str → Rat, (∀ x, 0 < h x) ∧ ∀ s ∈ ss, s.b ∈ ks → s.e ∈ ks → s.gain * h s.e ≤ h s.b) → ∀ H', Ex H H' → Q .non H') ∧
  (∀ v H' r c, Ex H H' → BetV K H' v (.ring r c) → (∃ x, RingOk ss e r c x) → Q v H')
/-! ring_bettering: slots 0:net 1:end 2:steps 3:found 4:near 5:spots 6:ring 7:courses 8:sizes 9:first 10:step 11:spot 12:course -/
abbrev N_ring_bettering : List Str := ["net", "end", "steps", "found", "near", "spots", "ring", "courses", "sizes", "first", "step", "spot", "course"]
theorem sc_ring_bettering : FnScope N_ring_bettering ["net", "end", "steps", "found"] (defScope s_ring_bettering) := ⟨rfl, rfl, rfl, by decide +kernel, rfl, by decide +kernel, by decide +kernel⟩
theorem ok_ring_bettering (T : Txt K mg) : DOk P w K mg base "ring_bettering" ["net", "end", "steps", "found"] 6 (sp_ring_bettering K) := by
  have G_pairs_of := ok_pairs_of (P := P) (w := w) (base := base) T
  have G_course_from := ok_course_from (P := P) (w := w) (base := base) T
  have G_worths_or_ring := ok_worths_or_ring (P := P) (w := w) (base := base) T
  refine T.d_ring_bettering.ok sc_ring_bettering sp4_len (fun f cdv A outer s H vs Q E hr h => ?_)
  refine ⟨_, (pss_cons (ps_set (i := 4) sc_ring_bettering.nd rfl (Or.inr rfl) (pe_lc (own := [("step", 10)]) (g := gName 10) (by rfl) sc_ring_bettering.nd (piL K (pv 2)) (blkOk_by (N := N_ring_bettering) (sc := defScope s_ring_bettering) (own := [("step", 10)]) (by decide +kernel)) (fun _ _ _ _ _ => (pg_name (i := 10) sc_ring_bettering.nd rfl (Or.inl rfl))) (fun _ _ _ _ _ => (pts_one (PW.pt (pw_and (pt_cmp (pc_din (hu_of hr) (pe_ix (ixT K) (pv 10) (pe_gc T.c_BEGINS) (fun _ _ => rfl)) (pv 3))) (pw_and1 (pt_cmp (pc_din (hu_of hr) (pe_ix (ixT K) (pv 10) (pe_gc T.c_ENDS) (fun _ _ => rfl)) (pv 3)))))))) (fun _ _ _ _ _ => (pv 10))))
        (pss_cons (ps_set (i := 5) sc_ring_bettering.nd rfl (Or.inl rfl) (pe_ix (ixT K) (pe_callD G_worths_or_ring (hr.mono (by decide)) (pa_cons (pe_ix (ixT K) (pv 0) pe_int (fun _ _ => rfl)) (pa_cons (pe_lc (own := [("step", 10)]) (g := gName 10) (tt := tYes) (by rfl) sc_ring_bettering.nd (piL K (pv 4)) (blkOk_by (N := N_ring_bettering) (sc := defScope s_ring_bettering) (own := [("step", 10)]) (by decide +kernel)) (fun _ _ _ _ _ => (pg_name (i := 10) sc_ring_bettering.nd rfl (Or.inl rfl))) (fun _ _ _ _ _ => pts_nil) (fun _ _ _ _ _ => (pe_tup (pa_cons (pe_ix (ixT K) (pv 10) (pe_gc T.c_BEGINS) (fun _ _ => rfl)) (pa_cons (pe_ix (ixT K) (pv 10) (pe_gc T.c_ENDS) (fun _ _ => rfl)) (pa_cons (pe_ix (ixT K) (pv 10) (pe_gc T.c_GAINS) (fun _ _ => rfl)) pa_nil)))))) pa_nil))) pe_int (fun _ _ => rfl)))
        (pss_cons (ps_if (pt_cmpR op_isN (pv 5) pe_non (nomark _)) (pss_one (ps_ret pe_non)) pss_nil)
        (pss_cons (ps_setLc (i := 6) (own := [("spot", 11)]) (g := gName 11) (tt := tYes) (by rfl) sc_ring_bettering.nd rfl rfl (sw_true rfl rfl rfl (by decide +kernel)) (piL K (pv 5)) (blkOk_by (N := N_ring_bettering) (sc := defScope s_ring_bettering) (own := [("spot", 11)]) (by decide +kernel)) (fun _ _ _ _ _ => (pg_name (i := 11) sc_ring_bettering.nd rfl (Or.inl rfl))) (fun _ _ _ _ _ => pts_nil) (fun _ _ _ _ _ => (pe_ix (ixL K) (pv 4) (pv 11) (fun _ _ => rfl))))
        (pss_cons (ps_setLc (i := 7) (own := [("step", 10)]) (g := gName 10) (tt := tYes) (by rfl) sc_ring_bettering.nd rfl rfl (sw_true rfl rfl rfl (by decide +kernel)) (piL K (pv 6)) (blkOk_by (N := N_ring_bettering) (sc := defScope s_ring_bettering) (own := [("step", 10)]) (by decide +kernel)) (fun _ _ _ _ _ => (pg_name (i := 10) sc_ring_bettering.nd rfl (Or.inl rfl))) (fun _ _ _ _ _ => pts_nil) (fun _ _ _ _ _ => (pe_callD G_course_from (hr.mono (by decide)) (pa_cons (pv 3) (pa_cons (pe_ix (ixT K) (pv 10) (pe_gc T.c_BEGINS) (fun _ _ => rfl)) pa_nil)))))
        (pss_cons (ps_setLc (i := 8) (own := [("course", 12)]) (g := gName 12) (tt := tYes) (by rfl) sc_ring_bettering.nd rfl rfl (sw_true rfl rfl rfl (by decide +kernel)) (piL K (pv 7)) (blkOk_by (N := N_ring_bettering) (sc := defScope s_ring_bettering) (own := [("course", 12)]) (by decide +kernel)) (fun _ _ _ _ _ => (pg_name (i := 12) sc_ring_bettering.nd rfl (Or.inl rfl))) (fun _ _ _ _ _ => pts_nil) (fun _ _ _ _ _ => (pe_callB (lenK K) (by rfl) T.n_len PySem.boot_len (pa_cons (pv 12) pa_nil))))
        (pss_cons (ps_set (i := 9) sc_ring_bettering.nd rfl (Or.inl rfl) (pe_bm PySem.F.plainAttrs_list PySem.F.slot_list_index PySem.F.type_list_index mt_index (pv 8) (pa_cons (pe_callB (cr_min rfl) (by rfl) T.n_min (by decide +kernel) (pa_cons (pv 8) pa_nil)) pa_nil)))
        (pss_one (ps_ret (pe_tup (pa_cons (pe_gc T.c_RING) (pa_cons (pe_callD G_pairs_of (hr.mono (by decide)) (pa_cons (pe_op op_cat (pe_slice (slL K) (pv 6) (po_some (pv 9)) po_none) (pe_slice (slL K) (pv 6) po_none (po_some (pv 9)))) pa_nil)) (pa_cons (pe_callD G_pairs_of (hr.mono (by decide)) (pa_cons (pe_ix (ixL K) (pv 7) (pv 9) (fun _ _ => rfl)) pa_nil)) pa_nil))))))))))))), ?_⟩
  obtain ⟨_, _, _, _, rfl, pa, pb, vt, ps, e, sa, sv, ss, da, ks, F, dep, n, rfl, hpa, hpb, rfl, rfl, hsa, hsv, rfl, hF, hf, hnd, hp10, hp1, hs48, hkp, O, k1, k2⟩ := h
  -- near
  refine ⟨_, rfl, sa, rfl, ⟨_, SqL.of hsa⟩, lc_fm (K := K) (ys := ss) (R := StV K) tm_st (p := fun s => decide (s.b ∈ ks) && decide (s.e ∈ ks)) (f := id) hsa hsv.length (by omega) ?_ ?_⟩
  · intro i x y H1 hx hy e1 A B hA hB
    have rs := (hsv.two hx hy).mono (.of e1)
    obtain ⟨ta, vr, vg, rfl, ht, _, _⟩ := id rs
    obtain ⟨f, fd, f2, f3⟩ := hF.ex e1
    refine ⟨rfl, _, rfl, ta, _, _, .str y.b, rfl, rfl, ht.sq, rfl, _, rfl, da, _, rfl, fd.get y.b, _, rfl, ?_⟩
    by_cases hb : y.b ∈ ks
    · obtain ⟨v1, hv1, _⟩ := f3 _ hb
      rw [hv1]
      refine iteT ⟨_, rfl, ta, _, _, .str y.e, rfl, rfl, ht.sq, rfl, _, rfl, da, _, rfl, fd.get y.e, _, rfl, ?_⟩
      by_cases he : y.e ∈ ks
      · obtain ⟨v2, hv2, _⟩ := f3 _ he
        rw [hv2]
        refine iteT ⟨_, rfl, hA (by simp [hb, he]) _ _ (Ex.refl _) rs⟩
      · rw [f2 _ he]
        exact iteF (hB (by simp [he]) _ (Ex.refl _))
    · rw [f2 _ hb]
      exact iteF (iteF (hB (by simp [hb]) _ (Ex.refl _)))
  intro nd H1 nv hnd0 e1 hnd1 hnv
  rw [List.map_id] at hnv
  -- what stands near
  generalize hL : ss.filter (fun s => decide (s.b ∈ ks) && decide (s.e ∈ ks)) = L at hnv
  have hLm : ∀ s, s ∈ L ↔ s ∈ ss ∧ s.b ∈ ks ∧ s.e ∈ ks := fun s => by
    rw [← hL, List.mem_filter]
    simp
  have hLl : L.length ≤ 48 := by
    rw [← hL]
    have := List.length_filter_le (fun s : Step Str => decide (s.b ∈ ks) && decide (s.e ∈ ks)) ss
    omega
  have OL : LaneOk ps L := ⟨fun s h => O.b s ((hLm s).mp h).1, fun s h => O.e s ((hLm s).mp h).1, fun s h => O.ne s ((hLm s).mp h).1, fun s h => O.pos s ((hLm s).mp h).1, fun s h => O.sz s ((hLm s).mp h).1⟩
  -- spots
  refine ⟨_, rfl, pa, _, _, .ref pb, rfl, rfl, (hpa.mono (.of e1)).sq, rfl, _, rfl, nd, rfl, ⟨_, SqL.of hnd1⟩, lc_fm (K := K) (ys := L) (R := LaneV K) tm_lane (p := fun _ => true) (f := id) hnd1 hnv.length (by omega) ?_ ?_⟩
  · intro i x y H2 hx hy e2
    obtain ⟨ta, vr, vg, rfl, ht, _, hg⟩ := (hnv.two hx hy).mono (.of e2)
    refine LcTurn.yes fun A hA => ⟨rfl, _, rfl, ta, _, _, .str y.b, rfl, rfl, ht.sq, rfl, _, rfl, ta, _, _, .str y.e, rfl, rfl, ht.sq, rfl, _, rfl, ta, _, _, vg, rfl, rfl, ht.sq, rfl, smallE (by simp), fun p hp => ?_⟩
    exact hA _ _ (Ex.new hp) ⟨p, vg, rfl, .of upd_same, hg.ex (Ex.new hp)⟩
  intro la H2 lv hla0 e2 hla hlv
  have ef : (L.filter fun _ => true).map id = L := by simp
  rw [ef] at hlv
  have e12 := e1.trans e2
  refine ⟨_, _, rfl, pb, la, lv, ps, L, rfl, rfl, hpb.mono (.of e12), hla, hlv, OL, hnd, hp10, hp1, hLl, fun H3 t v1 v2 e3 ht hv => ?_⟩
  have e13 := e12.trans e3
  refine ⟨t, _, _, v2, rfl, rfl, SqT.of ht, rfl, ?_⟩
  rcases hv with ⟨rfl, W, hW, hst⟩ | ⟨q, is, rs, rfl, hq0, hq, g1, g2, g3, ⟨x0, g4⟩, g5⟩
  · refine ⟨_, rfl, rfl, _, rfl, ?_⟩
    refine iteT (k1 ⟨W, hW, fun s hs hb he => hst s ((hLm s).mpr ⟨hs, hb, he⟩)⟩ H3 e13)
  refine ⟨_, rfl, rfl, _, rfl, ?_⟩
  refine iteF ?_
  have isl : is.length = rs.length := g1.length
  have hrm : ∀ s ∈ rs, s ∈ L := fun s hs => by
    obtain ⟨i, _, hi⟩ := g1.mem_right hs
    exact List.mem_of_getElem? hi
  have hrl : rs.length ≤ 1000 := by
    have := nodup_le (l := rs.map (·.b)) (ps := ps) g3 fun x hx => by
      obtain ⟨s, hs, rfl⟩ := List.mem_map.mp hx
      exact OL.b s (hrm s hs)
    simp at this
    omega
  have e23 : Ex H1 H3 := e2.trans e3
  -- ring
  refine ⟨_, rfl, q, rfl, ⟨_, SqL.of hq⟩, lc_fm (K := K) (ys := rs) (R := StV K) tm_st (p := fun _ => true) (f := id) hq (by simpa using isl) (by omega) ?_ ?_⟩
  · intro i x y H4 hx hy e4
    rw [List.getElem?_map] at hx
    obtain ⟨i0, hi0, hLi⟩ := g1.get' hy
    rw [hi0] at hx
    cases hx
    obtain ⟨nv0, hn0, rn0⟩ := hnv.get' hLi
    refine LcTurn.yes fun A hA => ⟨rfl, _, rfl, _, rfl, nd, nv, _, nv0, rfl, rfl, SqL.of ((e23.trans e4) _ _ hnd1), atI_nat hn0, hA _ _ (Ex.refl _) (rn0.mono (.of (e23.trans e4)))⟩
  intro ra H4 rv hra0 e4 hra hrv
  have er : (rs.filter fun _ => true).map id = rs := by simp
  rw [er] at hrv
  have e14 := e13.trans e4
  -- courses
  refine ⟨_, rfl, ra, rfl, ⟨_, SqL.of hra⟩, lc_mapD (K := K) (ys := rs) (R := fun D H v s => ∃ p vs l, v = V.ref p ∧ p ≠ D ∧ H p = some (.lst vs) ∧ All2 (StV K H) vs l ∧ Crs ss dep s.b e l) (fun D H H' v y bt tx ⟨p, vs, l, h1, h2, h3, h4, h5⟩ => ⟨p, vs, l, h1, h2, bt _ _ h2 h3, h4.tm tm_st tx, h5⟩) hra hrv.length (by omega) ?_ ?_⟩
  · intro D i x y H5 hx hy e5 ⟨acc, hacc⟩ A hA
    obtain ⟨ta, vr, vg, rfl, ht, _, _⟩ := (hrv.two hx hy).mono (.of e5)
    have hyL := hrm y (List.mem_of_getElem? hy)
    refine ⟨rfl, _, rfl, _, rfl, ta, _, _, .str y.b, rfl, rfl, ht.sq, rfl, _, _, rfl, da, ks, F, dep, ss, e, y.b, n, rfl, rfl, hF.ex (e14.trans e5), hf, ((hLm y).mp hyL).2.1, ?_, fun p H6 vs l hp e6 hp6 hl6 hc => ?_⟩
    · have := nodup_le hf.nd hkp
      omega
    · exact hA _ _ e6 ⟨p, vs, l, rfl, (ne_of_none hacc hp).symm, hp6, hl6, hc⟩
  intro ca H5 cv hca0 e5 hca hcv
  have e15 := e14.trans e5
  -- sizes
  refine ⟨_, rfl, ca, rfl, ⟨_, SqL.of hca⟩, lc_fm (K := K) (ys := rs) (R := fun _ v (s : Step Str) => v = V.int (dep s.b : Nat)) (fun _ _ _ _ _ h => h) (p := fun _ => true) (f := id) hca hcv.length (by omega) ?_ ?_⟩
  · intro i x y H6 hx hy e6
    obtain ⟨p, vs, l, rfl, _, hp, hl, hc⟩ := hcv.two hx hy
    refine LcTurn.yes fun A hA => ⟨rfl, _, rfl, p, vs, rfl, .inl (SqL.of (e6 _ _ hp)), hA _ _ (Ex.refl _) ?_⟩
    rw [hl.length, hc.len]
    rfl
  intro za H6 zv hza0 e6 hza hzv
  rw [er] at hzv
  have ezv : zv = (rs.map fun s => ((dep s.b : Nat) : Int)).map V.int := by
    clear hza er hrv hcv hrl g4 g5 hrm isl g1 g2 g3
    induction hzv with
    | nil => rfl
    | cons r _ ih => rw [ih, r]; rfl
  subst ezv
  have e16 := e15.trans e6
  have hrne : 0 < rs.length := List.length_pos_iff.mpr g2
  -- first
  refine ⟨_, rfl, .inl ⟨rfl, _, SqL.of hza⟩, _, rfl, za, _, rfl, SqL.of hza, by simpa using hrne, fun m hm hmin => ?_⟩
  obtain ⟨j, hj, hjm⟩ := first_at hm
  refine ⟨za, _, _, j, .int m, rfl, rfl, SqL.of hza, rfl, flat_ints _, by rw [List.getElem?_map, hj]; rfl, by show (m == m) = true; exact beq_self_eq_true m, fun k z' hk hz => ?_, ?_⟩
  · rw [List.getElem?_map] at hz
    cases hzk : (rs.map fun s => ((dep s.b : Nat) : Int))[k]? with
    | none => rw [hzk] at hz; cases hz
    | some z =>
      rw [hzk] at hz
      cases hz
      show (z == m) = false
      exact beq_eq_false_iff_ne.mpr (hjm k z hk hzk)
  obtain ⟨sj, hsj, hsjm⟩ : ∃ s, rs[j]? = some s ∧ ((dep s.b : Nat) : Int) = m := by
    rw [List.getElem?_map] at hj
    cases hz : rs[j]? with
    | none => rw [hz] at hj; cases hj
    | some s => rw [hz] at hj; exact ⟨s, rfl, Option.some.inj hj⟩
  have hjl : j < rs.length := (List.getElem?_eq_some_iff.mp hsj).1
  obtain ⟨cvj, hcvj, p, cvs, l, rfl, _, hp5, hl5, hc⟩ := hcv.get' hsj
  have hra6 : H6 ra = some (.lst rv) := e6 _ _ (e5 _ _ hra)
  -- (RING, pairs_of(ring[first:] + ring[:first]), pairs_of(courses[first]))
  refine ⟨_, rfl, _, rfl, _, rfl, ra, _, rfl, SqL.of hra6, fun p1 hp1 => ?_⟩
  have ex1 : Ex H6 (upd H6 p1 (.lst (cutV rv (some (j : Nat)) none))) := Ex.new hp1
  refine ⟨_, rfl, _, rfl, _, rfl, ra, _, rfl, SqL.of (ex1 _ _ hra6), fun p2 hp2 => ?_⟩
  have ex2 := ex1.trans (Ex.new (o := .lst (cutV rv none (some (j : Nat)))) hp2)
  refine ⟨p1, p2, _, _, rfl, rfl, by rw [upd_ne (ne_of_none upd_same hp2)]; exact upd_same, upd_same, smallE ?_, fun p3 hp3 => ?_⟩
  · rw [cut_from, cut_to, List.length_drop, List.length_take]
    have := hrv.length
    omega
  have ex3 := ex2.trans (Ex.new (o := .lst (cutV rv (some (j : Nat)) none ++ cutV rv none (some (j : Nat)))) hp3)
  have hrv6 : All2 (StV K H6) rv rs := hrv.tm tm_st (.of (e5.trans e6))
  refine ⟨_, rfl, rs.drop j ++ rs.take j, ⟨p3, _, rfl, upd_same, ?_⟩, ?_, fun p4 H7 prs hp4 e7 hp47 hprs => ?_⟩
  · have q := ((hrv6.drop j).append (hrv6.take j)).tm tm_st (.of ex3)
    rw [← cut_from rv j, ← cut_to rv j] at q
    exact q
  · simp
    omega
  have ex7 := ex3.trans e7
  refine ⟨_, rfl, _, rfl, ca, cv, _, .ref p, rfl, rfl, SqL.of (ex7 _ _ (e6 _ _ hca)), atI_nat hcvj, _, rfl, l, ⟨p, cvs, rfl, ex7 _ _ (e6 _ _ hp5), hl5.tm tm_st (.of (e6.trans ex7))⟩, ?_, fun p5 H8 cps hp5' e8 hp58 hcps => ?_⟩
  · have := nodup_le hc.nd (ps := ps) (fun x hx => by
      rcases List.mem_cons.mp hx with z | z
      · rw [z]; exact hkp _ ((hLm sj).mp (hrm sj (List.mem_of_getElem? hsj))).2.1
      · obtain ⟨s, hs, rfl⟩ := List.mem_map.mp z
        exact O.e s (hc.mem s hs))
    simp at this
    omega
  refine ⟨smallE (by simp), fun t' ht' => ?_⟩
  have ex8 := ex7.trans e8
  refine k2 _ _ (rs.drop j ++ rs.take j) l (e16.trans (ex8.trans (Ex.new ht'))) ⟨t', p4, p5, prs, cps, rfl, upd_same, (Ex.new ht') _ _ (e8 _ _ hp47), hprs.tm tm_pr (.of (e8.trans (Ex.new ht'))), (Ex.new ht') _ _ hp58, hcps.tm tm_pr (.of (Ex.new ht'))⟩ ⟨sj.b, ?_⟩
  obtain ⟨c1, c2⟩ := ring_rotate g4 hsj
  refine ⟨c1, fun s hs => ((hLm s).mp (hrm s (rotate_mem hs))).1, ?_, ?_, by rw [c2]; exact g5, hc.ch, hc.mem, hc.nd, fun s hs hm' => ?_⟩
  · rw [List.map_append, List.map_drop, List.map_take]
    exact rotate_nodup g3 j
  · have : (rs.drop j ++ rs.take j).length = rs.length := by simp; omega
    rw [this]
    refine Nat.lt_of_not_le fun hle => ?_
    obtain ⟨s1, rfl⟩ : ∃ s, rs = [s] := by
      match rs, hrne, hle with
      | [s], _, _ => exact ⟨s, rfl⟩
    exact OL.ne s1 (hrm s1 (by simp)) (by rw [g4.1]; exact g4.2.symm)
  · obtain ⟨u, hu, hue⟩ := List.mem_map.mp hm'
    have hu' : u ∈ rs := rotate_mem hu
    have h1 := hmin ((dep u.b : Nat) : Int) (List.mem_map.mpr ⟨u, hu', rfl⟩)
    have h2 := hc.lt s hs
    rw [← hue] at h2
    omega
end
end GW
set_option Elab.async false
set_option linter.all false
set_option maxRecDepth 100000
set_option maxHeartbeats 4000000
/-! WB3: bettering -/
namespace GW
open PySem PySem.Spec PyProof.Rows L2 GM
theorem tie_sz {ts : List (Tie Str)} {ps : List Str} {b e : Str} {B : Nat} {f : List Rat} (N : NetOk ps ts) (S : StreamOk ts ps b e B f) (hB : B ≤ 3900) {i : Nat} {t : Tie Str} {x : Rat} (ht : ts[i]? = some t) (hx : f[i]? = some x) : TieSz t x := by
  obtain ⟨D, D0, DB, D42, hD⟩ := S.den
  have htm := List.mem_of_getElem? ht
  have x0 := S.flow.lo _ _ hx
  have x1 := S.flow.hi _ _ _ ht hx
  have m1 := N.mhi t htm
  have g0 := N.gpos t htm
  have hgs := N.gsz t htm
  have p20 : (0 : Rat) ≤ 2 ^ 20 := by decide +kernel
  refine ⟨g0, ?_, ?_, (inv_sz hgs g0).mono (by decide)⟩
  · exact ((((N.mden t htm).dvd D42).sub (hD _ _ hx)).sz D0 DB (v := 20) (by grind) (by grind)).mono (by omega)
  · have w : Wh (D * t.gain.den) (x * t.gain) := (hD _ _ hx).mul (Wh.den _)
    have hx20 : x ≤ 2 ^ 20 := Rat.le_trans x1 m1
    have s1 : x * t.gain ≤ 2 ^ 20 * t.gain := Rat.mul_le_mul_of_nonneg_right hx20 (Rat.le_of_lt g0)
    have s2 : (2 : Rat) ^ 20 * t.gain ≤ 2 ^ 20 * 2 ^ 6 := Rat.mul_le_mul_of_nonneg_left (gain_lt hgs) p20
    have s3 : (2 : Rat) ^ 20 * 2 ^ 6 = 2 ^ 26 := by decide +kernel
    have s4 : 0 ≤ x * t.gain := Rat.mul_nonneg x0 (Rat.le_of_lt g0)
    have s5 : (0 : Rat) ≤ 2 ^ 26 := by decide +kernel
    exact (w.sz (Nat.mul_pos D0 (Nat.pos_of_ne_zero t.gain.den_nz)) (mul_lt_pow DB hgs.2) (v := 26) (by grind) (by grind)).mono (by omega)
theorem steps_sz {ts : List (Tie Str)} {ps : List Str} {b e : Str} {B : Nat} {f : List Rat} (N : NetOk ps ts) (S : StreamOk ts ps b e B f) (hB : B ≤ 3900) : StepsSz ts f :=
  ⟨S.flow.len, by have := N.t24; omega, fun i t x ht hx => tie_sz N S hB ht hx⟩
section
variable {P : Program} {w : World} {K : PySem.W.Frag} {mg : Str → Option Value} {base : Heap}
/-- net, begin, end, stream, within bounds -/
def Given (K : PySem.W.Frag) (H : Hp) (a b c d : V) (ps : List Str) (ts : List (Tie Str)) (x y : Str) (f : List Rat) (B : Nat) : Prop :=
  NetV K H a ps ts ∧ b = .str x ∧ c = .str y ∧ LsV (FrV K) H d f ∧ NetOk ps ts ∧ x ∈ ps ∧ y ∈ ps ∧ x ≠ y ∧ StreamOk ts ps x y B f ∧ B ≤ 3600
theorem Given.ex {H H' : Hp} {a b c d : V} {ps : List Str} {ts : List (Tie Str)} {x y : Str} {f : List Rat} {B : Nat} (h : Given K H a b c d ps ts x y f B) (e : Ex H H') : Given K H' a b c d ps ts x y f B := by
  obtain ⟨h1, h2, h3, h4, h5⟩ := h
  exact ⟨h1.mono (.of e), h2, h3, h4.ex tm_fr e, h5⟩
def sp_bettering (K : PySem.W.Frag) : Sp := sp4 fun a b c d H Q => ∃ ps ts x y f B, Given K H a b c d ps ts x y f B ∧
  ((∃ R h, Stuck ts f x y R h) → ∀ H', Ex H H' → Q .non H') ∧ (∀ v H' z, Ex H H' → BetV K H' v z → BetOk (stepsOf ts f) x y z → v ≠ .non → Q v H')
theorem BetV.not_non {H : Hp} {v : V} {x : Bet Str} (h : BetV K H v x) : v ≠ .non := by
  cases x with
  | way c => obtain ⟨a, p, vs, rfl, _⟩ := h; exact fun q => nomatch q
  | ring r c => obtain ⟨a, p, q, vs, ws, rfl, _⟩ := h; exact fun q => nomatch q
/-! bettering: slots 0:net 1:begin 2:end 3:stream 4:steps 5:found -/
abbrev N_bettering : List Str := ["net", "begin", "end", "stream", "steps", "found"]
theorem sc_bettering : FnScope N_bettering ["net", "begin", "end", "stream"] (defScope s_bettering) := ⟨rfl, rfl, rfl, by decide +kernel, rfl, by decide +kernel, by decide +kernel⟩
theorem ok_bettering (T : Txt K mg) : DOk P w K mg base "bettering" ["net", "begin", "end", "stream"] 7 (sp_bettering K) := by
  have G_ring_bettering := ok_ring_bettering (P := P) (w := w) (base := base) T
  have G_pairs_of := ok_pairs_of (P := P) (w := w) (base := base) T
  have G_course_from := ok_course_from (P := P) (w := w) (base := base) T
  have G_steps_to := ok_steps_to (P := P) (w := w) (base := base) T
  have G_left_steps := ok_left_steps (P := P) (w := w) (base := base) T
  refine T.d_bettering.ok sc_bettering sp4_len (fun f cdv A outer s H vs Q E hr h => ?_)
  refine ⟨_, (pss_cons (ps_set (i := 4) sc_bettering.nd rfl (Or.inl rfl) (pe_callD G_left_steps (hr.mono (by decide)) (pa_cons (pv 0) (pa_cons (pv 3) pa_nil))))
        (pss_cons (ps_set (i := 5) sc_bettering.nd rfl (Or.inl rfl) (pe_callD G_steps_to (hr.mono (by decide)) (pa_cons (pv 4) (pa_cons (pe_lst (pa_cons (pv 2) pa_nil)) pa_nil))))
        (pss_cons (ps_if (pt_cmp (pc_din (hu_of hr) (pv 1) (pv 5))) (pss_one (ps_ret (pe_tup (pa_cons (pe_gc T.c_WAY) (pa_cons (pe_callD G_pairs_of (hr.mono (by decide)) (pa_cons (pe_callD G_course_from (hr.mono (by decide)) (pa_cons (pv 5) (pa_cons (pv 1) pa_nil))) pa_nil)) pa_nil))))) pss_nil)
        (pss_one (ps_ret (pe_callD G_ring_bettering (hr.mono (by decide)) (pa_cons (pv 0) (pa_cons (pv 2) (pa_cons (pv 4) (pa_cons (pv 5) pa_nil)))))))))), ?_⟩
  obtain ⟨_, _, _, _, rfl, ps, ts, x, y, f, B, G, k1, k2⟩ := h
  obtain ⟨hnet, rfl, rfl, hst, N, hx, hy, hxy, S, hB⟩ := id G
  refine ⟨_, rfl, _, rfl, _, _, rfl, ps, ts, f, hnet, hst, steps_sz N S (by omega), fun sa H1 sv hsa0 e1 hsa hsv => ?_⟩
  have O := laneOk (f := f) N
  have h10 := N.p10
  refine ⟨_, rfl, _, rfl, smallE (by simp), fun ga hga => ?_⟩
  have eg : Ex H1 (upd H1 ga (.lst [.str y])) := Ex.new hga
  refine ⟨_, _, rfl, sa, ga, sv, stepsOf ts f, y, ps, rfl, rfl, eg _ _ hsa, hsv.tm tm_st (.of eg), upd_same, hy, O.b, by omega, fun d H2 ks F dep hd0 e2 hF hf hcl hkp => ?_⟩
  have e12 := eg.trans e2
  obtain ⟨fd, f1, f2, f3⟩ := id hF
  refine ⟨_, rfl, _, rfl, d, _, rfl, f1.get x, _, rfl, ?_⟩
  by_cases hxk : x ∈ ks
  · obtain ⟨v, hv, _⟩ := f3 x hxk
    rw [hv]
    refine iteT ?_
    refine ⟨_, rfl, _, rfl, _, _, rfl, d, ks, F, dep, stepsOf ts f, y, x, 1000, rfl, rfl, hF, hf, hxk, ?_, fun p H3 vs l hp e3 hpl hl hc => ?_⟩
    · have := nodup_le hf.nd hkp
      omega
    have hll : l.length ≤ 1000 := by
      have := nodup_le hc.nd (ps := ps) (fun z hz => by
        rcases List.mem_cons.mp hz with q | q
        · rw [q]; exact hx
        · obtain ⟨s, hs, rfl⟩ := List.mem_map.mp q
          exact O.e s (hc.mem s hs))
      simp at this
      omega
    refine ⟨_, rfl, l, ⟨p, vs, rfl, hpl, hl⟩, hll, fun p2 H4 prs hp2 e4 hp24 hprs => ?_⟩
    refine ⟨smallE (by simp), fun t ht => ?_⟩
    have en : Ex H4 (upd H4 t (.tup [.str "way", .ref p2])) := Ex.new ht
    have hb : BetV K (upd H4 t (.tup [.str "way", .ref p2])) (.ref t) (.way l) := ⟨t, p2, prs, rfl, upd_same, en _ _ hp24, hprs.tm tm_pr (.of en)⟩
    exact k2 _ _ (.way l) (e1.trans (e12.trans (e3.trans (e4.trans en)))) hb ⟨hc.ch, hc.mem, hc.nd⟩ hb.not_non
  · rw [f2 x hxk]
    refine iteF ?_
    obtain ⟨na, nb, nc, tv, rfl, n1, n2, n3, n4⟩ := hnet.mono (.of (e1.trans e12))
    refine ⟨_, rfl, _, rfl, _, rfl, _, rfl, _, _, _, _, rfl, na, nb, .ref nc, ps, y, sa, sv, stepsOf ts f, d, ks, F, dep, 1000, rfl, n1, n2, rfl, rfl, e12 _ _ hsa, hsv.tm tm_st (.of e12), rfl, hF, hf, N.nd, h10, by have := N.p2; omega, steps48 N, hkp, O, ?_, ?_⟩
    · rintro ⟨h, hpos, hh⟩ H3 e3
      refine k1 ⟨fun z => z ∈ ks, h, hf.en, hxk, hpos, fun s hs he => hcl s (mem_stepsOf.mpr hs) he, fun s hs he => hh s (mem_stepsOf.mpr hs) (hcl s (mem_stepsOf.mpr hs) he) he⟩ _ (e1.trans (e12.trans e3))
    · rintro v H3 r c e3 hb hr
      exact k2 v H3 (.ring r c) (e1.trans (e12.trans e3)) hb hr hb.not_non
end
end GW
set_option Elab.async false
set_option linter.all false
set_option maxRecDepth 100000
set_option maxHeartbeats 4000000
/-! WS: gain_along, is_pair, steps_told, is_course, is_ring -/
namespace GW
open PySem PySem.Spec PyProof.Rows L2 GM
theorem tyx_tup {K : PySem.W.Frag} {H : Hp} {a : Addr} {xs : List V} (h : SqT K H a xs) : TyX K H (.ref a) (.type "tuple") := by
  rcases h with h | ⟨o, its, n, h1, h2, _⟩
  · rcases h with h | ⟨o, h⟩
    · exact .base (.tup h)
    · exact .fTuple h
  · exact .kTuple h1 h2
section
variable {P : Program} {w : World} {K : PySem.W.Frag} {mg : Str → Option Value} {base : Heap}
def sp_gain_along (K : PySem.W.Frag) : Sp := sp1 fun a H Q => ∃ ss : List (Step Str), LsV (StV K) H a ss ∧ ss.length ≤ 600 ∧ (∀ s ∈ ss, Sz 6 s.gain) ∧ RetFr K (gainOf ss) H Q
theorem gainOf_take {l : List (Step Str)} {i : Nat} {s : Step Str} (h : l[i]? = some s) : gainOf (l.take (i + 1)) = gainOf (l.take i) * s.gain := by
  rw [take_snoc h, gainOf_append]
  show _ * (s.gain * 1) = _
  rw [Rat.mul_one]
/-! gain_along: slots 0:steps 1:found 2:step -/
abbrev N_gain_along : List Str := ["steps", "found", "step"]
theorem sc_gain_along : FnScope N_gain_along ["steps"] (defScope s_gain_along) := ⟨rfl, rfl, rfl, by decide +kernel, rfl, by decide +kernel, by decide +kernel⟩
theorem ok_gain_along (T : Txt K mg) : DOk P w K mg base "gain_along" ["steps"] 4 (sp_gain_along K) := by
  have G_times := ok_times (P := P) (w := w) (base := base) T
  obtain ⟨aO_ONE_fractions, hO_ONE_fractions, tO_ONE_fractions⟩ := T.o_ONE_fractions
  have g_ONE_fractions : GC mg "ONE_fractions" (.ref aO_ONE_fractions) := ⟨_, hO_ONE_fractions, rfl⟩
  refine T.d_gain_along.ok sc_gain_along sp1_len (fun f cdv A outer s H vs Q E hr h => ?_)
  refine ⟨_, (pss_cons (ps_set (i := 1) sc_gain_along.nd rfl (Or.inl rfl) (pe_gc g_ONE_fractions))
        (pss_cons (ps_for PassesOwn.never rfl (piL K (pv 0)) (pg_name (i := 2) sc_gain_along.nd rfl (Or.inl rfl)) (pss_one (ps_set (i := 1) sc_gain_along.nd rfl (Or.inl rfl) (pe_callD G_times (hr.mono (by decide)) (pa_cons (pv 1) (pa_cons (pe_ix (ixT K) (pv 2) (pe_gc T.c_GAINS) (fun _ _ => rfl)) pa_nil))))))
        (pss_one (ps_ret (pv 1))))), ?_⟩
  obtain ⟨_, rfl, ss, ⟨a, sv, rfl, ha, hs⟩, hl, hz, k⟩ := h
  refine ⟨_, rfl, a, rfl, ⟨_, SqL.of ha⟩, for_list (K := K) (a := a) (xs := sv) (fun i σ H' => ∃ v x, σ = [some (.ref a), some v, x] ∧ Ex H H' ∧ FrV K H' v (gainOf (ss.take i)))
    ⟨_, none, rfl, Ex.refl _, fr_one tO_ONE_fractions⟩ (fun i σ H' _ ⟨_, _, _, e, _⟩ => SqL.of (e _ _ ha)) ?_ ?_⟩
  · rintro i y σ H' hy ⟨v, x, rfl, e, hv⟩
    obtain ⟨s, hsi, rs⟩ := hs.get hy
    obtain ⟨ta, vr, vg, rfl, ht, hr1, hg1⟩ := rs.mono (.of e)
    refine ⟨_, rfl, _, rfl, ta, _, _, vg, rfl, rfl, ht.sq, rfl, _, _, rfl, _, _, hv, hg1, trivial, ?_, fun v' H2 e2 h2 => ⟨v', _, rfl, e.trans e2, ?_⟩⟩
    · have h1 : Sz (6 * (ss.take (i + 1)).length + 1) (gainOf (ss.take (i + 1))) := gainOf_sz fun u hu => hz u (List.mem_of_mem_take hu)
      rw [gainOf_take hsi] at h1
      refine h1.mono ?_
      rw [List.length_take]
      omega
    · rw [gainOf_take hsi]
      exact h2
  · rintro σ H' ⟨v, x, rfl, e, hv⟩
    rw [hs.length, List.take_length] at hv
    exact ⟨_, rfl, k v H' e hv⟩
def sp_is_pair (K : PySem.W.Frag) : Sp := sp1 fun a H Q => ∃ q : Nat × Bool, PrV K H a q ∧ Q (.bl true) H
/-! is_pair: slots 0:thing -/
abbrev N_is_pair : List Str := ["thing"]
theorem sc_is_pair : FnScope N_is_pair ["thing"] (defScope s_is_pair) := ⟨rfl, rfl, rfl, by decide +kernel, rfl, by decide +kernel, by decide +kernel⟩
theorem ok_is_pair (T : Txt K mg) : DOk P w K mg base "is_pair" ["thing"] 2 (sp_is_pair K) := by
  have G_is_number := ok_is_number (P := P) (w := w) (base := base) T
  refine T.d_is_pair.ok sc_is_pair sp1_len (fun f cdv A outer s H vs Q E hr h => ?_)
  refine ⟨_, (pss_one (ps_ret (pe_and (pe_callB call_isi (by rfl) T.n_isinstance (by decide +kernel) (pa_cons (pv 0) (pa_cons (pe_bltn (v := .ty "tuple") (u := .type "tuple") (by rfl) T.n_tuple (by decide +kernel) rfl) pa_nil))) (pe_and (pe_cmpR op_eq (pe_callB (lenK K) (by rfl) T.n_len PySem.boot_len (pa_cons (pv 0) pa_nil)) pe_int (nomark _)) (pe_and (pe_callD G_is_number (hr.mono (by decide)) (pa_cons (pe_ix (ixT K) (pv 0) pe_int (fun _ _ => rfl)) pa_nil)) (pe_one (pe_callB call_isi (by rfl) T.n_isinstance (by decide +kernel) (pa_cons (pe_ix (ixT K) (pv 0) pe_int (fun _ _ => rfl)) (pa_cons (pe_bltn (v := .ty "bool") (u := .type "bool") (by rfl) T.n_bool (by decide +kernel) rfl) pa_nil))))))))), ?_⟩
  obtain ⟨_, rfl, q, ⟨a, rfl, ht⟩, k⟩ := h
  refine ⟨_, rfl, _, _, _, _, true, rfl, .ty "tuple", tyx_tup ht.sq, kit_ty (by decide +kernel), true, rfl, iteT ?_⟩
  refine ⟨_, rfl, a, _, rfl, .inr ht.sq, rfl, true, rfl, iteT ?_⟩
  refine ⟨_, rfl, a, _, _, .int (q.1 : Nat), rfl, rfl, ht.sq, rfl, _, rfl, (q.1 : Nat), rfl, true, rfl, iteT ?_⟩
  refine ⟨_, rfl, a, _, _, .bl q.2, rfl, rfl, ht.sq, rfl, _, _, _, _, true, rfl, .ty "bool", .base (.bl q.2), kit_ty (by decide +kernel), k⟩
def sp_is_course (K : PySem.W.Frag) : Sp := sp3 fun a b c H Q => ∃ (ss : List (Step Str)) (x y : Str), LsV (StV K) H a ss ∧ b = .str x ∧ c = .str y ∧ Chain x ss y ∧ (x :: ss.map (·.e)).Nodup ∧ ss.length ≤ 900 ∧ ∀ H', Ex H H' → Q (.bl true) H'
theorem chain_last {l : List (Step Str)} {b e : Str} (h : Chain b l e) : (b :: l.map (·.e)).getLast? = some e := by
  rw [← chain_begins h]
  simp
theorem atI_map_end {l : List Str} {e : Str} (h : l.getLast? = some e) : atI (l.map V.str) (-1) = some (.str e) := by
  refine atI_end ?_
  rw [List.getLast?_map, h]
  rfl
/-! is_course: slots 0:steps 1:first 2:end 3:places 4:step -/
abbrev N_is_course : List Str := ["steps", "first", "end", "places", "step"]
theorem sc_is_course : FnScope N_is_course ["steps", "first", "end"] (defScope s_is_course) := ⟨rfl, rfl, rfl, by decide +kernel, rfl, by decide +kernel, by decide +kernel⟩
theorem ok_is_course (T : Txt K mg) : DOk P w K mg base "is_course" ["steps", "first", "end"] 1 (sp_is_course K) := by
  refine T.d_is_course.ok sc_is_course sp3_len (fun f cdv A outer s H vs Q E hr h => ?_)
  refine ⟨_, (pss_cons (ps_set (i := 3) sc_is_course.nd rfl (Or.inl rfl) (pe_op op_cat (pe_lst (pa_cons (pv 1) pa_nil)) (pe_lc (own := [("step", 4)]) (g := gName 4) (tt := tYes) (by rfl) sc_is_course.nd (piL K (pv 0)) (blkOk_by (N := N_is_course) (sc := defScope s_is_course) (own := [("step", 4)]) (by decide +kernel)) (fun _ _ _ _ _ => (pg_name (i := 4) sc_is_course.nd rfl (Or.inl rfl))) (fun _ _ _ _ _ => pts_nil) (fun _ _ _ _ _ => (pe_ix (ixT K) (pv 4) (pe_gc T.c_ENDS) (fun _ _ => rfl))))))
        (pss_cons (ps_if (PW.pt (pw_and (pt_cmpR op_gt (pe_callB (lenK K) (by rfl) T.n_len PySem.boot_len (pa_cons (pv 0) pa_nil)) pe_int (nomark _)) (pw_and1 (pt_cmpR op_ne (pe_ix (ixT K) (pe_ix (ixL K) (pv 0) pe_int (fun _ _ => rfl)) (pe_gc T.c_BEGINS) (fun _ _ => rfl)) (pv 1) (nomark _))))) (pss_one (ps_ret pe_bl)) pss_nil)
        (pss_one (ps_ret (pe_and (pe_cmpR op_eq (pe_ix (ixL K) (pv 3) (pe_un un_neg pe_int) (fun _ _ => rfl)) (pv 2) (nomark _)) (pe_one (pe_cmpR op_eq (pe_lenSetS rfl (by rfl) T.n_len (by rfl) T.n_set (pv 3)) (pe_callB (lenK K) (by rfl) T.n_len PySem.boot_len (pa_cons (pv 3) pa_nil)) (nomark _)))))))), ?_⟩
  obtain ⟨_, _, _, rfl, ss, x, y, ⟨a, sv, rfl, ha, hs⟩, rfl, rfl, hc, hn, hl, k⟩ := h
  refine ⟨_, rfl, smallE (by simp), fun p1 hp1 => ?_⟩
  have e1 : Ex H (upd H p1 (.lst [.str x])) := Ex.new hp1
  refine ⟨_, rfl, a, rfl, ⟨_, SqL.of (e1 _ _ ha)⟩, lc_fm (K := K) (ys := ss) (R := fun _ v (s : Str) => v = V.str s) (fun _ _ _ _ _ h => h) (p := fun _ => true) (f := fun s => s.e) (e1 _ _ ha) hs.length (by omega) ?_ ?_⟩
  · intro i x y H2 hx hy e2
    obtain ⟨ta, vr, vg, rfl, ht, _, _⟩ := (hs.two hx hy).mono (.of (e1.trans e2))
    exact LcTurn.yes fun A hA => ⟨rfl, _, rfl, ta, _, _, .str y.e, rfl, rfl, ht.sq, rfl, hA _ _ (Ex.refl _) rfl⟩
  intro p2 H2 zs hp2 e2 hz az
  have ez : zs = (ss.map (·.e)).map V.str := by
    have ef : ss.filter (fun _ => true) = ss := by simp
    rw [ef] at az
    clear hz
    generalize ss.map (·.e) = l at az
    induction az with
    | nil => rfl
    | cons r _ ih => rw [ih, r]; rfl
  subst ez
  have e12 := e1.trans e2
  refine ⟨p1, p2, _, _, rfl, rfl, e2 _ _ upd_same, hz, smallE (by simp; omega), fun p3 hp3 => ?_⟩
  have e3 : Ex H2 (upd H2 p3 (.lst ([V.str x] ++ (ss.map (·.e)).map V.str))) := Ex.new hp3
  have e13 := e12.trans e3
  have hp : upd H2 p3 (.lst ([V.str x] ++ (ss.map (·.e)).map V.str)) p3 = some (.lst ((x :: ss.map (·.e)).map V.str)) := upd_same
  refine ⟨_, rfl, a, _, rfl, .inl (SqL.of (e13 _ _ ha)), _, _, rfl, rfl, _, rfl, ?_⟩
  have hl' : ss.length + 1 ≤ 1000 := by omega
  have fin2 : decide (V.int ((x :: ss.map (·.e)).length : Nat) = V.int (((x :: ss.map (·.e)).map V.str).length : Nat)) = true := by simp
  refine ite2 (fun hb => ?_) (fun hb => ?_)
  · obtain ⟨s0, l0, rfl⟩ : ∃ s l, ss = s :: l := by
      cases ss with
      | nil =>
        have := hs.nil_right
        subst this
        exact nomatch hb
      | cons s l => exact ⟨s, l, rfl⟩
    obtain ⟨v0, sv0, rfl, rs0⟩ : ∃ v l, sv = v :: l ∧ StV K H v s0 := by
      cases hs with
      | cons r t => exact ⟨_, _, rfl, r⟩
    obtain ⟨ta, vr, vg, rfl, ht, _, _⟩ := rs0.mono (.of e13)
    refine ⟨_, rfl, a, _, _, .ref ta, rfl, rfl, SqL.of (e13 _ _ ha), atI_nat (j := 0) rfl, ta, _, _, .str s0.b, rfl, rfl, ht.sq, rfl, _, rfl, rfl, _, rfl, ?_⟩
    rw [show (!decide (V.str s0.b = V.str x)) = false by rw [hc.1]; simp]
    refine iteF ?_
    refine ⟨_, rfl, 1, rfl, p3, _, _, .str y, rfl, rfl, SqL.of hp, atI_map_end (chain_last hc), _, rfl, rfl, true, by simp, iteT ?_⟩
    refine ⟨_, rfl, p3, _, rfl, SqL.of hp, hn, by simpa using hl', _, rfl, p3, _, rfl, .inl (SqL.of hp), rfl, ?_⟩
    rw [fin2]
    exact k _ e13
  · refine iteF ?_
    refine ⟨_, rfl, 1, rfl, p3, _, _, .str y, rfl, rfl, SqL.of hp, atI_map_end (chain_last hc), _, rfl, rfl, true, by simp, iteT ?_⟩
    refine ⟨_, rfl, p3, _, rfl, SqL.of hp, hn, by simpa using hl', _, rfl, p3, _, rfl, .inl (SqL.of hp), rfl, ?_⟩
    rw [fin2]
    exact k _ e13
theorem All2.eq_map {β : Type} {g : β → V} {zs : List V} {ys : List β} (h : All2 (fun v y => v = g y) zs ys) : zs = ys.map g := by
  induction h with
  | nil => rfl
  | cons r _ ih => rw [ih, r]; rfl
theorem All2.of_map {α β γ : Type} {R : α → β → Prop} {f : γ → β} : ∀ {as : List α} {cs : List γ}, All2 R as (cs.map f) → All2 (fun a c => R a (f c)) as cs
  | _, [], h => by
    have := h.nil_right
    subst this
    exact .nil
  | _, c :: cs, h => by
    cases h with
    | cons r h => exact .cons r h.of_map
theorem filt {β : Type} (l : List β) : l.filter (fun _ => true) = l := by simp
theorem filt_id {β : Type} (l : List β) : (l.filter (fun _ => true)).map id = l := by simp
theorem chain_next {l : List (Step Str)} {b e : Str} (h : Chain b l e) : ∀ {i : Nat} {s u : Step Str}, l[i]? = some s → (l.drop 1)[i]? = some u → s.e = u.b := by
  induction l generalizing b with
  | nil => intro i s u h1; simp at h1
  | cons x l ih =>
    obtain ⟨_, h2⟩ := h
    intro i s u h1 h3
    have h3 : l[i]? = some u := by simpa using h3
    cases i with
    | zero =>
      simp at h1
      subst h1
      cases l with
      | nil => simp at h3
      | cons y l =>
        simp at h3
        subst h3
        exact h2.1.symm
    | succ i => exact ih h2 (by simpa using h1) (by simpa [List.getElem?_drop, Nat.add_comm] using h3)
/-- the steps by number and direction -/
def KwV (P : Program) (w : World) (K : PySem.W.Frag) (H : Hp) (d : Addr) (ss : List (Step Str)) : Prop := ∃ kvs, KnV P w K H d kvs ∧ All2 (fun (kv : NB × V) (s : Step Str) => kv.1 = (s.n, s.k) ∧ StV K H kv.2 s) kvs ss
theorem KwV.ex {H H' : Hp} {d : Addr} {ss : List (Step Str)} (h : KwV P w K H d ss) (e : Ex H H') : KwV P w K H' d ss := by
  obtain ⟨kvs, h1, h2⟩ := h
  exact ⟨kvs, h1.ex e, h2.mono fun a b ⟨r1, r2⟩ => ⟨r1, r2.mono (.of e)⟩⟩
theorem KwV.at {H : Hp} {d : Addr} {ss : List (Step Str)} (h : KwV P w K H d ss) {s : Step Str} (hs : s ∈ ss) : ∃ (kvs : List (NB × V)) (v : V) (j : Nat), KnV P w K H d kvs ∧ kvs[j]? = some (((s.n, s.k) : NB), v) ∧ StV K H v s ∧ ((s.n, s.k) : NB) ∈ kvs.map (·.1) := by
  obtain ⟨kvs, h1, h2⟩ := h
  obtain ⟨j, hj⟩ := List.mem_iff_getElem?.mp hs
  obtain ⟨kv, h3, h4, h5⟩ := h2.get' hj
  refine ⟨kvs, kv.2, j, h1, by rw [h3, ← h4], h5, ?_⟩
  rw [← h4]
  exact List.mem_map.mpr ⟨kv, List.mem_of_getElem? h3, rfl⟩
def sp_steps_told (P : Program) (w : World) (K : PySem.W.Frag) : Sp := sp2 fun a b H Q => ∃ (d : Addr) (ss c : List (Step Str)) (x y : Str), a = .ref d ∧ KwV P w K H d ss ∧ LsV (PrV K) H b (c.map fun s => (s.n, s.k)) ∧ (∀ s ∈ c, s ∈ ss) ∧ Chain x c y ∧ c.length ≤ 600 ∧ RetLs (StV K) c H Q
/-! steps_told: slots 0:known 1:thing 2:steps 3:one 4:other -/
abbrev N_steps_told : List Str := ["known", "thing", "steps", "one", "other"]
theorem sc_steps_told : FnScope N_steps_told ["known", "thing"] (defScope s_steps_told) := ⟨rfl, rfl, rfl, by decide +kernel, rfl, by decide +kernel, by decide +kernel⟩
theorem ok_steps_told (T : Txt K mg) : DOk P w K mg base "steps_told" ["known", "thing"] 3 (sp_steps_told P w K) := by
  have G_is_pair := ok_is_pair (P := P) (w := w) (base := base) T
  refine T.d_steps_told.ok sc_steps_told sp2_len (fun f cdv A outer s H vs Q E hr h => ?_)
  refine ⟨_, (pss_cons (ps_if (PW.pt (pw_or (pt_not (pt_val (pe_callB call_isi (by rfl) T.n_isinstance (by decide +kernel) (pa_cons (pv 1) (pa_cons (pe_bltn (v := .ty "list") (u := .type "list") (by rfl) T.n_list (by decide +kernel) rfl) pa_nil))))) (pw_or1 (pt_not (pt_val (pe_callB (cr_all rfl) (by rfl) T.n_all (by decide +kernel) (pa_cons (pe_lc (own := [("one", 3)]) (g := gName 3) (tt := tYes) (by rfl) sc_steps_told.nd (piL K (pv 1)) (blkOk_by (N := N_steps_told) (sc := defScope s_steps_told) (own := [("one", 3)]) (by decide +kernel)) (fun _ _ _ _ _ => (pg_name (i := 3) sc_steps_told.nd rfl (Or.inl rfl))) (fun _ _ _ _ _ => pts_nil) (fun _ _ _ _ _ => (pe_and (pe_callD G_is_pair (hr.mono (by decide)) (pa_cons (pv 3) pa_nil)) (pe_one (pe_cmpR (op_kin hr) (pv 3) (pv 0) rfl))))) pa_nil))))))) (pss_one (ps_ret pe_non)) pss_nil)
        (pss_cons (ps_setLc (i := 2) (own := [("one", 3)]) (g := gName 3) (tt := tYes) (by rfl) sc_steps_told.nd rfl rfl (sw_true rfl rfl rfl (by decide +kernel)) (piL K (pv 1)) (blkOk_by (N := N_steps_told) (sc := defScope s_steps_told) (own := [("one", 3)]) (by decide +kernel)) (fun _ _ _ _ _ => (pg_name (i := 3) sc_steps_told.nd rfl (Or.inl rfl))) (fun _ _ _ _ _ => pts_nil) (fun _ _ _ _ _ => (pe_kget hr (pv 0) (pv 3) (fun _ _ => rfl))))
        (pss_cons (ps_if (pt_val (pe_callB (cr_any rfl) (by rfl) T.n_any (by decide +kernel) (pa_cons (pe_lc (own := [("one", 3), ("other", 4)]) (tt := tYes) (by rfl) sc_steps_told.nd (pi_zip (by rfl) T.n_zip (pa_cons (pv 2) (pa_cons (pe_slice (slL K) (pv 2) (po_some pe_int) po_none) pa_nil))) (blkOk_by (N := N_steps_told) (sc := defScope s_steps_told) (own := [("one", 3), ("other", 4)]) (by decide +kernel)) (fun _ _ _ _ _ => (pgT K 2 rfl (pgs_cons (pg_name (i := 3) sc_steps_told.nd rfl (Or.inl rfl)) (pgs_cons (pg_name (i := 4) sc_steps_told.nd rfl (Or.inl rfl)) pgs_nil)))) (fun _ _ _ _ _ => pts_nil) (fun _ _ _ _ _ => (pe_cmpR op_ne (pe_ix (ixT K) (pv 3) (pe_gc T.c_ENDS) (fun _ _ => rfl)) (pe_ix (ixT K) (pv 4) (pe_gc T.c_BEGINS) (fun _ _ => rfl)) (nomark _)))) pa_nil))) (pss_one (ps_ret pe_non)) pss_nil)
        (pss_one (ps_ret (pv 2)))))), ?_⟩
  obtain ⟨_, _, rfl, d, ss, c, x, y, rfl, hK, ⟨a, pv, rfl, ha, hp⟩, hc, hch, hl, k⟩ := h
  have hp := hp.of_map
  refine ⟨_, rfl, _, _, _, _, true, rfl, .ty "list", .base (.lst ha), kit_ty (by decide +kernel), true, rfl, iteF ?_⟩
  refine ⟨_, rfl, a, rfl, ⟨_, SqL.of ha⟩, lc_fm (K := K) (ys := c) (R := fun _ v (b : Step Str) => v = V.bl true) (fun _ _ _ _ _ h => h) (p := fun _ => true) (f := id) ha hp.length (by omega) ?_ ?_⟩
  · intro i x y H1 hx hy e
    have hpr := (hp.two hx hy).mono (.of e)
    obtain ⟨ta, rfl, ht⟩ := id hpr
    obtain ⟨kvs, v, j, h1, h2, h3, h4⟩ := (hK.ex e).at (hc y (List.mem_of_getElem? hy))
    refine LcTurn.yes fun A hA => ⟨rfl, _, rfl, _, rfl, _, hpr, true, rfl, iteT ⟨_, rfl, _, rfl, d, ta, kvs, _, rfl, rfl, h1, ht.sq, hA _ _ (Ex.refl _) ?_⟩⟩
    rw [decide_eq_true h4]
  intro p1 H1 zs hp1 e1 hz1 az1
  rw [filt_id] at az1
  have ez := az1.eq_map (g := fun _ => V.bl true)
  subst ez
  refine ⟨p1, c.map fun _ => true, rfl, SqL.of (by rw [hz1, List.map_map]; rfl), true, by rw [show (c.map fun _ => true).all id = true by simp], iteF ?_⟩
  refine ⟨_, rfl, a, rfl, ⟨_, SqL.of (e1 _ _ ha)⟩, lc_fm (K := K) (ys := c) (R := StV K) tm_st (p := fun _ => true) (f := id) (e1 _ _ ha) hp.length (by omega) ?_ ?_⟩
  · intro i x y H2 hx hy e
    obtain ⟨ta, rfl, ht⟩ := (hp.two hx hy).mono (.of (e1.trans e))
    obtain ⟨kvs, v, j, h1, h2, h3, h4⟩ := (hK.ex (e1.trans e)).at (hc y (List.mem_of_getElem? hy))
    exact LcTurn.yes fun A hA => ⟨rfl, _, rfl, _, rfl, d, ta, kvs, _, v, j, rfl, h1, rfl, ht.sq, h2, hA _ _ (Ex.refl _) h3⟩
  intro p2 H2 zs hp2 e2 hz2 az2
  rw [filt_id] at az2
  have e12 := e1.trans e2
  refine ⟨_, rfl, _, rfl, _, rfl, p2, _, rfl, SqL.of hz2, fun p3 hp3 => ?_⟩
  have e3 : Ex H2 (upd H2 p3 (.lst (cutV zs (some (1 : Int)) none))) := Ex.new hp3
  have ec : cutV zs (some (1 : Int)) none = zs.drop 1 := cut_from zs 1
  rw [ec] at e3 ⊢
  have az3 := az2.tm tm_st (.of e3)
  have lz : zs.length = c.length := az2.length
  have lzz : (c.zip (c.drop 1)).length = min zs.length (zs.drop 1).length := by simp [lz]
  refine ⟨p2, p3, zs, zs.drop 1, rfl, SqL.of (e3 _ _ hz2), SqL.of upd_same, lc_fmW (ys := c.zip (c.drop 1)) (lzz ▸ walk_zp (K := K) (a := p2) (b := p3) (xs := zs) (ys := zs.drop 1)) (R := fun _ v (b : Step Str × Step Str) => v = V.bl false) (fun _ _ _ _ _ h => h) (p := fun _ => true) (f := id) (fun H e => ⟨SqL.of (e _ _ (e3 _ _ hz2)), SqL.of (e _ _ upd_same)⟩) (by simp; omega) ?_ ?_⟩
  · rintro i ⟨s, u⟩ x H4 H5 hi e4 ⟨Tu, v1, v2, rfl, hTu, rfl, hv1, hv2⟩
    have e5 : Ex H4 (upd H4 Tu (.tup [v1, v2])) := Ex.new hTu
    have hs : c[i]? = some s ∧ (c.drop 1)[i]? = some u := by
      rw [List.getElem?_zip_eq_some] at hi
      exact hi
    have r1 := (az3.two hv1 hs.1).mono (.of (e4.trans e5))
    have r2 := ((az3.drop 1).two hv2 hs.2).mono (.of (e4.trans e5))
    obtain ⟨ta, vr, vg, rfl, ht, _, _⟩ := r1
    obtain ⟨tb, vr2, vg2, rfl, ht2, _, _⟩ := r2
    refine ⟨e5, LcTurn.yes fun A hA => ⟨Tu, _, rfl, SqT.of upd_same, rfl, _, _, rfl, _, _, rfl, rfl, ?_⟩⟩
    refine ⟨rfl, _, rfl, ta, _, _, .str s.e, rfl, rfl, ht.sq, rfl, _, rfl, tb, _, _, .str u.b, rfl, rfl, ht2.sq, rfl, rfl, hA _ _ (Ex.refl _) ?_⟩
    rw [decide_eq_true (congrArg V.str (chain_next hch hs.1 hs.2))]
    rfl
  intro p4 H4 zs4 hp4 e4 hz4 az4
  rw [filt_id] at az4
  have ez := az4.eq_map (g := fun _ => V.bl false)
  subst ez
  refine ⟨p4, (c.zip (c.drop 1)).map fun _ => false, rfl, SqL.of (by rw [hz4, List.map_map]; rfl), false, by rw [show ((c.zip (c.drop 1)).map fun _ => false).any id = false by simp], iteF ?_⟩
  refine ⟨_, rfl, k p2 H4 zs (e1.back hp2) (e12.trans (e3.trans e4)) (e4 _ _ (e3 _ _ hz2)) (az3.tm tm_st (.of e4))⟩
def sp_is_ring (K : PySem.W.Frag) : Sp := sp1 fun a H Q => ∃ (ss : List (Step Str)) (x : Str), LsV (StV K) H a ss ∧ Chain x ss x ∧ (ss.map (·.b)).Nodup ∧ 2 ≤ ss.length ∧ 1 < gainOf ss ∧ ss.length ≤ 600 ∧ (∀ s ∈ ss, Sz 6 s.gain) ∧ ∀ H', Ex H H' → Q (.bl true) H'
/-! is_ring: slots 0:steps 1:step -/
abbrev N_is_ring : List Str := ["steps", "step"]
theorem sc_is_ring : FnScope N_is_ring ["steps"] (defScope s_is_ring) := ⟨rfl, rfl, rfl, by decide +kernel, rfl, by decide +kernel, by decide +kernel⟩
theorem ok_is_ring (T : Txt K mg) : DOk P w K mg base "is_ring" ["steps"] 5 (sp_is_ring K) := by
  have G_compared := ok_compared (P := P) (w := w) (base := base) T
  have G_gain_along := ok_gain_along (P := P) (w := w) (base := base) T
  obtain ⟨aO_ONE_fractions, hO_ONE_fractions, tO_ONE_fractions⟩ := T.o_ONE_fractions
  have g_ONE_fractions : GC mg "ONE_fractions" (.ref aO_ONE_fractions) := ⟨_, hO_ONE_fractions, rfl⟩
  refine T.d_is_ring.ok sc_is_ring sp1_len (fun f cdv A outer s H vs Q E hr h => ?_)
  refine ⟨_, (pss_cons (ps_if (PW.pt (pw_or (pt_cmpR op_lt (pe_callB (lenK K) (by rfl) T.n_len PySem.boot_len (pa_cons (pv 0) pa_nil)) pe_int (nomark _)) (pw_or1 (pt_cmpR op_ne (pe_ix (ixT K) (pe_ix (ixL K) (pv 0) (pe_un un_neg pe_int) (fun _ _ => rfl)) (pe_gc T.c_ENDS) (fun _ _ => rfl)) (pe_ix (ixT K) (pe_ix (ixL K) (pv 0) pe_int (fun _ _ => rfl)) (pe_gc T.c_BEGINS) (fun _ _ => rfl)) (nomark _))))) (pss_one (ps_ret pe_bl)) pss_nil)
        (pss_one (ps_ret (pe_and (pe_cmpR op_eq (pe_lenSetS rfl (by rfl) T.n_len (by rfl) T.n_set (pe_lc (own := [("step", 1)]) (g := gName 1) (tt := tYes) (by rfl) sc_is_ring.nd (piL K (pv 0)) (blkOk_by (N := N_is_ring) (sc := defScope s_is_ring) (own := [("step", 1)]) (by decide +kernel)) (fun _ _ _ _ _ => (pg_name (i := 1) sc_is_ring.nd rfl (Or.inl rfl))) (fun _ _ _ _ _ => pts_nil) (fun _ _ _ _ _ => (pe_ix (ixT K) (pv 1) (pe_gc T.c_BEGINS) (fun _ _ => rfl))))) (pe_callB (lenK K) (by rfl) T.n_len PySem.boot_len (pa_cons (pv 0) pa_nil)) (nomark _)) (pe_one (pe_cmpR op_gt (pe_callD G_compared (hr.mono (by decide)) (pa_cons (pe_callD G_gain_along (hr.mono (by decide)) (pa_cons (pv 0) pa_nil)) (pa_cons (pe_gc g_ONE_fractions) pa_nil))) pe_int (nomark _))))))), ?_⟩
  obtain ⟨_, rfl, ss, x, ⟨a, sv, rfl, ha, hs⟩, hch, hn, h2, hg, hl, hz, k⟩ := h
  have lsv : sv.length = ss.length := hs.length
  obtain ⟨s0, l0, rfl⟩ : ∃ s l, ss = s :: l := by
    cases ss with
    | nil => simp at h2
    | cons s l => exact ⟨s, l, rfl⟩
  obtain ⟨v0, sv0, rfl, rs0⟩ : ∃ v l, sv = v :: l ∧ StV K H v s0 := by
    cases hs with
    | cons r t => exact ⟨_, _, rfl, r⟩
  obtain ⟨sl, hsl⟩ : ∃ s, (s0 :: l0).getLast? = some s := ⟨_, by rw [List.getLast?_eq_getElem?]; exact List.getElem?_eq_getElem (by simp)⟩
  have hse : sl.e = s0.b := by
    have q := chain_last hch
    rw [hch.1]
    have : (x :: (s0 :: l0).map (·.e)).getLast? = some sl.e := by
      show (x :: s0.e :: l0.map (·.e)).getLast? = _
      rw [List.getLast?_cons_cons]
      show ((s0 :: l0).map (·.e)).getLast? = _
      rw [List.getLast?_map, hsl]
      rfl
    rw [q] at this
    exact (Option.some.inj this).symm
  refine ⟨_, rfl, a, _, rfl, .inl (SqL.of ha), _, _, rfl, rfl, _, rfl, ?_⟩
  rw [show decide (((v0 :: sv0).length : Int) < 2) = false by rw [lsv]; exact decide_eq_false (by omega)]
  refine iteF ?_
  obtain ⟨vl, hvl, rvl⟩ : ∃ v, (v0 :: sv0).getLast? = some v ∧ StV K H v sl := by
    obtain ⟨i, hi⟩ : ∃ i, (s0 :: l0)[i]? = some sl ∧ i + 1 = (s0 :: l0).length := by
      refine ⟨(s0 :: l0).length - 1, ?_, by simp⟩
      rw [← List.getLast?_eq_getElem?]
      exact hsl
    obtain ⟨v, h3, h4⟩ := hs.get' hi.1
    refine ⟨v, ?_, h4⟩
    rw [List.getLast?_eq_getElem?, lsv, ← hi.2]
    exact h3
  obtain ⟨tl, vrl, vgl, rfl, htl, _, _⟩ := rvl
  obtain ⟨t0, vr0, vg0, rfl, ht0, _, _⟩ := id rs0
  refine ⟨_, rfl, 1, rfl, a, _, _, .ref tl, rfl, rfl, SqL.of ha, atI_end hvl, tl, _, _, .str sl.e, rfl, rfl, htl.sq, rfl, ?_⟩
  refine ⟨_, rfl, a, _, _, .ref t0, rfl, rfl, SqL.of ha, atI_nat (j := 0) rfl, t0, _, _, .str s0.b, rfl, rfl, ht0.sq, rfl, rfl, _, rfl, ?_⟩
  rw [show (!decide (V.str sl.e = V.str s0.b)) = false by rw [hse]; simp]
  refine iteF ?_
  refine ⟨_, rfl, a, rfl, ⟨_, SqL.of ha⟩, lc_fm (K := K) (ys := s0 :: l0) (R := fun _ v (s : Str) => v = V.str s) (fun _ _ _ _ _ h => h) (p := fun _ => true) (f := fun s => s.b) ha hs.length (by omega) ?_ ?_⟩
  · intro i x y H2 hx hy e2
    obtain ⟨ta, vr, vg, rfl, ht, _, _⟩ := (hs.two hx hy).mono (.of e2)
    exact LcTurn.yes fun A hA => ⟨rfl, _, rfl, ta, _, _, .str y.b, rfl, rfl, ht.sq, rfl, hA _ _ (Ex.refl _) rfl⟩
  intro p2 H2 zs hp2 e2 hz2 az
  rw [filt] at az
  have ez := az.eq_map (g := V.str)
  subst ez
  refine ⟨p2, _, rfl, SqL.of hz2, hn, by simpa using (show (s0 :: l0).length ≤ 1000 by omega), _, rfl, a, _, rfl, .inl (SqL.of (e2 _ _ ha)), rfl, true, ?_, iteT ?_⟩
  · rw [lsv]
    simp
  refine ⟨_, rfl, _, rfl, s0 :: l0, ⟨a, _, rfl, e2 _ _ ha, hs.tm tm_st (.of e2)⟩, hl, hz, fun v H3 e3 h3 => ?_⟩
  refine ⟨_, _, rfl, _, _, h3, fr_one tO_ONE_fractions, _, _, rfl, rfl, ?_⟩
  show Q (.bl (decide (0 < sgn (gainOf (s0 :: l0)) 1))) H3
  rw [decide_eq_true (sgn_pos.mpr hg)]
  exact k _ (e2.trans e3)
end
end GW
set_option Elab.async false
set_option linter.all false
set_option maxRecDepth 100000
set_option maxHeartbeats 4000000
/-! WS2: shows_ring, shows_bettering -/
namespace GW
open PySem PySem.Spec PyProof.Rows L2 GM
/-! ### numbers and directions of steps are unlike -/
theorem stepsTo_keys (ts : List (Tie Str)) (f : List Rat) : ∀ n, ((stepsTo ts f n).map fun s => (s.n, s.k)).Nodup
  | 0 => List.nodup_nil
  | n + 1 => by
    show ((stepsTo ts f n ++ stepsAt ts f n).map fun s => (s.n, s.k)).Nodup
    rw [List.map_append]
    refine List.nodup_append.mpr ⟨stepsTo_keys ts f n, ?_, fun a ha b hb q => ?_⟩
    · unfold stepsAt
      split
      · unfold stepsOfTie
        split <;> split <;> simp
      · simp
    · obtain ⟨s, hs, rfl⟩ := List.mem_map.mp ha
      obtain ⟨u, hu, rfl⟩ := List.mem_map.mp hb
      have h1 := (mem_stepsTo.mp hs).1
      have h2 : u.n = n := by
        unfold stepsAt at hu
        split at hu
        · exact (mem_stepsOfTie.mp hu).1
        · exact nomatch hu
      have h3 : s.n = u.n := congrArg (·.1) q
      omega
section
variable {P : Program} {w : World} {K : PySem.W.Frag} {mg : Str → Option Value} {base : Heap}
/-- a pair of a pair and a step -/
def KsV (K : PySem.W.Frag) (H : Hp) (v : V) (s : Step Str) : Prop := ∃ p ka x, v = .ref p ∧ Tp K H p [.ref ka, x] ∧ Tp K H ka (nbV (s.n, s.k)) ∧ StV K H x s
theorem tm_ks : TM (KsV K) := fun _ _ _ _ e ⟨p, ka, x, h1, h2, h3, h4⟩ => ⟨p, ka, x, h1, h2.mono e, h3.mono e, h4.mono e⟩
theorem ks_of {H : Hp} : ∀ {zs : List V} {ss : List (Step Str)}, All2 (KsV K H) zs ss → ∃ (ps : List Addr) (kvs : List (NB × V)), zs = ps.map V.ref ∧ All2 (fun p (kv : NB × V) => ∃ ka, SqT K H p [.ref ka, kv.2] ∧ Tp K H ka (nbV kv.1)) ps kvs ∧
    All2 (fun (kv : NB × V) (s : Step Str) => kv.1 = (s.n, s.k) ∧ StV K H kv.2 s) kvs ss
  | _, _, .nil => ⟨[], [], rfl, .nil, .nil⟩
  | _, _, .cons (b := s) ⟨p, ka, x, h1, h2, h3, h4⟩ t => by
    obtain ⟨ps, kvs, e, a1, a2⟩ := ks_of t
    exact ⟨p :: ps, ((s.n, s.k), x) :: kvs, by rw [h1, e]; rfl, .cons ⟨ka, h2.sq, h3⟩ a1, .cons ⟨rfl, h4⟩ a2⟩
/-- dict of such a list -/
theorem rKB_of {H : Hp} {a : Addr} {zs : List V} {ss : List (Step Str)} {Q : VK} (ha : H a = some (.lst zs)) (h : All2 (KsV K H) zs ss) (hn : (ss.map fun s => (s.n, s.k)).Nodup) (k : ∀ d H', H d = none → Ex H H' → KwV P w K H' d ss → Q (.ref d) H') : rDictKB P w K [.ref a] H Q := by
  obtain ⟨ps, kvs, e, a1, a2⟩ := ks_of h
  subst e
  have ek : kvs.map (·.1) = ss.map fun s => (s.n, s.k) := by
    clear a1 ha h hn k
    induction a2 with
    | nil => rfl
    | cons r _ ih => rw [List.map_cons, ih, r.1]; rfl
  refine ⟨a, ps, kvs, rfl, SqL.of ha, a1, by rw [ek]; exact hn, fun d o hd hk => k d _ hd (Ex.new hd) ⟨kvs, hk, a2.mono fun kv s ⟨r1, r2⟩ => ⟨r1, r2.mono (.new hd)⟩⟩⟩
theorem inV_str (x : Str) (l : List Str) : inV (.str x) (l.map V.str) = decide (x ∈ l) := by
  unfold inV
  rw [List.any_map]
  induction l with
  | nil => rfl
  | cons y l ih =>
    rw [List.any_cons, ih]
    show ((y == x) || decide (x ∈ l)) = decide (x ∈ y :: l)
    by_cases e : y = x
    · subst e; simp
    · have : x ≠ y := fun z => e z.symm
      simp [e, this]
def sc_out_shows_ring : Scope := match (defBody s_shows_ring).getLast? with
  | some (.Return (some (.UnaryOp _ (.Call _ [.ListComp _ _ sc _] _ _) _)) _) => sc
  | _ => defScope s_shows_ring
def sc_in_shows_ring : Scope := relabel sc_out_shows_ring (envOfC "shows_ring" (defScope s_shows_ring) 0 0 .none)
def sp_shows_ring (P : Program) (w : World) (K : PySem.W.Frag) : Sp := sp4 fun a b c d H Q => ∃ (dd : Addr) (ss : List (Step Str)) (e : Str) (r cc : List (Step Str)) (z : Str), a = .ref dd ∧ KwV P w K H dd ss ∧ b = .str e ∧ LsV (PrV K) H c (r.map fun s => (s.n, s.k)) ∧ LsV (PrV K) H d (cc.map fun s => (s.n, s.k)) ∧
  RingOk ss e r cc z ∧ r.length ≤ 600 ∧ cc.length ≤ 600 ∧ (∀ s ∈ ss, Sz 6 s.gain) ∧ ∀ H', Ex H H' → Q (.bl true) H'
/-! shows_ring: slots 0:known 1:end 2:ring_told 3:course_told 4:ring 5:course 6:step 7:one -/
abbrev N_shows_ring : List Str := ["known", "end", "ring_told", "course_told", "ring", "course", "step", "one"]
theorem sc_shows_ring : FnScope N_shows_ring ["known", "end", "ring_told", "course_told"] (defScope s_shows_ring) := ⟨rfl, rfl, rfl, by decide +kernel, rfl, by decide +kernel, by decide +kernel⟩
theorem ok_shows_ring (T : Txt K mg) : DOk P w K mg base "shows_ring" ["known", "end", "ring_told", "course_told"] 6 (sp_shows_ring P w K) := by
  have G_is_course := ok_is_course (P := P) (w := w) (base := base) T
  have G_is_ring := ok_is_ring (P := P) (w := w) (base := base) T
  have G_steps_told := ok_steps_told (P := P) (w := w) (base := base) T
  refine T.d_shows_ring.ok sc_shows_ring sp4_len (fun f cdv A outer s H vs Q E hr h => ?_)
  refine ⟨_, (pss_cons (ps_asg (pe_tup (pa_cons (pe_callD G_steps_told (hr.mono (by decide)) (pa_cons (pv 0) (pa_cons (pv 2) pa_nil))) (pa_cons (pe_callD G_steps_told (hr.mono (by decide)) (pa_cons (pv 0) (pa_cons (pv 3) pa_nil))) pa_nil))) (pgT K 2 rfl (pgs_cons (pg_name (i := 4) sc_shows_ring.nd rfl (Or.inr rfl)) (pgs_cons (pg_name (i := 5) sc_shows_ring.nd rfl (Or.inl rfl)) pgs_nil))))
        (pss_cons (ps_if (PW.pt (pw_or (pt_cmpR op_isN (pv 4) pe_non (nomark _)) (pw_or (pt_cmpR op_isN (pv 5) pe_non (nomark _)) (pw_or (pt_not (pt_val (pe_callD G_is_ring (hr.mono (by decide)) (pa_cons (pv 4) pa_nil)))) (pw_or1 (pt_not (pt_val (pe_callD G_is_course (hr.mono (by decide)) (pa_cons (pv 5) (pa_cons (pe_ix (ixT K) (pe_ix (ixL K) (pv 4) pe_int (fun _ _ => rfl)) (pe_gc T.c_BEGINS) (fun _ _ => rfl)) (pa_cons (pv 1) pa_nil))))))))))) (pss_one (ps_ret pe_bl)) pss_nil)
        (pss_one (ps_ret (pe_not (pe_callB (cr_any rfl) (by rfl) T.n_any (by decide +kernel) (pa_cons (pe_lc (own := [("step", 6)]) (g := gName 6) (tt := tYes) (by rfl) sc_shows_ring.nd (piL K (pv 5)) (blkOk_by (N := N_shows_ring) (sc := defScope s_shows_ring) (own := [("step", 6)]) (by decide +kernel)) (fun _ _ _ _ _ => (pg_name (i := 6) sc_shows_ring.nd rfl (Or.inl rfl))) (fun _ _ _ _ _ => pts_nil) (fun _ _ _ _ _ => (pe_cmpR (opIn K) (pe_ix (ixT K) (pv 6) (pe_gc T.c_ENDS) (fun _ _ => rfl)) (pe_lc (own := [("one", 7)]) (g := gName 7) (tt := tYes) (by rfl) sc_shows_ring.nd (piL K (pv 4)) (blkOk_by (N := N_shows_ring) (sc := sc_in_shows_ring) (own := [("one", 7)]) (by decide +kernel)) (fun _ _ _ _ _ => (pg_name (i := 7) sc_shows_ring.nd rfl (Or.inl rfl))) (fun _ _ _ _ _ => pts_nil) (fun _ _ _ _ _ => (pe_ix (ixT K) (pv 7) (pe_gc T.c_BEGINS) (fun _ _ => rfl)))) rfl))) pa_nil))))))), ?_⟩
  obtain ⟨_, _, _, _, rfl, dd, ss, e, r, cc, z, rfl, hK, rfl, hr1, hc1, O, hr6, hc6, hz, k⟩ := h
  refine ⟨_, rfl, _, rfl, _, _, rfl, dd, ss, r, z, z, rfl, hK, hr1, O.memr, O.chr, hr6, fun p1 H1 rv hp1 e1 hp11 hrv => ?_⟩
  refine ⟨_, rfl, _, rfl, _, _, rfl, dd, ss, cc, z, e, rfl, hK.ex e1, hc1.ex tm_pr e1, O.memc, O.chc, hc6, fun p2 H2 cv hp2 e2 hp22 hcv => ?_⟩
  refine ⟨smallE (by simp), fun t ht => ⟨t, _, rfl, SqT.of upd_same, rfl, _, _, rfl, _, _, rfl, rfl, ?_⟩⟩
  have e3 : Ex H2 (upd H2 t (.tup [.ref p1, .ref p2])) := Ex.new ht
  have hrv3 := hrv.tm tm_st (.of (e2.trans e3))
  have hcv3 := hcv.tm tm_st (.of e3)
  have hp13 := e3 _ _ (e2 _ _ hp11)
  have hp23 := e3 _ _ hp22
  obtain ⟨s0, l0, rfl⟩ : ∃ s l, r = s :: l := by
    cases r with
    | nil => exact absurd O.two (by simp)
    | cons s l => exact ⟨s, l, rfl⟩
  obtain ⟨v0, rv0, rfl, rs0⟩ : ∃ v l, rv = v :: l ∧ StV K (upd H2 t (.tup [.ref p1, .ref p2])) v s0 := by
    cases hrv3 with
    | cons r t => exact ⟨_, _, rfl, r⟩
  refine ⟨_, rfl, rfl, _, rfl, iteF ?_⟩
  refine ⟨_, rfl, rfl, _, rfl, iteF ?_⟩
  refine ⟨_, rfl, _, rfl, s0 :: l0, z, ⟨p1, _, rfl, hp13, hrv3⟩, O.chr, O.ndr, O.two, O.gain, hr6, fun s hs => hz s (O.memr s hs), fun H4 e4 => ?_⟩
  refine ⟨true, rfl, iteF ?_⟩
  obtain ⟨t0, vr0, vg0, rfl, ht0, _, _⟩ := rs0.mono (.of e4)
  refine ⟨_, rfl, _, rfl, p1, _, _, .ref t0, rfl, rfl, SqL.of (e4 _ _ hp13), atI_nat (j := 0) rfl, t0, _, _, .str s0.b, rfl, rfl, ht0.sq, rfl, _, rfl, _, _, _, rfl, cc, s0.b, e, ⟨p2, cv, rfl, e4 _ _ hp23, hcv3.tm tm_st (.of e4)⟩, rfl, rfl, ?_, ?_, by omega, fun H5 e5 => ?_⟩
  · rw [O.chr.1]; exact O.chc
  · rw [O.chr.1]; exact O.ndc
  refine ⟨true, rfl, iteF ?_⟩
  have e45 := e4.trans e5
  refine ⟨_, rfl, p2, rfl, ⟨_, SqL.of (e45 _ _ hp23)⟩, lc_fm (K := K) (ys := cc) (R := fun _ v (b : Step Str) => v = V.bl false) (fun _ _ _ _ _ h => h) (p := fun _ => true) (f := id) (e45 _ _ hp23) hcv.length (by omega) ?_ ?_⟩
  · intro i x y H6 hx hy e6
    have e46 := e45.trans e6
    obtain ⟨ta, vr, vg, rfl, ht', _, _⟩ := (hcv3.two hx hy).mono (.of e46)
    refine LcTurn.yes fun A hA => ⟨rfl, _, rfl, ta, _, _, .str y.e, rfl, rfl, ht'.sq, rfl, ?_⟩
    refine ⟨_, rfl, p1, rfl, ⟨_, SqL.of (e46 _ _ hp13)⟩, lc_fm (K := K) (ys := s0 :: l0) (R := fun _ v (s : Str) => v = V.str s) (fun _ _ _ _ _ h => h) (p := fun _ => true) (f := fun s => s.b) (e46 _ _ hp13) hrv3.length (by omega) ?_ ?_⟩
    · intro i x y H7 hx hy e7
      obtain ⟨ta, vr, vg, rfl, ht', _, _⟩ := (hrv3.two hx hy).mono (.of (e46.trans e7))
      exact LcTurn.yes fun A hA => ⟨rfl, _, rfl, ta, _, _, .str y.b, rfl, rfl, ht'.sq, rfl, hA _ _ (Ex.refl _) rfl⟩
    intro p5 H7 zs hp5 e7 hz7 az
    rw [filt] at az
    have ez := az.eq_map (g := V.str)
    subst ez
    refine ⟨p5, _, rfl, .inl (SqL.of hz7), rfl, by simp [List.all_map, flatV], hA _ _ e7 ?_⟩
    rw [inV_str, decide_eq_false (O.off y (List.mem_of_getElem? hy))]
    rfl
  intro p6 H6 zs hp6 e6 hz6 az6
  rw [filt_id] at az6
  have ez := az6.eq_map (g := fun _ => V.bl false)
  subst ez
  refine ⟨p6, cc.map fun _ => false, rfl, SqL.of (by rw [hz6, List.map_map]; rfl), false, by rw [show (cc.map fun _ => false).any id = false by simp], ?_⟩
  exact k _ (e1.trans (e2.trans (e3.trans (e45.trans e6))))
def sp_shows_bettering (K : PySem.W.Frag) : Sp := sp5 fun a b c d t H Q => ∃ ps ts x y f B z, Given K H a b c d ps ts x y f B ∧ BetV K H t z ∧ BetOk (stepsOf ts f) x y z ∧ ∀ H', Ex H H' → Q (.bl true) H'
theorem list_len_le {ps : List Str} {ts : List (Tie Str)} {f : List Rat} {x y : Str} {z : Bet Str} (N : NetOk ps ts) (h : BetOk (stepsOf ts f) x y z) : z.steps.length ≤ 10 := Nat.le_trans (bet_len N h) N.p10
/-! shows_bettering: slots 0:net 1:begin 2:end 3:stream 4:thing 5:known 6:course 7:step -/
abbrev N_shows_bettering : List Str := ["net", "begin", "end", "stream", "thing", "known", "course", "step"]
theorem sc_shows_bettering : FnScope N_shows_bettering ["net", "begin", "end", "stream", "thing"] (defScope s_shows_bettering) := ⟨rfl, rfl, rfl, by decide +kernel, rfl, by decide +kernel, by decide +kernel⟩
theorem ok_shows_bettering (T : Txt K mg) : DOk P w K mg base "shows_bettering" ["net", "begin", "end", "stream", "thing"] 7 (sp_shows_bettering K) := by
  have G_is_course := ok_is_course (P := P) (w := w) (base := base) T
  have G_steps_told := ok_steps_told (P := P) (w := w) (base := base) T
  have G_shows_ring := ok_shows_ring (P := P) (w := w) (base := base) T
  have G_left_steps := ok_left_steps (P := P) (w := w) (base := base) T
  refine T.d_shows_bettering.ok sc_shows_bettering sp5_len (fun f cdv A outer s H vs Q E hr h => ?_)
  refine ⟨_, (pss_cons (ps_if (PW.pt (pw_or (pt_not (pt_val (pe_callB call_isi (by rfl) T.n_isinstance (by decide +kernel) (pa_cons (pv 4) (pa_cons (pe_bltn (v := .ty "tuple") (u := .type "tuple") (by rfl) T.n_tuple (by decide +kernel) rfl) pa_nil))))) (pw_or (pt_cmpR (opNotIn K) (pe_callB (lenK K) (by rfl) T.n_len PySem.boot_len (pa_cons (pv 4) pa_nil)) (pe_tup (pa_cons pe_int (pa_cons pe_int pa_nil))) rfl) (pw_or1 (pt_not (pt_val (pe_callB call_isi (by rfl) T.n_isinstance (by decide +kernel) (pa_cons (pe_ix (ixT K) (pv 4) pe_int (fun _ _ => rfl)) (pa_cons (pe_bltn (v := .ty "str") (u := .type "str") (by rfl) T.n_str (by decide +kernel) rfl) pa_nil))))))))) (pss_one (ps_ret pe_bl)) pss_nil)
        (pss_cons (ps_set (i := 5) sc_shows_bettering.nd rfl (Or.inl rfl) (pe_callTy (call_dictKB hr rfl) (by rfl) T.n_dict (by decide +kernel) (pa_cons (pe_lc (own := [("step", 7)]) (g := gName 7) (tt := tYes) (by rfl) sc_shows_bettering.nd (piL K (pe_callD G_left_steps (hr.mono (by decide)) (pa_cons (pv 0) (pa_cons (pv 3) pa_nil)))) (blkOk_by (N := N_shows_bettering) (sc := defScope s_shows_bettering) (own := [("step", 7)]) (by decide +kernel)) (fun _ _ _ _ _ => (pg_name (i := 7) sc_shows_bettering.nd rfl (Or.inl rfl))) (fun _ _ _ _ _ => pts_nil) (fun _ _ _ _ _ => (pe_tup (pa_cons (pe_slice (slT K) (pv 7) po_none (po_some pe_int)) (pa_cons (pv 7) pa_nil))))) pa_nil)))
        (pss_cons (ps_if (pt_cmpR op_eq (pe_callB (lenK K) (by rfl) T.n_len PySem.boot_len (pa_cons (pv 4) pa_nil)) pe_int (nomark _)) (pss_one (ps_ret (pe_and (pe_cmpR op_eq (pe_ix (ixT K) (pv 4) pe_int (fun _ _ => rfl)) (pe_gc T.c_RING) (nomark _)) (pe_one (pe_callD G_shows_ring (hr.mono (by decide)) (pa_cons (pv 5) (pa_cons (pv 2) (pa_cons (pe_ix (ixT K) (pv 4) pe_int (fun _ _ => rfl)) (pa_cons (pe_ix (ixT K) (pv 4) pe_int (fun _ _ => rfl)) pa_nil))))))))) pss_nil)
        (pss_cons (ps_if (pt_cmpR op_ne (pe_ix (ixT K) (pv 4) pe_int (fun _ _ => rfl)) (pe_gc T.c_WAY) (nomark _)) (pss_one (ps_ret pe_bl)) pss_nil)
        (pss_cons (ps_set (i := 6) sc_shows_bettering.nd rfl (Or.inl rfl) (pe_callD G_steps_told (hr.mono (by decide)) (pa_cons (pv 5) (pa_cons (pe_ix (ixT K) (pv 4) pe_int (fun _ _ => rfl)) pa_nil))))
        (pss_one (ps_ret (pe_and (pe_cmpR op_notN (pv 6) pe_non (nomark _)) (pe_one (pe_callD G_is_course (hr.mono (by decide)) (pa_cons (pv 6) (pa_cons (pv 1) (pa_cons (pv 2) pa_nil))))))))))))), ?_⟩
  obtain ⟨_, _, _, _, t, rfl, ps, ts, x, y, f, B, z, G, hb, ho, k⟩ := h
  obtain ⟨hnet, rfl, rfl, hst, N, hx, hy, hxy, S, hB⟩ := id G
  have h10 := list_len_le N ho
  have O6 : ∀ s ∈ stepsOf ts f, Sz 6 s.gain := (laneOk N).sz
  have h48 := steps48 (f := f) N
  cases z with
  | way c =>
    obtain ⟨a, p, vs, rfl, ht, hp, hvs⟩ := id hb
    have ho : WayOk _ _ _ c := ho
    have h10 : c.length ≤ 10 := h10
    refine ⟨_, rfl, _, _, _, _, true, rfl, .ty "tuple", .base (.tup ht), kit_ty (by decide +kernel), true, rfl, iteF ?_⟩
    refine ⟨_, rfl, a, _, rfl, .inr (SqT.of ht), smallE (by simp), fun q hq => ?_⟩
    have e1 : Ex H (upd H q (.tup [.int 2, .int 3])) := Ex.new hq
    refine ⟨q, _, rfl, .inr (SqT.of upd_same), rfl, rfl, false, rfl, iteF ?_⟩
    refine ⟨_, rfl, a, _, _, .str "way", rfl, rfl, SqT.of (e1 _ _ ht), rfl, _, _, _, _, true, rfl, .ty "str", .base (.str _), kit_ty (by decide +kernel), true, rfl, iteF ?_⟩
    refine ⟨_, rfl, _, rfl, _, _, rfl, ps, ts, f, hnet.mono (.of e1), hst.ex tm_fr e1, steps_sz N S (by omega), fun sa H2 sv hsa e2 hsa2 hsv => ?_⟩
    refine ⟨sa, rfl, ⟨_, SqL.of hsa2⟩, lc_fm (K := K) (ys := stepsOf ts f) (R := KsV K) tm_ks (p := fun _ => true) (f := id) hsa2 hsv.length (by omega) ?_ ?_⟩
    · intro i x y H3 hx hy e3
      have hS := (hsv.two hx hy).mono (.of e3)
      obtain ⟨ta, vr, vg, rfl, hta, _, _⟩ := id hS
      refine LcTurn.yes fun A hA => ⟨rfl, _, rfl, _, rfl, ta, _, rfl, hta.sq, (by show ¬ (HT.sIx 6 0 none = 0 ∧ HT.sIx 6 6 (some 2) = 6); decide), fun p hp => ?_⟩
      have en : Ex H3 (upd H3 p (.tup (cutV [V.int (y.n : Nat), .bl y.k, .str y.b, .str y.e, vr, vg] none (some 2)))) := Ex.new hp
      refine ⟨_, rfl, smallE (by simp), fun q hq => ?_⟩
      have en2 := en.trans (Ex.new (o := .tup [.ref p, .ref ta]) hq)
      refine hA _ _ en2 ⟨q, p, .ref ta, rfl, .of upd_same, .of ?_, hS.mono (.of en2)⟩
      rw [upd_ne (ne_of_none upd_same hq), upd_same]
      rfl
    intro p1 H3 zs hp1 e3 hz3 az
    rw [filt_id] at az
    dsimp only [tNil]
    refine rKB_of hz3 az (stepsTo_keys ts f _) fun d H4 hd e4 hK => ?_
    have e14 := e1.trans (e2.trans (e3.trans e4))
    refine ⟨_, rfl, a, _, rfl, .inr (SqT.of (e14 _ _ ht)), rfl, false, rfl, iteF ?_⟩
    refine ⟨_, rfl, a, _, _, .str "way", rfl, rfl, SqT.of (e14 _ _ ht), rfl, rfl, false, by simp, iteF ?_⟩
    refine ⟨_, rfl, _, rfl, a, _, _, .ref p, rfl, rfl, SqT.of (e14 _ _ ht), rfl, _, _, rfl, d, stepsOf ts f, c, x, y, rfl, hK, ⟨p, vs, rfl, e14 _ _ hp, hvs.tm tm_pr (.of e14)⟩, ho.mem, ho.ch, by omega, fun p5 H5 cv hp5 e5 hp55 hcv => ?_⟩
    refine ⟨_, rfl, rfl, true, rfl, iteT ?_⟩
    exact ⟨_, rfl, _, rfl, _, rfl, _, _, _, rfl, c, x, y, ⟨p5, cv, rfl, hp55, hcv⟩, rfl, rfl, ho.ch, ho.nd, by omega, fun H6 e6 => k _ (e14.trans (e5.trans e6))⟩
  | ring r c =>
    obtain ⟨a, p, p', vs, ws, rfl, ht, hp, hvs, hp', hws⟩ := id hb
    obtain ⟨z0, ho⟩ : ∃ z0, RingOk _ _ r c z0 := ho
    have h10 : (r ++ c).length ≤ 10 := h10
    rw [List.length_append] at h10
    refine ⟨_, rfl, _, _, _, _, true, rfl, .ty "tuple", .base (.tup ht), kit_ty (by decide +kernel), true, rfl, iteF ?_⟩
    refine ⟨_, rfl, a, _, rfl, .inr (SqT.of ht), smallE (by simp), fun q hq => ?_⟩
    have e1 : Ex H (upd H q (.tup [.int 2, .int 3])) := Ex.new hq
    refine ⟨q, _, rfl, .inr (SqT.of upd_same), rfl, rfl, false, rfl, iteF ?_⟩
    refine ⟨_, rfl, a, _, _, .str "ring", rfl, rfl, SqT.of (e1 _ _ ht), rfl, _, _, _, _, true, rfl, .ty "str", .base (.str _), kit_ty (by decide +kernel), true, rfl, iteF ?_⟩
    refine ⟨_, rfl, _, rfl, _, _, rfl, ps, ts, f, hnet.mono (.of e1), hst.ex tm_fr e1, steps_sz N S (by omega), fun sa H2 sv hsa e2 hsa2 hsv => ?_⟩
    refine ⟨sa, rfl, ⟨_, SqL.of hsa2⟩, lc_fm (K := K) (ys := stepsOf ts f) (R := KsV K) tm_ks (p := fun _ => true) (f := id) hsa2 hsv.length (by omega) ?_ ?_⟩
    · intro i x y H3 hx hy e3
      have hS := (hsv.two hx hy).mono (.of e3)
      obtain ⟨ta, vr, vg, rfl, hta, _, _⟩ := id hS
      refine LcTurn.yes fun A hA => ⟨rfl, _, rfl, _, rfl, ta, _, rfl, hta.sq, (by show ¬ (HT.sIx 6 0 none = 0 ∧ HT.sIx 6 6 (some 2) = 6); decide), fun p hp => ?_⟩
      have en : Ex H3 (upd H3 p (.tup (cutV [V.int (y.n : Nat), .bl y.k, .str y.b, .str y.e, vr, vg] none (some 2)))) := Ex.new hp
      refine ⟨_, rfl, smallE (by simp), fun q hq => ?_⟩
      have en2 := en.trans (Ex.new (o := .tup [.ref p, .ref ta]) hq)
      refine hA _ _ en2 ⟨q, p, .ref ta, rfl, .of upd_same, .of ?_, hS.mono (.of en2)⟩
      rw [upd_ne (ne_of_none upd_same hq), upd_same]
      rfl
    intro p1 H3 zs hp1 e3 hz3 az
    rw [filt_id] at az
    dsimp only [tNil]
    refine rKB_of hz3 az (stepsTo_keys ts f _) fun d H4 hd e4 hK => ?_
    have e14 := e1.trans (e2.trans (e3.trans e4))
    refine ⟨_, rfl, a, _, rfl, .inr (SqT.of (e14 _ _ ht)), rfl, true, rfl, iteT ?_⟩
    refine ⟨_, rfl, a, _, _, .str "ring", rfl, rfl, SqT.of (e14 _ _ ht), rfl, rfl, true, by simp, iteT ?_⟩
    exact ⟨_, rfl, _, rfl, _, rfl, a, _, _, .ref p, rfl, rfl, SqT.of (e14 _ _ ht), rfl, _, rfl, a, _, _, .ref p', rfl, rfl, SqT.of (e14 _ _ ht), rfl, _, _, _, _, rfl, d, stepsOf ts f, y, r, c, z0, rfl, hK, rfl, ⟨p, vs, rfl, e14 _ _ hp, hvs.tm tm_pr (.of e14)⟩, ⟨p', ws, rfl, e14 _ _ hp', hws.tm tm_pr (.of e14)⟩, ho, by omega, by omega, O6, fun H6 e6 => k _ (e14.trans e6)⟩
end
end GW
set_option Elab.async false
set_option linter.all false
set_option maxRecDepth 100000
set_option maxHeartbeats 4000000
/-! WS3: parts_along, parts_of, bettered -/
namespace GW
open PySem PySem.Spec PyProof.Rows L2 GM
section
variable {P : Program} {w : World} {K : PySem.W.Frag} {mg : Str → Option Value} {base : Heap}
theorem partsAlong_take {l : List (Step Str)} {p : Rat} {i : Nat} {s : Step Str} (h : l[i]? = some s) : partsAlong (l.take (i + 1)) p = partsAlong (l.take i) p ++ [(s, p * gainOf (l.take i))] := by
  rw [take_snoc h, partsAlong_append]
  rfl
theorem partsAlong_mem {l : List (Step Str)} {p : Rat} {i : Nat} {s : Step Str} (h : l[i]? = some s) : (s, p * gainOf (l.take i)) ∈ partsAlong l p := by
  have e : l = l.take (i + 1) ++ l.drop (i + 1) := (List.take_append_drop _ _).symm
  rw [e, partsAlong_append]
  refine List.mem_append_left _ ?_
  rw [← e, partsAlong_take h]
  simp
def sp_parts_along (K : PySem.W.Frag) : Sp := sp2 fun a b H Q => ∃ (ss : List (Step Str)) (p : Rat), LsV (StV K) H a ss ∧ FrV K H b p ∧ ss.length ≤ 600 ∧ (∀ q ∈ partsAlong ss p, Sz 4000 (q.2 * q.1.gain)) ∧ RetLs (PtV K) (partsAlong ss p) H Q
/-! parts_along: slots 0:steps 1:part 2:found 3:step -/
abbrev N_parts_along : List Str := ["steps", "part", "found", "step"]
theorem sc_parts_along : FnScope N_parts_along ["steps", "part"] (defScope s_parts_along) := ⟨rfl, rfl, rfl, by decide +kernel, rfl, by decide +kernel, by decide +kernel⟩
theorem ok_parts_along (T : Txt K mg) : DOk P w K mg base "parts_along" ["steps", "part"] 4 (sp_parts_along K) := by
  have G_times := ok_times (P := P) (w := w) (base := base) T
  refine T.d_parts_along.ok sc_parts_along sp2_len (fun f cdv A outer s H vs Q E hr h => ?_)
  refine ⟨_, (pss_cons (ps_set (i := 2) sc_parts_along.nd rfl (Or.inl rfl) (pe_lst pa_nil))
        (pss_cons (ps_for PassesOwn.never rfl (piL K (pv 0)) (pg_name (i := 3) sc_parts_along.nd rfl (Or.inl rfl)) (pss_cons (ps_expr (pe_bm PySem.F.plainAttrs_list PySem.F.slot_list_append PySem.F.type_list_append mt_append (pv 2) (pa_cons (pe_tup (pa_cons (pv 3) (pa_cons (pv 1) pa_nil))) pa_nil)))
        (pss_one (ps_set (i := 1) sc_parts_along.nd rfl (Or.inl rfl) (pe_callD G_times (hr.mono (by decide)) (pa_cons (pv 1) (pa_cons (pe_ix (ixT K) (pv 3) (pe_gc T.c_GAINS) (fun _ _ => rfl)) pa_nil)))))))
        (pss_one (ps_ret (pv 2))))), ?_⟩
  obtain ⟨_, b, rfl, ss, p, ⟨a, sv, rfl, ha, hs⟩, hb, hl, hz, k⟩ := h
  refine ⟨smallE (by simp), fun fd hfd => ?_⟩
  have e0 : Ex H (upd H fd (.lst [])) := Ex.new hfd
  refine ⟨_, rfl, a, rfl, ⟨_, SqL.of (e0 _ _ ha)⟩, for_list (K := K) (a := a) (xs := sv) (fun i σ H' => ∃ v acc x, σ = [some (.ref a), some v, some (.ref fd), x] ∧ Ex H H' ∧ FrV K H' v (p * gainOf (ss.take i)) ∧ H' fd = some (.lst acc) ∧ All2 (PtV K H') acc (partsAlong (ss.take i) p))
    ⟨b, [], none, rfl, e0, ?_, upd_same, .nil⟩ (fun i σ H' _ ⟨_, _, _, _, e, _⟩ => SqL.of (e _ _ ha)) ?_ ?_⟩
  · show FrV K _ b (p * 1)
    rw [Rat.mul_one]
    exact hb.ex e0
  · rintro i y σ H' hy ⟨v, acc, x, rfl, e, hv, hfd', hacc⟩
    obtain ⟨s, hsi, rs⟩ := hs.get hy
    have hS := rs.mono (.of e)
    refine ⟨_, rfl, .inl ⟨rfl, _, SqL.of hfd'⟩, _, rfl, _, rfl, smallE (by simp), fun t ht => ?_⟩
    have e1 : Ex H' (upd H' t (.tup [y, v])) := Ex.new ht
    have hfd1 := e1 _ _ hfd'
    refine ⟨fd, acc, _, rfl, rfl, hfd1, small ?_, ?_⟩
    · rw [hacc.length, partsAlong_len, List.length_take]; omega
    have e2 : Ex H (upd (upd H' t (.tup [y, v])) fd (.lst (acc ++ [.ref t]))) := (e.trans e1).upd_new hfd
    have tx : TX H' (upd (upd H' t (.tup [y, v])) fd (.lst (acc ++ [.ref t]))) := (TX.of e1).trans (.wl hfd1)
    obtain ⟨ta, vr, vg, rfl, hta, hr1, hg1⟩ := hS.mono tx
    refine ⟨_, rfl, _, rfl, ta, _, _, vg, rfl, rfl, hta.sq, rfl, _, _, rfl, _, _, hv.mono tx, hg1, trivial, hz _ (partsAlong_mem hsi), fun v' H3 e3 h3 => ?_⟩
    have htu : upd (upd H' t (.tup [.ref ta, v])) fd (.lst (acc ++ [.ref t])) t = some (.tup [.ref ta, v]) := by rw [upd_ne (ne_of upd_same hfd1 (by intro z; cases z)), upd_same]
    refine ⟨v', acc ++ [.ref t], _, rfl, e2.trans e3, ?_, e3 _ _ upd_same, ?_⟩
    · rw [gainOf_take hsi, ← Rat.mul_assoc]
      exact h3
    · rw [partsAlong_take hsi]
      exact ((hacc.tm tm_pt tx).tm tm_pt (.of e3)).snoc ⟨t, _, _, rfl, .of (e3 _ _ htu), (hS.mono tx).mono (.of e3), (hv.mono tx).ex e3⟩
  · rintro σ H' ⟨v, acc, x, rfl, e, hv, hfd', hacc⟩
    rw [hs.length, List.take_length] at hacc
    exact ⟨_, rfl, k fd H' acc hfd e hfd' hacc⟩
def sp_parts_of (P : Program) (w : World) (K : PySem.W.Frag) : Sp := sp2 fun a b H Q => ∃ (d : Addr) (ss : List (Step Str)) (x y : Str) (z : Bet Str), a = .ref d ∧ KwV P w K H d ss ∧ BetV K H b z ∧ BetOk ss x y z ∧ (∀ s ∈ ss, Sz 6 s.gain) ∧ z.steps.length ≤ 10 ∧ RetLs (PtV K) (partsOf z) H Q
/-! parts_of: slots 0:known 1:thing 2:ring 3:more 4:one -/
abbrev N_parts_of : List Str := ["known", "thing", "ring", "more", "one"]
theorem sc_parts_of : FnScope N_parts_of ["known", "thing"] (defScope s_parts_of) := ⟨rfl, rfl, rfl, by decide +kernel, rfl, by decide +kernel, by decide +kernel⟩
theorem ok_parts_of (T : Txt K mg) : DOk P w K mg base "parts_of" ["known", "thing"] 5 (sp_parts_of P w K) := by
  have G_parts_along := ok_parts_along (P := P) (w := w) (base := base) T
  have G_taken := ok_taken (P := P) (w := w) (base := base) T
  have G_gain_along := ok_gain_along (P := P) (w := w) (base := base) T
  obtain ⟨aO_ONE_fractions, hO_ONE_fractions, tO_ONE_fractions⟩ := T.o_ONE_fractions
  have g_ONE_fractions : GC mg "ONE_fractions" (.ref aO_ONE_fractions) := ⟨_, hO_ONE_fractions, rfl⟩
  refine T.d_parts_of.ok sc_parts_of sp2_len (fun f cdv A outer s H vs Q E hr h => ?_)
  refine ⟨_, (pss_cons (ps_if (pt_cmpR op_eq (pe_ix (ixT K) (pv 1) pe_int (fun _ _ => rfl)) (pe_gc T.c_WAY) (nomark _)) (pss_one (ps_ret (pe_callD G_parts_along (hr.mono (by decide)) (pa_cons (pe_lc (own := [("one", 4)]) (g := gName 4) (tt := tYes) (by rfl) sc_parts_of.nd (piL K (pe_ix (ixT K) (pv 1) pe_int (fun _ _ => rfl))) (blkOk_by (N := N_parts_of) (sc := defScope s_parts_of) (own := [("one", 4)]) (by decide +kernel)) (fun _ _ _ _ _ => (pg_name (i := 4) sc_parts_of.nd rfl (Or.inl rfl))) (fun _ _ _ _ _ => pts_nil) (fun _ _ _ _ _ => (pe_kget hr (pv 0) (pv 4) (fun _ _ => rfl)))) (pa_cons (pe_gc g_ONE_fractions) pa_nil))))) pss_nil)
        (pss_cons (ps_setLc (i := 2) (own := [("one", 4)]) (g := gName 4) (tt := tYes) (by rfl) sc_parts_of.nd rfl rfl (sw_true rfl rfl rfl (by decide +kernel)) (piL K (pe_ix (ixT K) (pv 1) pe_int (fun _ _ => rfl))) (blkOk_by (N := N_parts_of) (sc := defScope s_parts_of) (own := [("one", 4)]) (by decide +kernel)) (fun _ _ _ _ _ => (pg_name (i := 4) sc_parts_of.nd rfl (Or.inl rfl))) (fun _ _ _ _ _ => pts_nil) (fun _ _ _ _ _ => (pe_kget hr (pv 0) (pv 4) (fun _ _ => rfl))))
        (pss_cons (ps_set (i := 3) sc_parts_of.nd rfl (Or.inl rfl) (pe_callD G_taken (hr.mono (by decide)) (pa_cons (pe_callD G_gain_along (hr.mono (by decide)) (pa_cons (pv 2) pa_nil)) (pa_cons (pe_gc g_ONE_fractions) pa_nil))))
        (pss_one (ps_ret (pe_op op_cat (pe_callD G_parts_along (hr.mono (by decide)) (pa_cons (pv 2) (pa_cons (pe_gc g_ONE_fractions) pa_nil))) (pe_callD G_parts_along (hr.mono (by decide)) (pa_cons (pe_lc (own := [("one", 4)]) (g := gName 4) (tt := tYes) (by rfl) sc_parts_of.nd (piL K (pe_ix (ixT K) (pv 1) pe_int (fun _ _ => rfl))) (blkOk_by (N := N_parts_of) (sc := defScope s_parts_of) (own := [("one", 4)]) (by decide +kernel)) (fun _ _ _ _ _ => (pg_name (i := 4) sc_parts_of.nd rfl (Or.inl rfl))) (fun _ _ _ _ _ => pts_nil) (fun _ _ _ _ _ => (pe_kget hr (pv 0) (pv 4) (fun _ _ => rfl)))) (pa_cons (pv 3) pa_nil))))))))), ?_⟩
  obtain ⟨_, b, rfl, d, ss, x, y, z, rfl, hK, hb, ho, hz, h10, k⟩ := h
  cases z with
  | way c =>
    obtain ⟨a, p, vs, rfl, ht, hp, hvs⟩ := id hb
    have ho : WayOk _ _ _ c := ho
    have h10 : c.length ≤ 10 := h10
    have hvs := hvs.of_map
    refine ⟨_, rfl, a, _, _, .str "way", rfl, rfl, SqT.of ht, rfl, rfl, true, by simp, iteT ?_⟩
    refine ⟨_, rfl, a, _, _, .ref p, rfl, rfl, SqT.of ht, rfl, p, rfl, ⟨_, SqL.of hp⟩, lc_fm (K := K) (ys := c) (R := StV K) tm_st (p := fun _ => true) (f := id) hp hvs.length (by omega) ?_ ?_⟩
    · intro i x y H2 hx hy e
      obtain ⟨ta, rfl, ht⟩ := (hvs.two hx hy).mono (.of e)
      obtain ⟨kvs, v, j, h1, h2, h3, h4⟩ := (hK.ex e).at (ho.mem y (List.mem_of_getElem? hy))
      exact LcTurn.yes fun A hA => ⟨rfl, _, rfl, _, rfl, d, ta, kvs, _, v, j, rfl, h1, rfl, ht.sq, h2, hA _ _ (Ex.refl _) h3⟩
    intro p2 H2 zs hp2 e2 hz2 az2
    rw [filt_id] at az2
    refine ⟨_, _, rfl, c, 1, ⟨p2, zs, rfl, hz2, az2⟩, fr_one tO_ONE_fractions, by omega, fun q hq => ?_, fun p3 H3 vs3 hp3 e3 hp33 h3 => k p3 H3 vs3 (e2.back hp3) (e2.trans e3) hp33 h3⟩
    have h1 := parts_sz (fun s hs => hz s (ho.mem s hs)) Sz.one q hq
    have h2 := hz q.1 (ho.mem _ (mem_parts_step hq))
    exact (h1.mul h2).mono (by omega)
  | ring r c =>
    obtain ⟨a, p, p', vs, ws, rfl, ht, hp, hvs, hp', hws⟩ := id hb
    obtain ⟨z0, ho⟩ : ∃ z0, RingOk _ _ r c z0 := ho
    have h10 : (r ++ c).length ≤ 10 := h10
    rw [List.length_append] at h10
    have hvs := hvs.of_map
    have hws := hws.of_map
    have gr : Sz (6 * r.length + 1) (gainOf r) := gainOf_sz fun s hs => hz s (ho.memr s hs)
    refine ⟨_, rfl, a, _, _, .str "ring", rfl, rfl, SqT.of ht, rfl, rfl, false, by decide +kernel, iteF ?_⟩
    refine ⟨_, rfl, a, _, _, .ref p, rfl, rfl, SqT.of ht, rfl, p, rfl, ⟨_, SqL.of hp⟩, lc_fm (K := K) (ys := r) (R := StV K) tm_st (p := fun _ => true) (f := id) hp hvs.length (by omega) ?_ ?_⟩
    · intro i x y H2 hx hy e
      obtain ⟨ta, rfl, ht⟩ := (hvs.two hx hy).mono (.of e)
      obtain ⟨kvs, v, j, h1, h2, h3, h4⟩ := (hK.ex e).at (ho.memr y (List.mem_of_getElem? hy))
      exact LcTurn.yes fun A hA => ⟨rfl, _, rfl, _, rfl, d, ta, kvs, _, v, j, rfl, h1, rfl, ht.sq, h2, hA _ _ (Ex.refl _) h3⟩
    intro p2 H2 zs hp2 e2 hz2 az2
    rw [filt_id] at az2
    refine ⟨_, rfl, _, rfl, r, ⟨p2, zs, rfl, hz2, az2⟩, by omega, fun s hs => hz s (ho.memr s hs), fun vm H3 e3 h3 => ?_⟩
    refine ⟨_, _, rfl, _, _, h3, fr_one tO_ONE_fractions, trivial, (gr.sub Sz.one).mono (by omega), fun vm2 H4 e4 h4 => ?_⟩
    have e34 := e3.trans e4
    refine ⟨_, rfl, _, _, rfl, r, 1, ⟨p2, zs, rfl, e34 _ _ hz2, az2.tm tm_st (.of e34)⟩, fr_one tO_ONE_fractions, by omega, fun q hq => ?_, fun p5 H5 vs5 hp5 e5 hp55 h5 => ?_⟩
    · have h1 := parts_sz (fun s hs => hz s (ho.memr s hs)) Sz.one q hq
      have h2 := hz q.1 (ho.memr _ (mem_parts_step hq))
      exact (h1.mul h2).mono (by omega)
    have e25 := e2.trans (e34.trans e5)
    refine ⟨_, rfl, a, _, _, .ref p', rfl, rfl, SqT.of (e25 _ _ ht), rfl, p', rfl, ⟨_, SqL.of (e25 _ _ hp')⟩, lc_fm (K := K) (ys := c) (R := StV K) tm_st (p := fun _ => true) (f := id) (e25 _ _ hp') hws.length (by omega) ?_ ?_⟩
    · intro i x y H2 hx hy e
      obtain ⟨ta, rfl, ht⟩ := (hws.two hx hy).mono (.of (e25.trans e))
      obtain ⟨kvs, v, j, h1, h2, h3, h4⟩ := (hK.ex (e25.trans e)).at (ho.memc y (List.mem_of_getElem? hy))
      exact LcTurn.yes fun A hA => ⟨rfl, _, rfl, _, rfl, d, ta, kvs, _, v, j, rfl, h1, rfl, ht.sq, h2, hA _ _ (Ex.refl _) h3⟩
    intro p6 H6 zs6 hp6 e6 hz6 az6
    rw [filt_id] at az6
    refine ⟨_, rfl, _, _, rfl, c, gainOf r - 1, ⟨p6, zs6, rfl, hz6, az6⟩, h4.ex (e5.trans e6), by omega, fun q hq => ?_, fun p7 H7 vs7 hp7 e7 hp77 h7 => ?_⟩
    · have h1 := parts_sz (fun s hs => hz s (ho.memc s hs)) (gr.sub Sz.one) q hq
      have h2 := hz q.1 (ho.memc _ (mem_parts_step hq))
      exact (h1.mul h2).mono (by omega)
    have e57 := e6.trans e7
    refine ⟨p5, p7, _, _, rfl, rfl, e57 _ _ hp55, hp77, smallE ?_, fun p8 hp8 => ?_⟩
    · rw [h5.length, h7.length, partsAlong_len, partsAlong_len]; omega
    have en : Ex H7 (upd H7 p8 (.lst (vs5 ++ vs7))) := Ex.new hp8
    refine k p8 _ _ (e25.back (e57.back hp8)) (e25.trans (e57.trans en)) upd_same ?_
    exact ((h5.tm tm_pt (.of e57)).append h7).tm tm_pt (.of en)
/-! ### bettered -/
theorem room_sz {ps : List Str} {ts : List (Tie Str)} {f : List Rat} {x y : Str} {B : Nat} (N : NetOk ps ts) (S : StreamOk ts ps x y B f) {s : Step Str} (h : IsStep ts f s) : Sz (B + 32) s.room := by
  obtain ⟨D, D0, DB, D42, hD⟩ := S.den
  obtain ⟨g, g0, g6, gw, h0, h1⟩ := h.room N S.flow D42 hD
  have p26 : (0 : Rat) ≤ 2 ^ 26 := by decide +kernel
  exact (gw.sz (Nat.mul_pos D0 g0) (mul_lt_pow DB g6) (v := 26) h1 (by grind)).mono (by omega)
theorem flow_sz {ps : List Str} {ts : List (Tie Str)} {f : List Rat} {x y : Str} {B : Nat} (N : NetOk ps ts) (S : StreamOk ts ps x y B f) {i : Nat} {q : Rat} (h : f[i]? = some q) : Sz (B + 20) q := by
  obtain ⟨D, D0, DB, D42, hD⟩ := S.den
  have hl := (List.getElem?_eq_some_iff.mp h).1
  rw [S.flow.len] at hl
  have ht : ts[i]? = some ts[i] := List.getElem?_eq_getElem hl
  have h1 := S.flow.lo _ _ h
  have h2 := S.flow.hi _ _ _ ht h
  have h3 := N.mhi _ (List.mem_of_getElem? ht)
  have p20 : (0 : Rat) ≤ 2 ^ 20 := by decide +kernel
  exact ((hD _ _ h).sz D0 DB (v := 20) (by grind) (by grind)).mono (by omega)
theorem pAll_take {much : Rat} {f : List Rat} {l : List (Step Str × Rat)} {i : Nat} {q : Step Str × Rat} (h : l[i]? = some q) : GM.putAll much f (l.take (i + 1)) = putOne much (GM.putAll much f (l.take i)) q := by
  rw [take_snoc h, GM.putAll_snoc]
def sp_bettered (K : PySem.W.Frag) : Sp := sp5 fun a b c d t H Q => ∃ ps ts x y f B z, Given K H a b c d ps ts x y f B ∧ BetV K H t z ∧ BetOk (stepsOf ts f) x y z ∧
  ∀ p H' vs f', H p = none → Ex H H' → H' p = some (.lst vs) → All2 (FrV K H') vs f' → StreamOk ts ps x y (B + 132) f' → left ts f y < left ts f' y → Both (B + 132) f f' → Q (.ref p) H'
/-! bettered: slots 0:net 1:begin 2:end 3:stream 4:thing 5:known 6:parts 7:much 8:found 9:step 10:part 11:goes -/
abbrev N_bettered : List Str := ["net", "begin", "end", "stream", "thing", "known", "parts", "much", "found", "step", "part", "goes"]
theorem sc_bettered : FnScope N_bettered ["net", "begin", "end", "stream", "thing"] (defScope s_bettered) := ⟨rfl, rfl, rfl, by decide +kernel, rfl, by decide +kernel, by decide +kernel⟩
theorem ok_bettered (T : Txt K mg) : DOk P w K mg base "bettered" ["net", "begin", "end", "stream", "thing"] 6 (sp_bettered K) := by
  have G_taken := ok_taken (P := P) (w := w) (base := base) T
  have G_times := ok_times (P := P) (w := w) (base := base) T
  have G_added := ok_added (P := P) (w := w) (base := base) T
  have G_least := ok_least (P := P) (w := w) (base := base) T
  have G_over := ok_over (P := P) (w := w) (base := base) T
  have G_parts_of := ok_parts_of (P := P) (w := w) (base := base) T
  have G_left_steps := ok_left_steps (P := P) (w := w) (base := base) T
  refine T.d_bettered.ok sc_bettered sp5_len (fun f cdv A outer s H vs Q E hr h => ?_)
  refine ⟨_, (pss_cons (ps_set (i := 5) sc_bettered.nd rfl (Or.inl rfl) (pe_callTy (call_dictKB hr rfl) (by rfl) T.n_dict (by decide +kernel) (pa_cons (pe_lc (own := [("step", 9)]) (g := gName 9) (tt := tYes) (by rfl) sc_bettered.nd (piL K (pe_callD G_left_steps (hr.mono (by decide)) (pa_cons (pv 0) (pa_cons (pv 3) pa_nil)))) (blkOk_by (N := N_bettered) (sc := defScope s_bettered) (own := [("step", 9)]) (by decide +kernel)) (fun _ _ _ _ _ => (pg_name (i := 9) sc_bettered.nd rfl (Or.inl rfl))) (fun _ _ _ _ _ => pts_nil) (fun _ _ _ _ _ => (pe_tup (pa_cons (pe_slice (slT K) (pv 9) po_none (po_some pe_int)) (pa_cons (pv 9) pa_nil))))) pa_nil)))
        (pss_cons (ps_set (i := 6) sc_bettered.nd rfl (Or.inl rfl) (pe_callD G_parts_of (hr.mono (by decide)) (pa_cons (pv 5) (pa_cons (pv 4) pa_nil))))
        (pss_cons (ps_set (i := 7) sc_bettered.nd rfl (Or.inl rfl) (pe_callD G_least (hr.mono (by decide)) (pa_cons (pe_lc (own := [("step", 9), ("part", 10)]) (tt := tYes) (by rfl) sc_bettered.nd (piL K (pv 6)) (blkOk_by (N := N_bettered) (sc := defScope s_bettered) (own := [("step", 9), ("part", 10)]) (by decide +kernel)) (fun _ _ _ _ _ => (pgT K 2 rfl (pgs_cons (pg_name (i := 9) sc_bettered.nd rfl (Or.inl rfl)) (pgs_cons (pg_name (i := 10) sc_bettered.nd rfl (Or.inl rfl)) pgs_nil)))) (fun _ _ _ _ _ => pts_nil) (fun _ _ _ _ _ => (pe_callD G_over (hr.mono (by decide)) (pa_cons (pe_ix (ixT K) (pv 9) (pe_gc T.c_ROOM) (fun _ _ => rfl)) (pa_cons (pv 10) pa_nil))))) pa_nil)))
        (pss_cons (ps_set (i := 8) sc_bettered.nd rfl (Or.inl rfl) (pe_callTy call_list_of (by rfl) T.n_list (by decide +kernel) (pa_cons (pv 3) pa_nil)))
        (pss_cons (ps_for PassesOwn.never rfl (piL K (pv 6)) (pgT K 2 rfl (pgs_cons (pg_name (i := 9) sc_bettered.nd rfl (Or.inl rfl)) (pgs_cons (pg_name (i := 10) sc_bettered.nd rfl (Or.inl rfl)) pgs_nil))) (pss_cons (ps_set (i := 11) sc_bettered.nd rfl (Or.inl rfl) (pe_callD G_times (hr.mono (by decide)) (pa_cons (pv 7) (pa_cons (pv 10) pa_nil))))
        (pss_one (ps_if (pt_val (pe_ix (ixT K) (pv 9) pe_int (fun _ _ => rfl))) (pss_one (ps_asg (pe_callD G_taken (hr.mono (by decide)) (pa_cons (pe_ix (ixL K) (pv 8) (pe_ix (ixT K) (pv 9) pe_int (fun _ _ => rfl)) (fun _ _ => rfl)) (pa_cons (pe_callD G_times (hr.mono (by decide)) (pa_cons (pv 11) (pa_cons (pe_ix (ixT K) (pv 9) (pe_gc T.c_GAINS) (fun _ _ => rfl)) pa_nil))) pa_nil))) (pg_sub (pv 8) (pe_ix (ixT K) (pv 9) pe_int (fun _ _ => rfl)) set_list))) (pss_one (ps_asg (pe_callD G_added (hr.mono (by decide)) (pa_cons (pe_ix (ixL K) (pv 8) (pe_ix (ixT K) (pv 9) pe_int (fun _ _ => rfl)) (fun _ _ => rfl)) (pa_cons (pv 11) pa_nil))) (pg_sub (pv 8) (pe_ix (ixT K) (pv 9) pe_int (fun _ _ => rfl)) set_list)))))))
        (pss_one (ps_ret (pv 8)))))))), ?_⟩
  obtain ⟨va, _, _, d, t, rfl, ps, ts, x, y, f, B, z, G, hb, ho, k⟩ := h
  obtain ⟨hnet, rfl, rfl, hst, N, hx, hy, hxy, S, hB⟩ := id G
  have h10 := list_len_le N ho
  have O := laneOk (f := f) N
  have O6 : ∀ s ∈ stepsOf ts f, Sz 6 s.gain := O.sz
  have h48 := steps48 (f := f) N
  have hIs : ∀ q ∈ partsOf z, IsStep ts f q.1 := fun q hq => mem_stepsOf.mp (bet_mem ho _ (by rw [← partsOf_fst z]; exact List.mem_map.mpr ⟨q, hq, rfl⟩))
  have hpp := parts_pos O.pos ho
  have hpz := partsOf_sz N ho
  have hne := bet_ne hxy ho
  have hpl : (partsOf z).length ≤ 10 := by
    have := congrArg List.length (partsOf_fst z)
    simp at this
    omega
  refine ⟨_, rfl, _, rfl, _, _, rfl, ps, ts, f, hnet, hst, steps_sz N S (by omega), fun sa H2 sv hsa e2 hsa2 hsv => ?_⟩
  refine ⟨sa, rfl, ⟨_, SqL.of hsa2⟩, lc_fm (K := K) (ys := stepsOf ts f) (R := KsV K) tm_ks (p := fun _ => true) (f := id) hsa2 hsv.length (by omega) ?_ ?_⟩
  · intro i x y H3 hx hy e3
    have hS := (hsv.two hx hy).mono (.of e3)
    obtain ⟨ta, vr, vg, rfl, hta, _, _⟩ := id hS
    refine LcTurn.yes fun A hA => ⟨rfl, _, rfl, _, rfl, ta, _, rfl, hta.sq, (by show ¬ (HT.sIx 6 0 none = 0 ∧ HT.sIx 6 6 (some 2) = 6); decide), fun p hp => ?_⟩
    have en : Ex H3 (upd H3 p (.tup (cutV [V.int (y.n : Nat), .bl y.k, .str y.b, .str y.e, vr, vg] none (some 2)))) := Ex.new hp
    refine ⟨_, rfl, smallE (by simp), fun q hq => ?_⟩
    have en2 := en.trans (Ex.new (o := .tup [.ref p, .ref ta]) hq)
    refine hA _ _ en2 ⟨q, p, .ref ta, rfl, .of upd_same, .of ?_, hS.mono (.of en2)⟩
    rw [upd_ne (ne_of_none upd_same hq), upd_same]
    rfl
  intro p1 H3 zs hp1 e3 hz3 az
  rw [filt_id] at az
  dsimp only [tNil]
  refine rKB_of hz3 az (stepsTo_keys ts f _) fun dk H4 hd e4 hK => ?_
  have e14 := e2.trans (e3.trans e4)
  -- parts
  refine ⟨_, rfl, _, rfl, _, _, rfl, dk, stepsOf ts f, x, y, z, rfl, hK, hb.ex e14, ho, O6, h10, fun pp H5 pv hpp0 e5 hpp5 hpv => ?_⟩
  -- much
  refine ⟨_, rfl, pp, rfl, ⟨_, SqL.of hpp5⟩, lc_fm (K := K) (ys := partsOf z) (R := FrV K) tm_fr (p := fun _ => true) (f := fun q => q.1.room / q.2) hpp5 hpv.length (by omega) ?_ ?_⟩
  · intro i u q H6 hu hq e6
    have hqm := List.mem_of_getElem? hq
    obtain ⟨ta, vs, vp, rfl, hta, hs, hp⟩ := (hpv.two hu hq).mono (.of e6)
    obtain ⟨tb, vr, vg, rfl, htb, hr1, hg1⟩ := id hs
    refine LcTurn.yes fun A hA => ⟨ta, _, rfl, hta.sq, rfl, _, _, rfl, _, _, rfl, rfl, rfl, _, rfl, tb, _, _, vr, rfl, rfl, htb.sq, rfl, _, rfl, _, _, rfl, _, _, hr1, hp, hpp q hqm, ?_, fun v' H7 e7 h7 => hA _ _ e7 h7⟩
    exact ((room_sz N S (hIs q hqm)).div (hpz q hqm) (hpp q hqm)).mono (by omega)
  intro p6 H6 zs6 hp6 e6 hz6 az6
  rw [filt] at az6
  refine ⟨_, rfl, _, ?_, ?_, ⟨p6, zs6, rfl, hz6, az6⟩, fun vm H7 m e7 hm hmem hmin => ?_⟩
  · intro q
    exact hne (List.map_eq_nil_iff.mp q)
  · simp; omega
  obtain ⟨qm, hqm, hqe⟩ := List.mem_map.mp hmem
  have hmin' : ∀ q ∈ partsOf z, m ≤ q.1.room / q.2 := fun q hq => hmin _ (List.mem_map.mpr ⟨q, hq, rfl⟩)
  obtain ⟨hF, hlt, hBo⟩ := better_ok N hxy S ho (m := m) (share := 1) ⟨qm, hqm, hqe.symm⟩ hmin' (by decide) (by decide) (by decide)
  rw [Rat.mul_one] at hF hlt hBo
  have hnd : ((partsOf z).map (·.1.n)).Nodup := by
    have := bet_ties (fun s hs => (mem_stepsOf.mp hs).fits N.gpos) ho
    rw [← partsOf_fst z, List.map_map] at this
    exact this
  have hmz : Sz (B + 96) m := by
    rw [← hqe]
    exact ((room_sz N S (hIs qm hqm)).div (hpz qm hqm) (hpp qm hqm)).mono (by omega)
  -- found
  have e57 := e6.trans e7
  have e17 := e14.trans (e5.trans e57)
  obtain ⟨ds, dv, rfl, hds, hdv⟩ := id hst
  refine ⟨_, rfl, ds, dv, rfl, .inl (SqL.of (e17 _ _ hds)), fun fd hfd => ?_⟩
  have e8 : Ex H7 (upd H7 fd (.lst dv)) := Ex.new hfd
  have hfdH : H fd = none := e17.back hfd
  have hppH : upd H7 fd (.lst dv) pp = some (.lst pv) := e8 _ _ (e57 _ _ hpp5)
  have hpne : pp ≠ fd := ne_of_none (e57 _ _ hpp5) hfd
  refine ⟨_, rfl, pp, rfl, ⟨_, SqL.of hppH⟩, for_list (K := K) (a := pp) (xs := pv) (fun i σ H' => ∃ acc x9 x10 x11, σ = [some va, some (.str x), some (.str y), some (.ref ds), some t, some (.ref dk), some (.ref pp), some vm, some (.ref fd), x9, x10, x11] ∧ Ex H7 H' ∧ H' fd = some (.lst acc) ∧ All2 (FrV K H') acc (GM.putAll m f ((partsOf z).take i)))
    ⟨dv, none, none, none, rfl, e8, upd_same, hdv.tm tm_fr (.of (e17.trans e8))⟩ (fun i σ H' _ ⟨_, _, _, _, _, e, _⟩ => SqL.of (e _ _ (e57 _ _ hpp5))) ?_ ?_⟩
  · rintro i u σ H' hu ⟨acc, x9, x10, x11, rfl, e, hfd', hacc⟩
    obtain ⟨q, hqi, rq⟩ := hpv.get hu
    have hqm := List.mem_of_getElem? hqi
    obtain ⟨ta, vs, vp, rfl, hta, hs, hp⟩ := rq.mono (.of (e57.trans e))
    obtain ⟨tb, vr, vg, rfl, htb, hr1, hg1⟩ := id hs
    -- what stands at the step's tie
    obtain ⟨t0, x0, ht0, hx0, _⟩ := hIs q hqm
    have hsplit : partsOf z = (partsOf z).take i ++ q :: (partsOf z).drop (i + 1) := by
      have hl := (List.getElem?_eq_some_iff.mp hqi).1
      have h1 : (partsOf z).drop i = q :: (partsOf z).drop (i + 1) := by
        rw [List.drop_eq_getElem_cons hl]
        congr 1
        exact Option.some.inj ((List.getElem?_eq_getElem hl).symm.trans hqi)
      rw [← h1, List.take_append_drop]
    have hoff : q.1.n ∉ ((partsOf z).take i).map (·.1.n) := fun hm' => by
      rw [hsplit, List.map_append] at hnd
      exact (List.nodup_append.mp hnd).2.2 _ hm' q.1.n (by simp) rfl
    have hnow : (GM.putAll m f ((partsOf z).take i))[q.1.n]? = some x0 := by rw [GM.putAll_other hoff]; exact hx0
    obtain ⟨xv, hxv, rxv⟩ := hacc.get' hnow
    have hlacc := (List.getElem?_eq_some_iff.mp hxv).1
    have hnew := flow_sz N hF (GM.putAll_at (much := m) hnd hqm hx0)
    have hgetD : (GM.putAll m f ((partsOf z).take i)).getD q.1.n 0 = x0 := by rw [List.getD_eq_getElem?_getD, hnow]; rfl
    have hq64 := hpz q hqm
    have hg6 : Sz 6 q.1.gain := ((hIs q hqm).lane N).2.2.2.2
    refine ⟨ta, _, rfl, hta.sq, rfl, _, _, rfl, _, _, rfl, rfl, ?_⟩
    refine ⟨_, rfl, _, rfl, _, _, rfl, m, q.2, hm.ex e, hp, trivial, (hmz.mul hq64).mono (by omega), fun vgo H8 e8' hgo => ?_⟩
    have htb8 := htb.mono (.of e8')
    have hfd8 := e8' _ _ hfd'
    have hacc8 := hacc.tm tm_fr (.of e8')
    refine ⟨_, rfl, tb, _, _, .bl q.1.k, rfl, rfl, htb8.sq, rfl, q.1.k, rfl, ?_⟩
    rw [pAll_take hqi]
    cases hk : q.1.k with
    | true =>
      rw [hk] at hnew htb htb8
      refine iteT ?_
      refine ⟨_, rfl, _, rfl, tb, _, _, .int (q.1.n : Nat), rfl, rfl, htb8.sq, rfl, fd, _, _, xv, rfl, rfl, SqL.of hfd8, atI_nat hxv, ?_⟩
      refine ⟨_, rfl, _, rfl, tb, _, _, vg, rfl, rfl, htb8.sq, rfl, _, _, rfl, _, _, hgo, hg1.ex e8', trivial, ((hmz.mul hq64).mul hg6).mono (by omega), fun v2 H9 e9 h2 => ?_⟩
      refine ⟨_, _, rfl, _, _, rxv.ex (e8'.trans e9), h2, trivial, hnew.mono (by omega), fun v3 H10 e10 h3 => ?_⟩
      have e810 := e9.trans e10
      have hfd10 := e810 _ _ hfd8
      refine ⟨_, rfl, _, rfl, tb, _, _, .int (q.1.n : Nat), rfl, rfl, (htb8.mono (.of e810)).sq, rfl, fd, acc, _, q.1.n, rfl, rfl, hfd10, Evl.ixN_nat hlacc, ?_⟩
      refine ⟨acc.set q.1.n v3, _, _, _, rfl, (e.trans (e8'.trans e810)).upd_new hfd, upd_same, ?_⟩
      have tx : TX H10 (upd H10 fd (.lst (acc.set q.1.n v3))) := .wl hfd10
      unfold putOne
      rw [hk, if_pos rfl, hgetD]
      exact ((hacc8.tm tm_fr (.of e810)).tm tm_fr tx).set (h3.mono tx) _
    | false =>
      rw [hk] at hnew htb htb8
      refine iteF ?_
      refine ⟨_, rfl, _, rfl, tb, _, _, .int (q.1.n : Nat), rfl, rfl, htb8.sq, rfl, fd, _, _, xv, rfl, rfl, SqL.of hfd8, atI_nat hxv, ?_⟩
      refine ⟨_, rfl, _, _, rfl, _, _, rxv.ex e8', hgo, trivial, hnew.mono (by omega), fun v3 H10 e10 h3 => ?_⟩
      have hfd10 := e10 _ _ hfd8
      refine ⟨_, rfl, _, rfl, tb, _, _, .int (q.1.n : Nat), rfl, rfl, (htb8.mono (.of e10)).sq, rfl, fd, acc, _, q.1.n, rfl, rfl, hfd10, Evl.ixN_nat hlacc, ?_⟩
      refine ⟨acc.set q.1.n v3, _, _, _, rfl, (e.trans (e8'.trans e10)).upd_new hfd, upd_same, ?_⟩
      have tx : TX H10 (upd H10 fd (.lst (acc.set q.1.n v3))) := .wl hfd10
      unfold putOne
      rw [hk, if_neg (by decide), hgetD]
      exact ((hacc8.tm tm_fr (.of e10)).tm tm_fr tx).set (h3.mono tx) _
  · rintro σ H' ⟨acc, x9, x10, x11, rfl, e, hfd', hacc⟩
    rw [hpv.length, List.take_length] at hacc
    exact ⟨_, rfl, k fd H' acc _ hfdH (e17.trans e) hfd' hacc hF hlt hBo⟩
end
end GW
set_option Elab.async false
set_option linter.all false
set_option maxRecDepth 100000
set_option maxHeartbeats 4000000
/-! LA: the law's box, its fractions -/
namespace GW
open PySem PySem.Spec PyProof.Rows L2 GM
/-- the box: what is left of a great number, a seed, how many were taken -/
def BoxV (H : Hp) (bx : Addr) (n : Nat) : Prop := ∃ x y z : Nat, H bx = some (.lst [.int x, .int y, .int z]) ∧ y < 2 ^ 31 ∧ z ≤ n
theorem BoxV.mono {H : Hp} {bx : Addr} {n m : Nat} (h : BoxV H bx n) (l : n ≤ m) : BoxV H bx m := by
  obtain ⟨x, y, z, h1, h2, h3⟩ := h
  exact ⟨x, y, z, h1, h2, Nat.le_trans h3 l⟩
theorem BoxV.ex {H H' : Hp} {bx : Addr} {n : Nat} (h : BoxV H bx n) (e : Ex H H') : BoxV H' bx n := by
  obtain ⟨x, y, z, h1, h2⟩ := h
  exact ⟨x, y, z, e _ _ h1, h2⟩
theorem BoxV.tx {H H' : Hp} {bx : Addr} {n : Nat} (h : BoxV H bx n) (b : But bx H H') : TX H H' := by
  obtain ⟨x, y, z, h1, _⟩ := h
  intro a xs ha
  exact b a _ (ne_of ha h1 (by intro z; cases z)) ha
theorem But.refl (D : Addr) (H : Hp) : But D H H := fun _ _ _ h => h
theorem But.of {D : Addr} {H H' : Hp} (e : Ex H H') : But D H H' := fun c o _ h => e c o h
theorem But.trans {D : Addr} {H H1 H2 : Hp} (a : But D H H1) (b : But D H1 H2) : But D H H2 := fun c o hc h => b c o hc (a c o hc h)
theorem But.ex {D : Addr} {H H1 H2 : Hp} (a : But D H H1) (e : Ex H1 H2) : But D H H2 := fun c o hc h => e c o (a c o hc h)
theorem But.wr {D : Addr} {H : Hp} {o : HO} : But D H (upd H D o) := fun c o' hc h => by
  rw [upd_ne hc]
  exact h
section
variable {P : Program} {w : World} {K : PySem.W.Frag} {mg : Str → Option Value} {base : Heap}
def sp__law_box (K : PySem.W.Frag) : Sp := sp2 fun a b H Q => ∃ (sa : Addr) (cs : List Int) (k : Nat), a = .ref sa ∧ b = .int k ∧ SqL K H sa (cs.map V.int) ∧ k ≤ 1000 ∧ ∀ p H', H p = none → Ex H H' → BoxV H' p 0 → Q (.ref p) H'
/-! _law_box: slots 0:_law_script 1:_law_k 2:_law_cell -/
abbrev N__law_box : List Str := ["_law_script", "_law_k", "_law_cell"]
theorem sc__law_box : FnScope N__law_box ["_law_script", "_law_k"] (defScope s__law_box) := ⟨rfl, rfl, rfl, by decide +kernel, rfl, by decide +kernel, by decide +kernel⟩
theorem ok__law_box (T : Txt K mg) : DOk P w K mg base "_law_box" ["_law_script", "_law_k"] 1 (sp__law_box K) := by
  refine T.d__law_box.ok sc__law_box sp2_len (fun f cdv A outer s H vs Q E hr h => ?_)
  refine ⟨_, (pss_cons (ps_set (i := 2) sc__law_box.nd rfl (Or.inl rfl) pe_int)
        (Evl.pss_cut (ps_if (pt_cmpR op_lt (pv 1) (pe_callB (lenK K) (by rfl) T.n_len PySem.boot_len (pa_cons (pv 0) pa_nil)) (nomark _)) (pss_one (ps_set (i := 2) sc__law_box.nd rfl (Or.inl rfl) (pe_ix (ixL K) (pv 0) (pv 1) (fun _ _ => rfl)))) pss_nil)
        (pss_one (ps_ret (pe_lst (pa_cons (pe_op op_mul (pe_callB call_abs (by rfl) T.n_abs (by decide +kernel) (pa_cons (pv 2) pa_nil)) (pe_callTy call_int1 (by rfl) T.n_int (by decide +kernel) (pa_cons (pe_cmpR op_ge (pe_callB call_abs (by rfl) T.n_abs (by decide +kernel) (pa_cons (pv 2) pa_nil)) (pe_op op_pow pe_int pe_int) (nomark _)) pa_nil))) (pa_cons (pe_op op_mod (pe_op op_add (pv 2) (pe_op op_mul (pe_op op_mul pe_int (pv 1)) (pv 1))) pe_int) (pa_cons pe_int pa_nil)))))))), ?_⟩
  obtain ⟨_, _, rfl, sa, cs, kk, rfl, rfl, hs, hk, k⟩ := h
  refine ⟨fun σ H' => ∃ c : Int, σ = [some (.ref sa), some (.int kk), some (.int c)] ∧ H' = H, ?_, ?_⟩
  · refine ⟨_, rfl, _, rfl, sa, _, rfl, .inl hs, _, _, rfl, rfl, _, rfl, ite2 (fun hb => ?_) (fun hb => ?_)⟩
    · have hlt : kk < cs.length := by
        have := of_decide_eq_true hb
        simpa using this
      have hi : cs[kk]? = some cs[kk] := List.getElem?_eq_getElem hlt
      refine ⟨_, rfl, _, rfl, sa, _, _, .int cs[kk], rfl, rfl, hs, ?_, ?_⟩
      · exact atI_nat (by rw [List.getElem?_map, hi]; rfl)
      · exact ⟨cs[kk], rfl, rfl⟩
    · exact ⟨0, rfl, rfl⟩
  · rintro σ H' ⟨c, rfl, rfl⟩
    have hx : (if c < 0 then -c else c) = (c.natAbs : Int) := abs_nat c
    refine ⟨_, rfl, _, rfl, _, rfl, c, rfl, _, _, rfl, rfl, ⟨by decide, by decide, by decide⟩, _, _, rfl, rfl, .inr ⟨_, rfl, _, _, rfl, rfl, ?_, ?_⟩⟩
    · refine .inr ?_
      generalize decide (10 ^ (18 : Int).toNat ≤ (if c < 0 then -c else c)) = b
      cases b <;> decide
    have hk64 : -(2 ^ 64) < (kk : Int) ∧ (kk : Int) < 2 ^ 64 := by omega
    refine ⟨_, rfl, _, rfl, _, _, rfl, rfl, .inr hk64, _, rfl, _, _, rfl, rfl, .inr hk64, _, _, rfl, rfl, _, _, rfl, rfl, (by decide : (0 : Int) < 2147483647), smallE (by simp), fun p hp => ?_⟩
    have h0 : 0 ≤ (c + 7919 * (kk : Int) * kk) % 2147483647 := Int.emod_nonneg _ (by decide)
    have h1 : (c + 7919 * (kk : Int) * kk) % 2147483647 < 2147483647 := Int.emod_lt_of_pos _ (by decide)
    obtain ⟨y, hy⟩ : ∃ y : Nat, (c + 7919 * (kk : Int) * kk) % 2147483647 = y := ⟨_, (Int.toNat_of_nonneg h0).symm⟩
    obtain ⟨x, hxx⟩ : ∃ x : Nat, (if c < 0 then -c else c) * (if decide (10 ^ (18 : Int).toNat ≤ (if c < 0 then -c else c)) = true then (1 : Int) else 0) = x ∧ x ≤ c.natAbs := by
      rw [hx]
      split
      · exact ⟨c.natAbs, by omega, Nat.le_refl _⟩
      · exact ⟨0, by omega, Nat.zero_le _⟩
    refine k p _ hp (Ex.new hp) ⟨x, y, 0, ?_, by omega, Nat.le_refl _⟩
    rw [upd_same, ← hy, ← hxx.1]
    rfl
/-- what is asked by one who takes -/
def sp__law_take (K : PySem.W.Frag) : Sp := sp2 fun a b H Q => ∃ (bx : Addr) (m n : Nat), a = .ref bx ∧ b = .int m ∧ 0 < m ∧ m ≤ 1000 ∧ BoxV H bx n ∧ n < 100000 ∧ ∀ (r : Nat) H', r < m → But bx H H' → BoxV H' bx (n + 1) → Q (.int r) H'
/-! _law_take: slots 0:_law_box_here 1:_law_many 2:_law_found 3:_law_once -/
abbrev N__law_take : List Str := ["_law_box_here", "_law_many", "_law_found", "_law_once"]
theorem sc__law_take : FnScope N__law_take ["_law_box_here", "_law_many"] (defScope s__law_take) := ⟨rfl, rfl, rfl, by decide +kernel, rfl, by decide +kernel, by decide +kernel⟩
theorem ok__law_take (T : Txt K mg) : DOk P w K mg base "_law_take" ["_law_box_here", "_law_many"] 1 (sp__law_take K) := by
  refine T.d__law_take.ok sc__law_take sp2_len (fun f cdv A outer s H vs Q E hr h => ?_)
  refine ⟨_, (pss_cons (ps_if (pt_cmpR op_gt (pe_ix (ixL K) (pv 0) pe_int (fun _ _ => rfl)) pe_int (nomark _)) (pss_cons (ps_asg (pe_callB call_divmodW (by rfl) T.n_divmod (by decide +kernel) (pa_cons (pe_ix (ixL K) (pv 0) pe_int (fun _ _ => rfl)) (pa_cons (pv 1) pa_nil))) (pgT K 2 rfl (pgs_cons (pg_sub (pv 0) pe_int set_list) (pgs_cons (pg_name (i := 2) sc__law_take.nd rfl (Or.inl rfl)) pgs_nil))))
        (pss_one (ps_ret (pv 2)))) pss_nil)
        (pss_cons (ps_asg (pe_op op_add (pe_ix (ixL K) (pv 0) pe_int (fun _ _ => rfl)) pe_int) (pg_sub (pv 0) pe_int set_list))
        (pss_cons (ps_set (i := 3) sc__law_take.nd rfl (Or.inl rfl) (pe_op op_mod (pe_op op_pow (pe_op op_add (pe_ix (ixL K) (pv 0) pe_int (fun _ _ => rfl)) (pe_op op_mulX pe_int (pe_ix (ixL K) (pv 0) pe_int (fun _ _ => rfl)))) pe_int) pe_int))
        (pss_one (ps_ret (pe_op op_mod (pe_op op_fdivP (pe_op op_mod (pe_op op_add (pe_op op_mulX (pv 3) pe_int) (pe_op op_mulX (pe_op op_mulX (pe_ix (ixL K) (pv 0) pe_int (fun _ _ => rfl)) (pe_ix (ixL K) (pv 0) pe_int (fun _ _ => rfl))) pe_int)) pe_int) pe_int) (pv 1))))))), ?_⟩
  obtain ⟨_, _, rfl, bx, m, n, rfl, rfl, m0, m1, ⟨x, y, z, hb, hy, hz⟩, hn, k⟩ := h
  refine ⟨_, rfl, bx, _, _, .int x, rfl, rfl, SqL.of hb, atI_nat (j := 0) rfl, _, _, rfl, rfl, _, rfl, ite2 (fun hc => ?_) (fun hc => ?_)⟩
  · refine ⟨_, rfl, bx, _, _, .int x, rfl, rfl, SqL.of hb, atI_nat (j := 0) rfl, _, rfl, x, m, rfl, ⟨(show (0 : Int) < (m : Int) by omega), PyProof.noPylong_small (by omega)⟩, fun p hp => ?_⟩
    have e1 : Ex H (upd H p (.tup [.int ((x : Int) / m), .int ((x : Int) % m)])) := Ex.new hp
    have hne : bx ≠ p := ne_of_none hb hp
    refine ⟨p, _, rfl, SqT.of upd_same, rfl, _, _, rfl, _, rfl, bx, _, _, 0, rfl, rfl, e1 _ _ hb, Evl.ixN_nat (j := 0) (by simp), _, _, rfl, rfl, _, rfl, ?_⟩
    have hr1 : ((x : Int) % m) = ((x % m : Nat) : Int) := by rw [Int.natCast_emod]
    have hq1 : ((x : Int) / m) = ((x / m : Nat) : Int) := by rw [Int.natCast_ediv]
    show Q (.int ((x : Int) % m)) _
    rw [hr1]
    refine k _ _ (Nat.mod_lt _ m0) ((But.of e1).trans .wr) ⟨x / m, y, z, ?_, hy, by omega⟩
    rw [upd_same, hq1]
    rfl
  · have hb1 : (upd H bx (.lst [.int x, .int y, .int (z + 1)])) bx = some (.lst [.int x, .int y, .int (z + 1)]) := upd_same
    refine ⟨_, rfl, bx, _, _, .int z, rfl, rfl, SqL.of hb, atI_nat (j := 2) rfl, _, _, rfl, rfl, _, rfl, bx, _, _, 2, rfl, rfl, hb, Evl.ixN_nat (j := 2) (by simp), ?_⟩
    have hz1 : z + 1 ≤ 100000 := by omega
    refine ⟨_, rfl, bx, _, _, .int y, rfl, rfl, SqL.of hb1, atI_nat (j := 1) rfl, ?_⟩
    refine ⟨_, rfl, bx, _, _, .int (z + 1), rfl, rfl, SqL.of hb1, atI_nat (j := 2) rfl, _, _, rfl, rfl, mulx_of (a := 20) (b := 20) (by decide) (by omega) (by decide), _, _, rfl, rfl, _, _, rfl, rfl, ⟨by decide, by decide, by omega⟩, _, _, rfl, rfl, (by decide : (0 : Int) < 2147483647), ?_⟩
    have c31 : ∀ t : Int, (t % 2147483647).natAbs < 2 ^ 31 := fun t => by
      have h1 : 0 ≤ t % 2147483647 := Int.emod_nonneg _ (by decide)
      have h2 : t % 2147483647 < 2147483647 := Int.emod_lt_of_pos _ (by decide)
      omega
    have b31 : ∀ t : Int, Builtin.Int.intBits (t % 2147483629) ≤ 31 := fun t => PyProof.Rows.intBits_le (by
      have h1 : 0 ≤ t % 2147483629 := Int.emod_nonneg _ (by decide)
      have h2 : t % 2147483629 < 2147483629 := Int.emod_lt_of_pos _ (by decide)
      omega)
    refine ⟨_, rfl, _, _, rfl, rfl, mulx_of (a := 31) (b := 20) (c31 _) (by decide) (by decide), ?_⟩
    refine ⟨_, rfl, bx, _, _, .int (z + 1), rfl, rfl, SqL.of hb1, atI_nat (j := 2) rfl, _, rfl, bx, _, _, .int (z + 1), rfl, rfl, SqL.of hb1, atI_nat (j := 2) rfl, _, _, rfl, rfl, mulx_of (a := 20) (b := 20) (by omega) (by omega) (by decide), _, _, rfl, rfl, mulx_of (a := 40) (b := 20) ?_ (by decide) (by decide), _, _, rfl, rfl, _, _, rfl, rfl, (by decide : (0 : Int) < 2147483629), ?_⟩
    · rw [Int.natAbs_mul]
      exact mul_lt_pow (a := 20) (b := 20) (by omega) (by omega)
    refine ⟨_, _, rfl, rfl, divp_ok (by decide) (Nat.le_trans (b31 _) (by omega)), _, rfl, _, _, rfl, rfl, (show (0 : Int) < (m : Int) by omega), ?_⟩
    refine (show ∀ t : Int, Q (.int (t % 2147483629 / 64 % (m : Int))) _ from fun t => ?_) _
    have h0 : 0 ≤ t % 2147483629 := Int.emod_nonneg _ (by decide)
    have h2 : t % 2147483629 / 64 % (m : Int) = (((t % 2147483629 / 64).toNat % m : Nat) : Int) := by
      rw [Int.natCast_emod, Int.toNat_of_nonneg (by omega)]
    rw [h2]
    exact k _ _ (Nat.mod_lt _ m0) .wr ⟨x, y, z + 1, by rw [upd_same]; rfl, hy, by omega⟩
end
end GW
set_option Elab.async false
set_option linter.all false
set_option maxRecDepth 100000
set_option maxHeartbeats 4000000
/-! LB: the law's fractions; cells folded; gains, muches, prices -/
namespace GW
open PySem PySem.Spec PyProof.Rows L2 GM
section
variable {P : Program} {w : World} {K : PySem.W.Frag} {mg : Str → Option Value} {base : Heap}
/-! _law_frac: slots 0:_law_n 1:_law_d 2:_law_one 3:_law_other -/
abbrev N__law_frac : List Str := ["_law_n", "_law_d", "_law_one", "_law_other"]
theorem sc__law_frac : FnScope N__law_frac ["_law_n", "_law_d"] (defScope s__law_frac) := ⟨rfl, rfl, rfl, by decide +kernel, rfl, by decide +kernel, by decide +kernel⟩
theorem ok__law_frac (T : Txt K mg) : DOk P w K mg base "_law_frac" ["_law_n", "_law_d"] 1 (sp_fraction K) := by
  refine T.d__law_frac.ok sc__law_frac sp2_len (fun f cdv A outer s H vs Q E hr h => ?_)
  refine ⟨_, (pss_cons (ps_par (i := 2) (j := 3) (by rfl) sc__law_frac.nd rfl rfl (by decide) rfl rfl (pa_cons (pe_callB call_abs (by rfl) T.n_abs (by decide +kernel) (pa_cons (pv 0) pa_nil)) (pa_cons (pe_callB call_abs (by rfl) T.n_abs (by decide +kernel) (pa_cons (pv 1) pa_nil)) pa_nil)) (by rfl))
        (pss_cons (ps_while PassesOwn.never (pt_cmpR op_gt (pv 3) pe_int (nomark _)) (pss_one (ps_par (i := 2) (j := 3) (by rfl) sc__law_frac.nd rfl rfl (by decide) rfl rfl (pa_cons (pv 3) (pa_cons (pe_op op_mod (pv 2) (pv 3)) pa_nil)) (by rfl))))
        (pss_cons (ps_set (i := 2) sc__law_frac.nd rfl (Or.inl rfl) (pe_op op_mul (pv 2) (pe_ifExp (pt_cmpR op_gt (pv 1) pe_int (nomark _)) pe_int (pe_un un_neg pe_int))))
        (pss_one (ps_ret (pe_tup (pa_cons (pe_op op_fdivP (pv 0) (pv 2)) (pa_cons (pe_op op_fdivP (pv 1) (pv 2)) pa_nil)))))))), ?_⟩
  obtain ⟨_, _, rfl, n, d, rfl, rfl, hd, hz, k⟩ := h
  refine ⟨_, rfl, _, rfl, _, rfl, _, rfl, _, _, rfl, ?_⟩
  refine ⟨fun c σ H' => ∃ a b : Nat, σ = [some (.int n), some (.int d), some (.int a), some (.int b)] ∧ H' = H ∧ Nat.gcd a b = Nat.gcd n.natAbs d ∧ b = c, ⟨d, n.natAbs, d, ?_, rfl, rfl, rfl⟩, ?_⟩
  · have e2 : (if (d : Int) < 0 then -(d : Int) else (d : Int)) = (d : Int) := by rw [if_neg (by omega)]
    show [some (V.int n), some (V.int d), some (V.int (if n < 0 then -n else n)), some (V.int (if (d : Int) < 0 then -(d : Int) else (d : Int)))] = _
    rw [abs_nat n, e2]
  rintro _ σ H' ⟨a, b, rfl, rfl, e, rfl⟩
  refine ⟨_, rfl, _, _, rfl, rfl, _, rfl, ite2 (fun hb => ?_) (fun hb => ?_)⟩
  · have hb' : 0 < (b : Int) := of_decide_eq_true hb
    refine ⟨fun σ' H2 => ∃ a' b' : Nat, σ' = [some (.int n), some (.int d), some (.int a'), some (.int b')] ∧ H2 = H' ∧ Nat.gcd a' b' = Nat.gcd n.natAbs d ∧ b' < b, ?_, ?_⟩
    · rintro σ' H2 ⟨a', b', rfl, rfl, e', hlt⟩
      exact ⟨b', hlt, a', b', rfl, rfl, e', rfl⟩
    · refine ⟨_, rfl, _, rfl, _, rfl, _, _, rfl, rfl, hb', _, _, rfl, ?_⟩
      refine ⟨b, a % b, ?_, rfl, ?_, Nat.mod_lt _ (by omega)⟩
      · show [some (V.int n), some (V.int d), some (V.int b), some (V.int ((a : Int) % (b : Int)))] = _
        rw [Int.natCast_emod]
      · rw [← e, Nat.gcd_comm b, ← Nat.gcd_rec, Nat.gcd_comm]
  · have hb' : ¬ 0 < (b : Int) := fun q => hb (decide_eq_true q)
    have e0 : b = 0 := by omega
    subst e0
    have ea : a = Nat.gcd n.natAbs d := by rw [← e]; simp
    subst ea
    have hg : 0 < Nat.gcd n.natAbs d := Nat.gcd_pos_of_pos_right _ (by omega)
    have hgd : Nat.gcd n.natAbs d ≤ d := Nat.gcd_le_right _ (by omega)
    have m := mkRat_gcd n hd
    refine ⟨_, rfl, _, rfl, _, _, rfl, rfl, _, rfl, ite2 (fun hc => ?_) (fun hc => ?_)⟩
    · refine ⟨_, _, rfl, rfl, .inr (by decide), ?_⟩
      have e1 : ((Nat.gcd n.natAbs d : Nat) : Int) * 1 = ((Nat.gcd n.natAbs d : Nat) : Int) := Int.mul_one _
      refine ⟨_, rfl, _, rfl, _, _, rfl, rfl, ?_, _, rfl, _, rfl, _, _, rfl, rfl, ?_, by show 2 ≤ sizeLine; decide, fun p hp => ?_⟩
      · rw [e1]
        exact divp_exact (by omega) (Int.ofNat_dvd_left.mpr (Nat.gcd_dvd_left _ _)) (by rw [← m.1]; exact hz.1)
      · rw [e1]
        exact divp_exact (by omega) (Int.natCast_dvd_natCast.mpr (Nat.gcd_dvd_right _ _)) (by rw [← m.2]; exact hz.2)
      · refine k _ _ (Evl.Ex.new hp) ⟨p, rfl, .of ?_, hz⟩
        rw [upd_same, e1, m.1, m.2]
    · exact absurd (decide_eq_true (show (0 : Int) < (d : Int) by omega)) hc
/-! _law_sum: slots 0:_law_one 1:_law_other -/
abbrev N__law_sum : List Str := ["_law_one", "_law_other"]
theorem sc__law_sum : FnScope N__law_sum ["_law_one", "_law_other"] (defScope s__law_sum) := ⟨rfl, rfl, rfl, by decide +kernel, rfl, by decide +kernel, by decide +kernel⟩
theorem ok__law_sum (T : Txt K mg) : DOk P w K mg base "_law_sum" ["_law_one", "_law_other"] 2 (spBin K (fun _ _ => True) (· + ·)) := by
  have G__law_frac := ok__law_frac (P := P) (w := w) (base := base) T
  refine T.d__law_sum.ok sc__law_sum sp2_len (fun f cdv A outer s H vs Q E hr h => ?_)
  refine ⟨_, (pss_one (ps_ret (pe_callD G__law_frac (hr.mono (by decide)) (pa_cons (pe_op op_add (pe_op op_mulX (pe_ix (ixT K) (pv 0) pe_int (fun _ _ => rfl)) (pe_ix (ixT K) (pv 1) pe_int (fun _ _ => rfl))) (pe_op op_mulX (pe_ix (ixT K) (pv 1) pe_int (fun _ _ => rfl)) (pe_ix (ixT K) (pv 0) pe_int (fun _ _ => rfl)))) (pa_cons (pe_op op_mulX (pe_ix (ixT K) (pv 0) pe_int (fun _ _ => rfl)) (pe_ix (ixT K) (pv 1) pe_int (fun _ _ => rfl))) pa_nil))))), ?_⟩
  obtain ⟨_, _, rfl, p, q, ⟨a, rfl, ha, za⟩, ⟨b, rfl, hb, zb⟩, _, hz, k⟩ := h
  refine ⟨_, rfl, _, _, _, _, rfl, rfl, ha.sq, rfl, _, rfl, _, _, _, _, rfl, rfl, hb.sq, rfl, _, _, rfl, rfl, mulx_of za.1 (nat_abs_lt zb.2) (by decide), ?_⟩
  refine ⟨_, rfl, _, _, _, _, rfl, rfl, hb.sq, rfl, _, rfl, _, _, _, _, rfl, rfl, ha.sq, rfl, _, _, rfl, rfl, mulx_of zb.1 (nat_abs_lt za.2) (by decide), _, _, rfl, rfl, ?_⟩
  refine ⟨_, rfl, _, _, _, _, rfl, rfl, ha.sq, rfl, _, rfl, _, _, _, _, rfl, rfl, hb.sq, rfl, _, _, rfl, rfl, mulx_of (nat_abs_lt za.2) (nat_abs_lt zb.2) (by decide), ?_⟩
  have e := Rat.add_def' p q
  refine ⟨_, _, rfl, _, p.den * q.den, rfl, congrArg V.int (Int.natCast_mul _ _).symm, Nat.mul_ne_zero p.den_nz q.den_nz, by rw [← e]; exact hz, ?_⟩
  rw [← e]
  exact k
/-! _law_minus: slots 0:_law_one 1:_law_other -/
abbrev N__law_minus : List Str := ["_law_one", "_law_other"]
theorem sc__law_minus : FnScope N__law_minus ["_law_one", "_law_other"] (defScope s__law_minus) := ⟨rfl, rfl, rfl, by decide +kernel, rfl, by decide +kernel, by decide +kernel⟩
theorem ok__law_minus (T : Txt K mg) : DOk P w K mg base "_law_minus" ["_law_one", "_law_other"] 2 (spBin K (fun _ _ => True) (· - ·)) := by
  have G__law_frac := ok__law_frac (P := P) (w := w) (base := base) T
  refine T.d__law_minus.ok sc__law_minus sp2_len (fun f cdv A outer s H vs Q E hr h => ?_)
  refine ⟨_, (pss_one (ps_ret (pe_callD G__law_frac (hr.mono (by decide)) (pa_cons (pe_op op_sub (pe_op op_mulX (pe_ix (ixT K) (pv 0) pe_int (fun _ _ => rfl)) (pe_ix (ixT K) (pv 1) pe_int (fun _ _ => rfl))) (pe_op op_mulX (pe_ix (ixT K) (pv 1) pe_int (fun _ _ => rfl)) (pe_ix (ixT K) (pv 0) pe_int (fun _ _ => rfl)))) (pa_cons (pe_op op_mulX (pe_ix (ixT K) (pv 0) pe_int (fun _ _ => rfl)) (pe_ix (ixT K) (pv 1) pe_int (fun _ _ => rfl))) pa_nil))))), ?_⟩
  obtain ⟨_, _, rfl, p, q, ⟨a, rfl, ha, za⟩, ⟨b, rfl, hb, zb⟩, _, hz, k⟩ := h
  refine ⟨_, rfl, _, _, _, _, rfl, rfl, ha.sq, rfl, _, rfl, _, _, _, _, rfl, rfl, hb.sq, rfl, _, _, rfl, rfl, mulx_of za.1 (nat_abs_lt zb.2) (by decide), ?_⟩
  refine ⟨_, rfl, _, _, _, _, rfl, rfl, hb.sq, rfl, _, rfl, _, _, _, _, rfl, rfl, ha.sq, rfl, _, _, rfl, rfl, mulx_of zb.1 (nat_abs_lt za.2) (by decide), _, _, rfl, rfl, ?_⟩
  refine ⟨_, rfl, _, _, _, _, rfl, rfl, ha.sq, rfl, _, rfl, _, _, _, _, rfl, rfl, hb.sq, rfl, _, _, rfl, rfl, mulx_of (nat_abs_lt za.2) (nat_abs_lt zb.2) (by decide), ?_⟩
  have e := Rat.sub_def' p q
  refine ⟨_, _, rfl, _, p.den * q.den, rfl, congrArg V.int (Int.natCast_mul _ _).symm, Nat.mul_ne_zero p.den_nz q.den_nz, by rw [← e]; exact hz, ?_⟩
  rw [← e]
  exact k
/-! _law_product: slots 0:_law_one 1:_law_other -/
abbrev N__law_product : List Str := ["_law_one", "_law_other"]
theorem sc__law_product : FnScope N__law_product ["_law_one", "_law_other"] (defScope s__law_product) := ⟨rfl, rfl, rfl, by decide +kernel, rfl, by decide +kernel, by decide +kernel⟩
theorem ok__law_product (T : Txt K mg) : DOk P w K mg base "_law_product" ["_law_one", "_law_other"] 2 (spBin K (fun _ _ => True) (· * ·)) := by
  have G__law_frac := ok__law_frac (P := P) (w := w) (base := base) T
  refine T.d__law_product.ok sc__law_product sp2_len (fun f cdv A outer s H vs Q E hr h => ?_)
  refine ⟨_, (pss_one (ps_ret (pe_callD G__law_frac (hr.mono (by decide)) (pa_cons (pe_op op_mulX (pe_ix (ixT K) (pv 0) pe_int (fun _ _ => rfl)) (pe_ix (ixT K) (pv 1) pe_int (fun _ _ => rfl))) (pa_cons (pe_op op_mulX (pe_ix (ixT K) (pv 0) pe_int (fun _ _ => rfl)) (pe_ix (ixT K) (pv 1) pe_int (fun _ _ => rfl))) pa_nil))))), ?_⟩
  obtain ⟨_, _, rfl, p, q, ⟨a, rfl, ha, za⟩, ⟨b, rfl, hb, zb⟩, _, hz, k⟩ := h
  refine ⟨_, rfl, _, _, _, _, rfl, rfl, ha.sq, rfl, _, rfl, _, _, _, _, rfl, rfl, hb.sq, rfl, _, _, rfl, rfl, mulx_of za.1 zb.1 (by decide), ?_⟩
  refine ⟨_, rfl, _, _, _, _, rfl, rfl, ha.sq, rfl, _, rfl, _, _, _, _, rfl, rfl, hb.sq, rfl, _, _, rfl, rfl, mulx_of (nat_abs_lt za.2) (nat_abs_lt zb.2) (by decide), ?_⟩
  have e := Rat.mul_def' p q
  refine ⟨_, _, rfl, _, p.den * q.den, rfl, congrArg V.int (Int.natCast_mul _ _).symm, Nat.mul_ne_zero p.den_nz q.den_nz, by rw [← e]; exact hz, ?_⟩
  rw [← e]
  exact k
/-! _law_over: slots 0:_law_one 1:_law_other -/
abbrev N__law_over : List Str := ["_law_one", "_law_other"]
theorem sc__law_over : FnScope N__law_over ["_law_one", "_law_other"] (defScope s__law_over) := ⟨rfl, rfl, rfl, by decide +kernel, rfl, by decide +kernel, by decide +kernel⟩
theorem ok__law_over (T : Txt K mg) : DOk P w K mg base "_law_over" ["_law_one", "_law_other"] 2 (spBin K (fun _ q => 0 < q) (· / ·)) := by
  have G__law_frac := ok__law_frac (P := P) (w := w) (base := base) T
  refine T.d__law_over.ok sc__law_over sp2_len (fun f cdv A outer s H vs Q E hr h => ?_)
  refine ⟨_, (pss_one (ps_ret (pe_callD G__law_frac (hr.mono (by decide)) (pa_cons (pe_op op_mulX (pe_ix (ixT K) (pv 0) pe_int (fun _ _ => rfl)) (pe_ix (ixT K) (pv 1) pe_int (fun _ _ => rfl))) (pa_cons (pe_op op_mulX (pe_ix (ixT K) (pv 0) pe_int (fun _ _ => rfl)) (pe_ix (ixT K) (pv 1) pe_int (fun _ _ => rfl))) pa_nil))))), ?_⟩
  obtain ⟨_, _, rfl, p, q, ⟨a, rfl, ha, za⟩, ⟨b, rfl, hb, zb⟩, hq, hz, k⟩ := h
  refine ⟨_, rfl, _, _, _, _, rfl, rfl, ha.sq, rfl, _, rfl, _, _, _, _, rfl, rfl, hb.sq, rfl, _, _, rfl, rfl, mulx_of za.1 (nat_abs_lt zb.2) (by decide), ?_⟩
  refine ⟨_, rfl, _, _, _, _, rfl, rfl, ha.sq, rfl, _, rfl, _, _, _, _, rfl, rfl, hb.sq, rfl, _, _, rfl, rfl, mulx_of (nat_abs_lt za.2) zb.1 (by decide), ?_⟩
  have e := div_def' p q hq
  have hn := num_pos hq
  refine ⟨_, _, rfl, _, p.den * q.num.toNat, rfl, congrArg V.int ?_, Nat.mul_ne_zero p.den_nz (by omega), by rw [← e]; exact hz, ?_⟩
  · rw [Int.natCast_mul, Int.toNat_of_nonneg (by omega)]
  rw [← e]
  exact k
def sp__law_above (K : PySem.W.Frag) : Sp := sp2 fun a b H Q => ∃ p q : Rat, FrV K H a p ∧ FrV K H b q ∧ ∀ i : Int, (0 < i ↔ q < p) → (i < 0 ↔ p < q) → Q (.int i) H
/-! _law_above: slots 0:_law_one 1:_law_other -/
abbrev N__law_above : List Str := ["_law_one", "_law_other"]
theorem sc__law_above : FnScope N__law_above ["_law_one", "_law_other"] (defScope s__law_above) := ⟨rfl, rfl, rfl, by decide +kernel, rfl, by decide +kernel, by decide +kernel⟩
theorem ok__law_above (T : Txt K mg) : DOk P w K mg base "_law_above" ["_law_one", "_law_other"] 1 (sp__law_above K) := by
  refine T.d__law_above.ok sc__law_above sp2_len (fun f cdv A outer s H vs Q E hr h => ?_)
  refine ⟨_, (pss_one (ps_ret (pe_op op_sub (pe_op op_mulX (pe_ix (ixT K) (pv 0) pe_int (fun _ _ => rfl)) (pe_ix (ixT K) (pv 1) pe_int (fun _ _ => rfl))) (pe_op op_mulX (pe_ix (ixT K) (pv 1) pe_int (fun _ _ => rfl)) (pe_ix (ixT K) (pv 0) pe_int (fun _ _ => rfl)))))), ?_⟩
  obtain ⟨_, _, rfl, p, q, ⟨a, rfl, ha, za⟩, ⟨b, rfl, hb, zb⟩, k⟩ := h
  refine ⟨_, rfl, _, _, _, _, rfl, rfl, ha.sq, rfl, _, rfl, _, _, _, _, rfl, rfl, hb.sq, rfl, _, _, rfl, rfl, mulx_of za.1 (nat_abs_lt zb.2) (by decide), ?_⟩
  refine ⟨_, rfl, _, _, _, _, rfl, rfl, hb.sq, rfl, _, rfl, _, _, _, _, rfl, rfl, ha.sq, rfl, _, _, rfl, rfl, mulx_of zb.1 (nat_abs_lt za.2) (by decide), _, _, rfl, rfl, ?_⟩
  have h1 := cross_lt q p
  have h2 := cross_lt p q
  exact k _ ⟨fun h => h1.mp (by omega), fun h => by have := h1.mpr h; omega⟩ ⟨fun h => h2.mp (by omega), fun h => by have := h2.mpr h; omega⟩
/-! ### gains, muches, prices -/
/-- a fraction above 0, its numerator and denominator below 64 -/
def GainOk (q : Rat) : Prop := 0 < q ∧ Sz 6 q
theorem gain_mk {n d : Nat} (hn : 0 < n) (hn2 : n < 64) (hd : 0 < d) (hd2 : d < 64) : GainOk (mkRat n d) := by
  refine ⟨?_, Sz.mk (by omega) (by show n < 64; exact hn2) hd2⟩
  rw [Rat.mkRat_eq_div]
  have h1 : (0 : Rat) < ((n : Int) : Rat) := Rat.intCast_pos.mpr (by omega)
  have h2 : (0 : Rat) < (d : Rat) := Rat.natCast_pos.mpr hd
  rw [Rat.div_def]
  exact Rat.mul_pos h1 (Rat.inv_pos.mpr h2)
theorem gain_one : GainOk 1 := ⟨by decide, by decide, by decide⟩
theorem fr_new {H : Hp} {p : Addr} (n : Int) (d : Nat) (q : Rat) (e1 : q.num = n) (e2 : q.den = d) (hz : Sz 4000 q) : FrV K (upd H p (.tup [.int n, .int (d : Nat)])) (.ref p) q := by
  subst e1 e2
  exact ⟨p, rfl, .of upd_same, hz⟩
/-- what is asked by one who takes a fraction out of the box -/
def RetBx (K : PySem.W.Frag) (bx : Addr) (n m : Nat) (C : Rat → Prop) (H : Hp) (Q : VK) : Prop := ∀ v H' q, C q → But bx H H' → BoxV H' bx (n + m) → FrV K H' v q → Q v H'
def sp__law_any_gain (K : PySem.W.Frag) : Sp := sp1 fun a H Q => ∃ bx n, a = .ref bx ∧ BoxV H bx n ∧ n < 90000 ∧ RetBx K bx n 3 GainOk H Q
/-! _law_any_gain: slots 0:_law_box_here 1:_law_way 2:_law_top -/
abbrev N__law_any_gain : List Str := ["_law_box_here", "_law_way", "_law_top"]
theorem sc__law_any_gain : FnScope N__law_any_gain ["_law_box_here"] (defScope s__law_any_gain) := ⟨rfl, rfl, rfl, by decide +kernel, rfl, by decide +kernel, by decide +kernel⟩
theorem ok__law_any_gain (T : Txt K mg) : DOk P w K mg base "_law_any_gain" ["_law_box_here"] 2 (sp__law_any_gain K) := by
  have G__law_frac := ok__law_frac (P := P) (w := w) (base := base) T
  have G__law_take := ok__law_take (P := P) (w := w) (base := base) T
  refine T.d__law_any_gain.ok sc__law_any_gain sp1_len (fun f cdv A outer s H vs Q E hr h => ?_)
  refine ⟨_, (pss_cons (ps_set (i := 1) sc__law_any_gain.nd rfl (Or.inl rfl) (pe_callD G__law_take (hr.mono (by decide)) (pa_cons (pv 0) (pa_cons pe_int pa_nil))))
        (pss_cons (ps_if (pt_cmpR op_lt (pv 1) pe_int (nomark _)) (pss_one (ps_ret (pe_tup (pa_cons pe_int (pa_cons pe_int pa_nil))))) pss_nil)
        (pss_cons (ps_set (i := 2) sc__law_any_gain.nd rfl (Or.inl rfl) (pe_op op_add pe_int (pe_callD G__law_take (hr.mono (by decide)) (pa_cons (pv 0) (pa_cons (pe_ifExp (pt_cmpR op_eq (pv 1) pe_int (nomark _)) pe_int pe_int) pa_nil)))))
        (pss_one (ps_ret (pe_callD G__law_frac (hr.mono (by decide)) (pa_cons (pv 2) (pa_cons (pe_op op_add pe_int (pe_callD G__law_take (hr.mono (by decide)) (pa_cons (pv 0) (pa_cons (pe_ifExp (pt_cmpR op_eq (pv 1) pe_int (nomark _)) pe_int pe_int) pa_nil)))) pa_nil)))))))), ?_⟩
  obtain ⟨_, rfl, bx, n, rfl, hb, hn, k⟩ := h
  refine ⟨_, rfl, _, _, rfl, bx, 8, n, rfl, rfl, by decide, by decide, hb, by omega, fun r H1 hr8 b1 hb1 => ?_⟩
  refine ⟨_, rfl, _, _, rfl, rfl, _, rfl, ite2 (fun hc => ?_) (fun hc => ?_)⟩
  · refine ⟨by decide, fun p hp => ?_⟩
    exact k _ _ 1 gain_one (b1.ex (Ex.new hp)) ((hb1.ex (Ex.new hp)).mono (by omega)) (fr_new 1 1 1 rfl rfl (Sz.one.mono (by decide)))
  rcases Decidable.em (r = 7) with h7 | h7
  · have hd : decide (V.int (r : Nat) = V.int 7) = true := by simp [h7]
    refine ⟨_, rfl, _, rfl, rfl, _, rfl, ?_⟩
    rw [hd]
    refine iteT ⟨_, _, rfl, bx, 60, n + 1, rfl, rfl, by decide, by decide, hb1, by omega, fun r2 H2 hr2 b2 hb2 => ⟨_, _, rfl, rfl, ?_⟩⟩
    refine ⟨_, rfl, _, rfl, _, rfl, rfl, _, rfl, ?_⟩
    rw [hd]
    refine iteT ⟨_, _, rfl, bx, 60, n + 1 + 1, rfl, rfl, by decide, by decide, hb2, by omega, fun r3 H3 hr3 b3 hb3 => ⟨_, _, rfl, rfl, ?_⟩⟩
    have g := gain_mk (n := 1 + r2) (d := 1 + r3) (by omega) (by omega) (by omega) (by omega)
    exact ⟨_, _, rfl, ((1 + r2 : Nat) : Int), 1 + r3, rfl, rfl, by omega, g.2.mono (by decide), fun v H4 e4 h4 => k v H4 _ g (((b1.trans b2).trans b3).ex e4) (hb3.ex e4) h4⟩
  · have hd : decide (V.int (r : Nat) = V.int 7) = false := by
      refine decide_eq_false fun z => h7 ?_
      have := V.int.inj z
      omega
    refine ⟨_, rfl, _, rfl, rfl, _, rfl, ?_⟩
    rw [hd]
    refine iteF ⟨_, _, rfl, bx, 12, n + 1, rfl, rfl, by decide, by decide, hb1, by omega, fun r2 H2 hr2 b2 hb2 => ⟨_, _, rfl, rfl, ?_⟩⟩
    refine ⟨_, rfl, _, rfl, _, rfl, rfl, _, rfl, ?_⟩
    rw [hd]
    refine iteF ⟨_, _, rfl, bx, 12, n + 1 + 1, rfl, rfl, by decide, by decide, hb2, by omega, fun r3 H3 hr3 b3 hb3 => ⟨_, _, rfl, rfl, ?_⟩⟩
    have g := gain_mk (n := 1 + r2) (d := 1 + r3) (by omega) (by omega) (by omega) (by omega)
    exact ⟨_, _, rfl, ((1 + r2 : Nat) : Int), 1 + r3, rfl, rfl, by omega, g.2.mono (by decide), fun v H4 e4 h4 => k v H4 _ g (((b1.trans b2).trans b3).ex e4) (hb3.ex e4) h4⟩
/-- what a tie may carry at most -/
def MostOk (q : Rat) : Prop := 0 ≤ q ∧ q ≤ 2 ^ 20 ∧ Wh 42 q
theorem most_mk {n d : Nat} (hn : n ≤ 1000000) (hd : d ∣ 42) : MostOk (mkRat n d) := by
  have h0 : d ≠ 0 := fun z => by subst z; exact absurd hd (by decide)
  have hp : (0 : Rat) < (d : Rat) := Rat.natCast_pos.mpr (Nat.pos_of_ne_zero h0)
  have hd1 : (1 : Rat) ≤ (d : Rat) := by
    have : ((1 : Nat) : Rat) ≤ (d : Rat) := Rat.natCast_le_natCast.mpr (Nat.pos_of_ne_zero h0)
    exact this
  have hnr : (0 : Rat) ≤ ((n : Int) : Rat) := by rw [Rat.intCast_natCast]; exact Rat.natCast_nonneg
  have hi : (0 : Rat) < (d : Rat)⁻¹ := Rat.inv_pos.mpr hp
  have e : mkRat n d = ((n : Int) : Rat) * (d : Rat)⁻¹ := by rw [Rat.mkRat_eq_div, Rat.div_def]
  have hn20 : ((n : Int) : Rat) ≤ 2 ^ 20 := by
    have h : ((n : Int) : Rat) ≤ ((1000000 : Int) : Rat) := Rat.intCast_le_intCast.mpr (by omega)
    have : ((1000000 : Int) : Rat) ≤ 2 ^ 20 := by decide +kernel
    exact Rat.le_trans h this
  refine ⟨by rw [e]; exact Rat.mul_nonneg hnr (Rat.le_of_lt hi), ?_, ?_⟩
  · have h1 : mkRat n d * (d : Rat) = ((n : Int) : Rat) := by
      rw [e, Rat.mul_assoc, Rat.inv_mul_cancel _ (fun z => by rw [z] at hp; exact absurd hp (by decide)), Rat.mul_one]
    have hq : 0 ≤ mkRat n d := by rw [e]; exact Rat.mul_nonneg hnr (Rat.le_of_lt hi)
    have h2 : mkRat n d * 1 ≤ mkRat n d * (d : Rat) := Rat.mul_le_mul_of_nonneg_left hd1 hq
    rw [Rat.mul_one, h1] at h2
    exact Rat.le_trans h2 hn20
  · exact (Wh.den (mkRat n d)).dvd (Nat.dvd_trans (mkRat_den_dvd n h0) hd)
theorem most_sz {n d : Nat} (hn : n ≤ 1000000) (hd : d ∣ 42) : Sz 4000 (mkRat n d) := by
  have h0 : d ≠ 0 := fun z => by subst z; exact absurd hd (by decide)
  have := Nat.le_of_dvd (by decide) hd
  exact (Sz.mk (a := 20) h0 (by show n < 2 ^ 20; omega) (by omega)).mono (by decide)
def sp__law_any_much (K : PySem.W.Frag) : Sp := sp1 fun a H Q => ∃ bx n, a = .ref bx ∧ BoxV H bx n ∧ n < 90000 ∧ RetBx K bx n 2 MostOk H Q
/-! _law_any_much: slots 0:_law_box_here 1:_law_way -/
abbrev N__law_any_much : List Str := ["_law_box_here", "_law_way"]
theorem sc__law_any_much : FnScope N__law_any_much ["_law_box_here"] (defScope s__law_any_much) := ⟨rfl, rfl, rfl, by decide +kernel, rfl, by decide +kernel, by decide +kernel⟩
theorem ok__law_any_much (T : Txt K mg) : DOk P w K mg base "_law_any_much" ["_law_box_here"] 2 (sp__law_any_much K) := by
  have G__law_frac := ok__law_frac (P := P) (w := w) (base := base) T
  have G__law_take := ok__law_take (P := P) (w := w) (base := base) T
  refine T.d__law_any_much.ok sc__law_any_much sp1_len (fun f cdv A outer s H vs Q E hr h => ?_)
  refine ⟨_, (pss_cons (ps_set (i := 1) sc__law_any_much.nd rfl (Or.inl rfl) (pe_callD G__law_take (hr.mono (by decide)) (pa_cons (pv 0) (pa_cons pe_int pa_nil))))
        (pss_cons (ps_if (pt_cmpR op_eq (pv 1) pe_int (nomark _)) (pss_one (ps_ret (pe_tup (pa_cons pe_int (pa_cons pe_int pa_nil))))) pss_nil)
        (pss_cons (ps_if (pt_cmpR op_eq (pv 1) pe_int (nomark _)) (pss_one (ps_ret (pe_tup (pa_cons (pe_op op_pow pe_int pe_int) (pa_cons pe_int pa_nil))))) pss_nil)
        (pss_one (ps_ret (pe_callD G__law_frac (hr.mono (by decide)) (pa_cons (pe_op op_add pe_int (pe_callD G__law_take (hr.mono (by decide)) (pa_cons (pv 0) (pa_cons pe_int pa_nil)))) (pa_cons (pe_ix (ixL K) (pe_lst (pa_cons pe_int (pa_cons pe_int (pa_cons pe_int (pa_cons pe_int (pa_cons pe_int (pa_cons pe_int pa_nil))))))) (pe_op op_sub (pv 1) pe_int) (fun _ _ => rfl)) pa_nil)))))))), ?_⟩
  obtain ⟨_, rfl, bx, n, rfl, hb, hn, k⟩ := h
  refine ⟨_, rfl, _, _, rfl, bx, 8, n, rfl, rfl, by decide, by decide, hb, by omega, fun r H1 hr8 b1 hb1 => ?_⟩
  have m0 : MostOk 0 := by have := most_mk (n := 0) (d := 1) (by decide) (by decide); exact this
  have m1 : MostOk 1000000 := by have := most_mk (n := 1000000) (d := 1) (by decide) (by decide); exact this
  refine ⟨_, rfl, rfl, _, rfl, ite2 (fun hc => ?_) (fun hc => ?_)⟩
  · refine ⟨by decide, fun p hp => ?_⟩
    exact k _ _ 0 m0 (b1.ex (Ex.new hp)) ((hb1.ex (Ex.new hp)).mono (by omega)) (fr_new 0 1 0 rfl rfl (Sz.zero.mono (by decide)))
  refine ⟨_, rfl, rfl, _, rfl, ite2 (fun hc2 => ?_) (fun hc2 => ?_)⟩
  · refine ⟨_, _, rfl, rfl, ⟨by decide, by decide, by decide⟩, by decide, fun p hp => ?_⟩
    exact k _ _ 1000000 m1 (b1.ex (Ex.new hp)) ((hb1.ex (Ex.new hp)).mono (by omega)) (fr_new 1000000 1 1000000 rfl rfl (by have := most_sz (n := 1000000) (d := 1) (by decide) (by decide); exact this))
  have hr2 : 2 ≤ r := by
    have h0 : r ≠ 0 := fun z => hc (by subst z; rfl)
    have h1 : r ≠ 1 := fun z => hc2 (by subst z; rfl)
    omega
  refine ⟨_, rfl, _, _, rfl, bx, 12, n + 1, rfl, rfl, by decide, by decide, hb1, by omega, fun r2 H2 hr2 b2 hb2 => ⟨_, _, rfl, rfl, smallE (by simp), fun p hp => ?_⟩⟩
  have e2 : Ex H2 (upd H2 p (.lst [.int 1, .int 1, .int 1, .int 2, .int 3, .int 7])) := Ex.new hp
  obtain ⟨d, hd, hd42⟩ : ∃ d : Nat, [V.int 1, .int 1, .int 1, .int 2, .int 3, .int 7][r - 2]? = some (.int d) ∧ d ∣ 42 := by
    obtain ⟨j, hj, rfl⟩ : ∃ j, j < 6 ∧ r = j + 2 := ⟨r - 2, by omega, by omega⟩
    rw [show j + 2 - 2 = j from rfl]
    match j, hj with
    | 0, _ => exact ⟨1, rfl, by decide⟩
    | 1, _ => exact ⟨1, rfl, by decide⟩
    | 2, _ => exact ⟨1, rfl, by decide⟩
    | 3, _ => exact ⟨2, rfl, by decide⟩
    | 4, _ => exact ⟨3, rfl, by decide⟩
    | 5, _ => exact ⟨7, rfl, by decide⟩
  have hm := most_mk (n := 1 + r2) (d := d) (by omega) hd42
  have hat : atI [V.int 1, .int 1, .int 1, .int 2, .int 3, .int 7] ((r : Int) - 2) = some (.int d) := by
    have : (r : Int) - 2 = ((r - 2 : Nat) : Int) := by omega
    rw [this]
    exact atI_nat hd
  refine ⟨_, rfl, _, _, rfl, rfl, p, _, _, .int d, rfl, rfl, SqL.of upd_same, hat, _, _, rfl, ((1 + r2 : Nat) : Int), d, rfl, rfl, fun z => by subst z; exact absurd hd42 (by decide), most_sz (by omega) hd42, fun v H4 e4 h4 => ?_⟩
  exact k v H4 _ hm ((b1.trans b2).ex (e2.trans e4)) (hb2.ex (e2.trans e4)) h4
def sp__law_any_price (K : PySem.W.Frag) : Sp := sp1 fun a H Q => ∃ bx n, a = .ref bx ∧ BoxV H bx n ∧ n < 90000 ∧ RetBx K bx n 2 (fun _ => True) H Q
/-! _law_any_price: slots 0:_law_box_here 1:_law_way -/
abbrev N__law_any_price : List Str := ["_law_box_here", "_law_way"]
theorem sc__law_any_price : FnScope N__law_any_price ["_law_box_here"] (defScope s__law_any_price) := ⟨rfl, rfl, rfl, by decide +kernel, rfl, by decide +kernel, by decide +kernel⟩
theorem ok__law_any_price (T : Txt K mg) : DOk P w K mg base "_law_any_price" ["_law_box_here"] 2 (sp__law_any_price K) := by
  have G__law_frac := ok__law_frac (P := P) (w := w) (base := base) T
  have G__law_take := ok__law_take (P := P) (w := w) (base := base) T
  refine T.d__law_any_price.ok sc__law_any_price sp1_len (fun f cdv A outer s H vs Q E hr h => ?_)
  refine ⟨_, (pss_cons (ps_set (i := 1) sc__law_any_price.nd rfl (Or.inl rfl) (pe_callD G__law_take (hr.mono (by decide)) (pa_cons (pv 0) (pa_cons pe_int pa_nil))))
        (pss_one (ps_ret (pe_ifExp (pt_cmpR op_eq (pv 1) pe_int (nomark _)) (pe_tup (pa_cons pe_int (pa_cons pe_int pa_nil))) (pe_callD G__law_frac (hr.mono (by decide)) (pa_cons (pe_callD G__law_take (hr.mono (by decide)) (pa_cons (pv 0) (pa_cons pe_int pa_nil))) (pa_cons (pe_ix (ixL K) (pe_lst (pa_cons pe_int (pa_cons pe_int (pa_cons pe_int pa_nil)))) (pe_op op_sub (pv 1) pe_int) (fun _ _ => rfl)) pa_nil))))))), ?_⟩
  obtain ⟨_, rfl, bx, n, rfl, hb, hn, k⟩ := h
  refine ⟨_, rfl, _, _, rfl, bx, 4, n, rfl, rfl, by decide, by decide, hb, by omega, fun r H1 hr4 b1 hb1 => ?_⟩
  refine ⟨_, rfl, rfl, _, rfl, ite2 (fun hc => ?_) (fun hc => ?_)⟩
  · refine ⟨by decide, fun p hp => ?_⟩
    exact k _ _ 0 trivial (b1.ex (Ex.new hp)) ((hb1.ex (Ex.new hp)).mono (by omega)) (fr_new 0 1 0 rfl rfl (Sz.zero.mono (by decide)))
  have hr1 : 1 ≤ r := by
    have h0 : r ≠ 0 := fun z => hc (by subst z; rfl)
    omega
  refine ⟨_, rfl, _, _, rfl, bx, 20, n + 1, rfl, rfl, by decide, by decide, hb1, by omega, fun r2 H2 hr2 b2 hb2 => ⟨smallE (by simp), fun p hp => ?_⟩⟩
  have e2 : Ex H2 (upd H2 p (.lst [.int 1, .int 1, .int 6])) := Ex.new hp
  obtain ⟨d, hd, hd42⟩ : ∃ d : Nat, [V.int 1, .int 1, .int 6][r - 1]? = some (.int d) ∧ d ∣ 42 := by
    obtain ⟨j, hj, rfl⟩ : ∃ j, j < 3 ∧ r = j + 1 := ⟨r - 1, by omega, by omega⟩
    rw [show j + 1 - 1 = j from rfl]
    match j, hj with
    | 0, _ => exact ⟨1, rfl, by decide⟩
    | 1, _ => exact ⟨1, rfl, by decide⟩
    | 2, _ => exact ⟨6, rfl, by decide⟩
  have hat : atI [V.int 1, .int 1, .int 6] ((r : Int) - 1) = some (.int d) := by
    have : (r : Int) - 1 = ((r - 1 : Nat) : Int) := by omega
    rw [this]
    exact atI_nat hd
  refine ⟨_, rfl, _, _, rfl, rfl, p, _, _, .int d, rfl, rfl, SqL.of upd_same, hat, _, _, rfl, (r2 : Int), d, rfl, rfl, fun z => by subst z; exact absurd hd42 (by decide), most_sz (by omega) hd42, fun v H4 e4 h4 => ?_⟩
  exact k v H4 _ trivial ((b1.trans b2).ex (e2.trans e4)) (hb2.ex (e2.trans e4)) h4
end
end GW
set_option Elab.async false
set_option linter.all false
set_option maxRecDepth 100000
set_option maxHeartbeats 4000000
/-! LC: cells folded, names -/
namespace GW
open PySem PySem.Spec PyProof.Rows L2 GM
section
variable {P : Program} {w : World} {K : PySem.W.Frag} {mg : Str → Option Value} {base : Heap}
theorem cut_mid (cs : List Int) (a b : Nat) : ∃ ds : List Int, cutV (cs.map V.int) (some (a : Int)) (some (b : Int)) = ds.map V.int ∧ ds.length ≤ cs.length - a := by
  unfold cutV
  rw [HT.sIx_nat, HT.sIx_nat]
  refine ⟨(cs.drop (min a (cs.map V.int).length)).take (min b (cs.map V.int).length - min a (cs.map V.int).length), ?_, ?_⟩
  · rw [List.map_take, List.map_drop]
  · rw [List.length_take, List.length_drop, List.length_map]
    omega
def sp__law_folded (K : PySem.W.Frag) : Sp := sp2 fun a b H Q => ∃ (sa : Addr) (cs : List Int), a = .ref sa ∧ b = .int 2 ∧ SqL K H sa (cs.map V.int) ∧ (∀ H', Ex H H' → SqL K H' sa (cs.map V.int)) ∧ cs.length ≤ 1000 ∧ ∀ p H' (ds : List Int), H p = none → Ex H H' → H' p = some (.lst (ds.map V.int)) → ds.length ≤ 2 → Q (.ref p) H'
/-! _law_folded: slots 0:_law_script 1:_law_many 2:_law_cells 3:_law_k 4:_law_cell -/
abbrev N__law_folded : List Str := ["_law_script", "_law_many", "_law_cells", "_law_k", "_law_cell"]
theorem sc__law_folded : FnScope N__law_folded ["_law_script", "_law_many"] (defScope s__law_folded) := ⟨rfl, rfl, rfl, by decide +kernel, rfl, by decide +kernel, by decide +kernel⟩
theorem ok__law_folded (T : Txt K mg) : DOk P w K mg base "_law_folded" ["_law_script", "_law_many"] 1 (sp__law_folded K) := by
  refine T.d__law_folded.ok sc__law_folded sp2_len (fun f cdv A outer s H vs Q E hr h => ?_)
  refine ⟨_, (pss_cons (ps_set (i := 2) sc__law_folded.nd rfl (Or.inl rfl) (pe_callTy call_list_of (by rfl) T.n_list (by decide +kernel) (pa_cons (pe_slice (slL K) (pv 0) po_none (po_some (pv 1))) pa_nil)))
        (pss_cons (ps_for PassesOwn.never rfl (pi_enum (by rfl) T.n_enumerate (pa_cons (pe_slice (slL K) (pv 0) (po_some (pv 1)) (po_some pe_int)) pa_nil)) (pgT K 2 rfl (pgs_cons (pg_name (i := 3) sc__law_folded.nd rfl (Or.inl rfl)) (pgs_cons (pg_name (i := 4) sc__law_folded.nd rfl (Or.inl rfl)) pgs_nil))) (pss_one (ps_asg (pe_op op_add (pe_ix (ixL K) (pv 2) (pe_op op_mod (pv 3) (pv 1)) (fun _ _ => rfl)) (pe_op op_mul (pv 4) (pe_op op_add (pv 3) pe_int))) (pg_sub (pv 2) (pe_op op_mod (pv 3) (pv 1)) set_list))))
        (pss_one (ps_ret (pv 2))))), ?_⟩
  obtain ⟨_, _, rfl, sa, cs, rfl, rfl, hs, hsE, hl, k⟩ := h
  refine ⟨_, rfl, _, rfl, _, rfl, sa, _, rfl, hs, fun p hp => ?_⟩
  have e1 : Ex H (upd H p (.lst (cutV (cs.map V.int) none (some (2 : Int))))) := Ex.new hp
  have ec : cutV (cs.map V.int) none (some (2 : Int)) = (cs.take 2).map V.int := by
    have := cut_to (cs.map V.int) 2
    rw [List.map_take]
    exact this
  rw [ec] at e1 ⊢
  refine ⟨p, _, rfl, .inl (SqL.of upd_same), fun q hq => ?_⟩
  have e2 : Ex H (upd (upd H p (.lst ((cs.take 2).map V.int))) q (.lst ((cs.take 2).map V.int))) := e1.trans (Ex.new hq)
  refine ⟨_, rfl, _, rfl, _, rfl, _, rfl, sa, _, rfl, hsE _ e2, fun t ht => ?_⟩
  obtain ⟨ds, hds, hdl⟩ := cut_mid cs 2 63
  have hds' : cutV (cs.map V.int) (some ((2 : Nat) : Int)) (some ((63 : Nat) : Int)) = ds.map V.int := hds
  have e3 : Ex (upd (upd H p (.lst ((cs.take 2).map V.int))) q (.lst ((cs.take 2).map V.int))) (upd (upd (upd H p (.lst ((cs.take 2).map V.int))) q (.lst ((cs.take 2).map V.int))) t (.lst (ds.map V.int))) := Ex.new ht
  have hq0 : H q = none := e1.back hq
  have ht0 : H t = none := e2.back ht
  have htq : t ≠ q := (ne_of_none upd_same ht).symm
  rw [show (cutV (cs.map V.int) (some 2) (some 63)) = ds.map V.int from hds']
  refine ⟨t, _, rfl, SqL.of upd_same, for_it walk_en (fun i σ H' => ∃ (x3 x4 : Option V) (fs : List Int), σ = [some (.ref sa), some (.int 2), some (.ref q), x3, x4] ∧ Ex H H' ∧ H' t = some (.lst (ds.map V.int)) ∧ H' q = some (.lst (fs.map V.int)) ∧ fs.length = min 2 cs.length)
    ⟨none, none, cs.take 2, rfl, e2.trans e3, upd_same, e3 _ _ upd_same, by simp⟩ (fun i σ H' _ ⟨_, _, _, _, _, h, _⟩ => SqL.of h) ?_ ?_⟩
  · rintro i y σ H' H2 hi ⟨x3, x4, fs, rfl, e, ht', hq', hfl⟩ ⟨Tu, v, rfl, hTu, rfl, hv⟩
    have hil : i < ds.length := by simpa using hi
    rw [List.getElem?_map, List.getElem?_eq_getElem hil] at hv
    cases hv
    have e4 : Ex H' (upd H' Tu (.tup [.int (i : Nat), .int ds[i]])) := Ex.new hTu
    refine ⟨Tu, _, rfl, SqT.of upd_same, rfl, _, _, rfl, _, _, rfl, rfl, ?_⟩
    have h2 : 2 < cs.length := by omega
    have hfl2 : fs.length = 2 := by omega
    have hmod : ((i : Int) % 2) = ((i % 2 : Nat) : Int) := by omega
    have hlt : i % 2 < fs.length := by omega
    have hfi : (fs.map V.int)[i % 2]? = some (.int fs[i % 2]) := by rw [List.getElem?_map, List.getElem?_eq_getElem hlt]; rfl
    have hq2 := e4 _ _ hq'
    have hi64 : -(2 ^ 64) < ((i : Int) + 2) ∧ ((i : Int) + 2) < 2 ^ 64 := by omega
    refine ⟨_, rfl, _, rfl, _, rfl, _, _, rfl, rfl, (by decide : (0 : Int) < 2), q, _, _, .int fs[i % 2], rfl, rfl, SqL.of hq2, ?_, ?_⟩
    · rw [hmod]
      exact atI_nat hfi
    refine ⟨_, rfl, _, rfl, _, _, rfl, rfl, _, _, rfl, rfl, .inr hi64, _, _, rfl, rfl, ?_⟩
    refine ⟨_, rfl, _, rfl, _, rfl, _, _, rfl, rfl, (by decide : (0 : Int) < 2), q, _, _, i % 2, rfl, rfl, hq2, ?_, ?_⟩
    · rw [hmod]
      exact Evl.ixN_nat (by simpa using hlt)
    refine ⟨_, _, fs.set (i % 2) (fs[i % 2] + ds[i] * ((i : Int) + 2)), rfl, (e.trans e4).upd_new hq0, ?_, ?_, by simpa using hfl⟩
    · rw [upd_ne htq]
      exact e4 _ _ ht'
    · rw [upd_same, List.map_set]
  · rintro σ H' ⟨x3, x4, fs, rfl, e, ht', hq', hfl⟩
    exact ⟨_, rfl, k q H' fs hq0 e hq' (by omega)⟩
end
end GW
set_option Elab.async false
set_option linter.all false
set_option maxRecDepth 100000
set_option maxHeartbeats 4000000
/-! LD: names -/
namespace GW
open PySem PySem.Spec PyProof.Rows L2 GM
theorem But.back {D p : Addr} {H H' : Hp} (b : But D H H') (hp : p ≠ D) (h : H' p = none) : H p = none := by
  cases e : H p with
  | none => rfl
  | some o => rw [b p o hp e] at h; cases h
theorem But.upd {D p : Addr} {H H' : Hp} {o : HO} (b : But D H H') (h : H p = none) : But D H (upd H' p o) := fun c o' hc hh => by
  rw [L2.upd_ne (ne_of_none hh h)]
  exact b c o' hc hh
theorem BoxV.ne {H : Hp} {bx p : Addr} {n : Nat} (h : BoxV H bx n) (hp : H p = none) : p ≠ bx := by
  obtain ⟨x, y, z, q, _⟩ := h
  exact (ne_of_none q hp).symm
theorem BoxV.upd {H : Hp} {bx p : Addr} {n : Nat} {o : HO} (h : BoxV H bx n) (hp : p ≠ bx) : BoxV (upd H p o) bx n := by
  obtain ⟨x, y, z, q, r⟩ := h
  exact ⟨x, y, z, by rw [L2.upd_ne hp.symm]; exact q, r⟩
def nameA (s o : Str) (k : Nat) : Str := if k < 8 then repS s (k + 1) else repS o (k - 7) ++ s
def nameB (f : Nat) (B : Str) (k : Nat) : Str := (⟨#[97 + (f + 11 * k) % 26]⟩ : Str) ++ B
theorem namesA1 : ((List.range 10).map (nameA "a" "z")).Nodup := by decide +kernel
theorem namesA2 : ((List.range 10).map (nameA "z" "a")).Nodup := by decide +kernel
theorem range_take {m n : Nat} (h : m ≤ n) : (List.range n).take m = List.range m := by
  rw [List.take_range, Nat.min_eq_left h]
theorem namesA_nd {s o : Str} (h : ((List.range 10).map (nameA s o)).Nodup) {m : Nat} (hm : m ≤ 10) : ((List.range m).map (nameA s o)).Nodup := by
  rw [← range_take hm, List.map_take]
  exact h.sublist (List.take_sublist _ _)
theorem namesB_nd (f : Nat) (B : Str) {m : Nat} (hm : m ≤ 10) : ((List.range m).map (nameB f B)).Nodup := by
  refine List.pairwise_map.mpr (List.Pairwise.imp_of_mem (fun {a b} ha hb hab q => hab ?_) List.nodup_range)
  have h1 := List.mem_range.mp ha
  have h2 := List.mem_range.mp hb
  have q1 : (#[97 + (f + 11 * a) % 26] ++ B.cps)[0]? = (#[97 + (f + 11 * b) % 26] ++ B.cps)[0]? := by
    have := congrArg Str.cps q
    exact congrArg (·[0]?) this
  have q2 : 97 + (f + 11 * a) % 26 = 97 + (f + 11 * b) % 26 := by simpa [Array.getElem?_append] using q1
  omega
section
variable {P : Program} {w : World} {K : PySem.W.Frag} {mg : Str → Option Value} {base : Heap}
theorem letter_at {i : Nat} (h : i < 26) : atI ((PySem.Str.ofString "abcdefghijklmnopqrstuvwxyz").cps.toList) (i : Int) = some (97 + i) := by
  refine atI_nat ?_
  have all : ∀ j : Fin 26, (PySem.Str.ofString "abcdefghijklmnopqrstuvwxyz").cps.toList[j.val]? = some (97 + j.val) := by decide +kernel
  exact all ⟨i, h⟩
def sp__law_names_by (K : PySem.W.Frag) : Sp := sp2 fun a b H Q => ∃ (bx : Addr) (m n : Nat), a = .ref bx ∧ b = .int m ∧ 2 ≤ m ∧ m ≤ 10 ∧ BoxV H bx n ∧ n < 80000 ∧
  ∀ t H' (ns : List Str), But bx H H' → BoxV H' bx (n + 20) → H' t = some (.tup (ns.map V.str)) → ns.Nodup → ns.length = m → Q (.ref t) H'
/-! _law_names_by: slots 0:_law_box_here 1:_law_many 2:_law_letters 3:_law_first 4:_law_rest 5:_law_behind 6:_law_sign 7:_law_other 8:_law_k -/
abbrev N__law_names_by : List Str := ["_law_box_here", "_law_many", "_law_letters", "_law_first", "_law_rest", "_law_behind", "_law_sign", "_law_other", "_law_k"]
theorem sc__law_names_by : FnScope N__law_names_by ["_law_box_here", "_law_many"] (defScope s__law_names_by) := ⟨rfl, rfl, rfl, by decide +kernel, rfl, by decide +kernel, by decide +kernel⟩
theorem ok__law_names_by (T : Txt K mg) : DOk P w K mg base "_law_names_by" ["_law_box_here", "_law_many"] 2 (sp__law_names_by K) := by
  have G__law_take := ok__law_take (P := P) (w := w) (base := base) T
  refine T.d__law_names_by.ok sc__law_names_by sp2_len (fun f cdv A outer s H vs Q E hr h => ?_)
  refine ⟨_, (pss_cons (ps_asg (pe_tup (pa_cons pe_str (pa_cons (pe_callD G__law_take (hr.mono (by decide)) (pa_cons (pv 0) (pa_cons pe_int pa_nil))) (pa_cons (pe_callD G__law_take (hr.mono (by decide)) (pa_cons (pv 0) (pa_cons pe_int pa_nil))) pa_nil)))) (pgT K 3 rfl (pgs_cons (pg_name (i := 2) sc__law_names_by.nd rfl (Or.inr rfl)) (pgs_cons (pg_name (i := 3) sc__law_names_by.nd rfl (Or.inr rfl)) (pgs_cons (pg_name (i := 4) sc__law_names_by.nd rfl (Or.inl rfl)) pgs_nil)))))
        (pss_cons (ps_set (i := 5) sc__law_names_by.nd rfl (Or.inr rfl) (pe_join pe_str (pe_lc (own := [("_law_k", 8)]) (g := gName 8) (tt := tYes) (by rfl) sc__law_names_by.nd (pi_range1 (by rfl) T.n_range (pa_cons (pv 4) pa_nil)) (blkOk_by (N := N__law_names_by) (sc := defScope s__law_names_by) (own := [("_law_k", 8)]) (by decide +kernel)) (fun _ _ _ _ _ => (pg_name (i := 8) sc__law_names_by.nd rfl (Or.inl rfl))) (fun _ _ _ _ _ => pts_nil) (fun _ _ _ _ _ => (pe_ix ix_str (pv 2) (pe_callD G__law_take (hr.mono (by decide)) (pa_cons (pv 0) (pa_cons pe_int pa_nil))) (fun _ _ => rfl))))))
        (pss_cons (ps_if (pt_cmpR op_eq (pe_callD G__law_take (hr.mono (by decide)) (pa_cons (pv 0) (pa_cons pe_int pa_nil))) pe_int (nomark _)) (pss_cons (ps_asg (pe_ix (ixL K) (pe_lst (pa_cons (pe_tup (pa_cons pe_str (pa_cons pe_str pa_nil))) (pa_cons (pe_tup (pa_cons pe_str (pa_cons pe_str pa_nil))) pa_nil))) (pe_callTy call_int1 (by rfl) T.n_int (by decide +kernel) (pa_cons (pe_cmpR op_eq (pv 3) pe_int (nomark _)) pa_nil)) (fun _ _ => rfl)) (pgT K 2 rfl (pgs_cons (pg_name (i := 6) sc__law_names_by.nd rfl (Or.inr rfl)) (pgs_cons (pg_name (i := 7) sc__law_names_by.nd rfl (Or.inr rfl)) pgs_nil))))
        (pss_one (ps_ret (pe_callTy call_tuple_of (by rfl) T.n_tuple (by decide +kernel) (pa_cons (pe_lc (own := [("_law_k", 8)]) (g := gName 8) (tt := tYes) (by rfl) sc__law_names_by.nd (pi_range1 (by rfl) T.n_range (pa_cons (pv 1) pa_nil)) (blkOk_by (N := N__law_names_by) (sc := defScope s__law_names_by) (own := [("_law_k", 8)]) (by decide +kernel)) (fun _ _ _ _ _ => (pg_name (i := 8) sc__law_names_by.nd rfl (Or.inl rfl))) (fun _ _ _ _ _ => pts_nil) (fun _ _ _ _ _ => (pe_ifExp (pt_cmpR op_lt (pv 8) pe_int (nomark _)) (pe_op op_mul_str (pv 6) (pe_op op_add (pv 8) pe_int)) (pe_op op_add_str (pe_op op_mul_str (pv 7) (pe_op op_sub (pv 8) pe_int)) (pv 6))))) pa_nil))))) pss_nil)
        (pss_one (ps_ret (pe_callTy call_tuple_of (by rfl) T.n_tuple (by decide +kernel) (pa_cons (pe_lc (own := [("_law_k", 8)]) (g := gName 8) (tt := tYes) (by rfl) sc__law_names_by.nd (pi_range1 (by rfl) T.n_range (pa_cons (pv 1) pa_nil)) (blkOk_by (N := N__law_names_by) (sc := defScope s__law_names_by) (own := [("_law_k", 8)]) (by decide +kernel)) (fun _ _ _ _ _ => (pg_name (i := 8) sc__law_names_by.nd rfl (Or.inl rfl))) (fun _ _ _ _ _ => pts_nil) (fun _ _ _ _ _ => (pe_op op_add_str (pe_ix ix_str (pv 2) (pe_op op_mod (pe_op op_add (pv 3) (pe_op op_mulX pe_int (pv 8))) pe_int) (fun _ _ => rfl)) (pv 5)))) pa_nil))))))), ?_⟩
  obtain ⟨_, _, rfl, bx, m, n, rfl, rfl, m2, m10, hb, hn, k⟩ := h
  refine ⟨_, rfl, _, _, rfl, bx, 26, n, rfl, rfl, by decide, by decide, hb, by omega, fun r1 H1 hr1 b1 hb1 => ?_⟩
  refine ⟨_, rfl, _, _, rfl, bx, 8, n + 1, rfl, rfl, by decide, by decide, hb1, by omega, fun r2 H2 hr2 b2 hb2 => ?_⟩
  refine ⟨smallE (by simp), fun t ht => ⟨t, _, rfl, SqT.of upd_same, rfl, _, _, rfl, _, _, rfl, _, _, rfl, rfl, ?_⟩⟩
  have e2 : Ex H2 (upd H2 t (.tup [.str "abcdefghijklmnopqrstuvwxyz", .int r1, .int r2])) := Ex.new ht
  have b02 := (b1.trans b2).ex e2
  have hb3 := hb2.ex e2
  -- behind
  refine ⟨⟨_, rfl⟩, _, rfl, (r2 : Int), rfl, by omega, by omega, fun D hD => ?_⟩
  have hDb : D ≠ bx := hb3.ne hD
  have hD0 : H D = none := b02.back hDb hD
  refine lc_range (D := D) (fun i H' => But bx H H' ∧ BoxV H' bx (n + 2 + i) ∧ ∃ ys : List Str, H' D = some (.lst (ys.map V.str)) ∧ ys.length = i ∧ ∀ y ∈ ys, y.length = 1) ⟨b02.ex (Ex.new hD), hb3.ex (Ex.new hD), [], upd_same, rfl, by simp⟩ ?_ ?_
  · rintro i H' hi ⟨c1, c2, ys, c3, c4, c5⟩
    refine ⟨rfl, _, rfl, _, rfl, _, _, rfl, bx, 26, n + 2 + i, rfl, rfl, by decide, by decide, c2, by omega, fun r H4 hr b4 hb4 => ?_⟩
    refine ⟨_, (r : Int), _, rfl, rfl, by decide, letter_at hr, _, b4 _ _ hDb c3, small (by simp; omega), ?_⟩
    refine ⟨(c1.trans b4).upd hD0, hb4.upd hDb, ys ++ [⟨#[97 + r]⟩], ?_, by simp [c4], ?_⟩
    · rw [upd_same, List.map_append]; rfl
    · intro y hy
      rcases List.mem_append.mp hy with q | q
      · exact c5 y q
      · rw [List.mem_singleton.mp q]; rfl
  rintro H3 ⟨c1, c2, ys, c3, c4, c5⟩
  have hsum : (ys.map (·.length)).sum = ys.length := by
    clear c3 c4
    induction ys with
    | nil => rfl
    | cons y ys ih =>
      rw [List.map_cons, List.sum_cons, ih (fun z hz => c5 z (by simp [hz])), c5 y (by simp)]
      simp
      omega
  refine ⟨_, D, ys, rfl, rfl, .inl (SqL.of c3), ?_, ?_⟩
  · rw [hsum, c4]
    show r2 + r2 * 0 ≤ 16777216
    omega
  generalize hB : Txt.join (Str.ofString "") ys = B
  have hBl : B.length ≤ 8 := by
    rw [← hB, TL.join_eq]
    have := StrLaws.join_length_le (Str.ofString "") ys
    rw [hsum, c4] at this
    have z : (Str.ofString "").length = 0 := by decide
    rw [z] at this
    omega
  refine ⟨_, rfl, _, _, rfl, bx, 4, n + 2 + r2, rfl, rfl, by decide, by decide, c2, by omega, fun r3 H4 hr3 b4 hb4 => ⟨rfl, _, rfl, ?_⟩⟩
  have b14 := c1.trans b4
  refine ite2 (fun hc => ?_) (fun hc => ?_)
  · rcases Decidable.em (r1 = 25) with h25 | h25
    · have hd : decide (V.int (r1 : Nat) = V.int 25) = true := by
        first
          | (refine decide_eq_true (congrArg V.int ?_); omega)
          | (refine decide_eq_false fun z => ?_; have := V.int.inj z; omega)
      refine ⟨smallE (by simp), fun p1 hp1 => ⟨smallE (by simp), fun p2 hp2 => ⟨smallE (by simp), fun p3 hp3 => ?_⟩⟩⟩
      have e1 : Ex H4 (upd H4 p1 (.tup [.str "a", .str "z"])) := Ex.new hp1
      have e2' : Ex (upd H4 p1 (.tup [.str "a", .str "z"])) (upd (upd H4 p1 (.tup [.str "a", .str "z"])) p2 (.tup [.str "z", .str "a"])) := Ex.new hp2
      have e3' : Ex (upd (upd H4 p1 (.tup [.str "a", .str "z"])) p2 (.tup [.str "z", .str "a"])) (upd (upd (upd H4 p1 (.tup [.str "a", .str "z"])) p2 (.tup [.str "z", .str "a"])) p3 (.lst [.ref p1, .ref p2])) := Ex.new hp3
      have t1 := e3' _ _ (e2' _ _ (upd_same (H := H4) (a := p1) (o := .tup [.str "a", .str "z"])))
      have t2 := e3' _ _ (upd_same (H := upd H4 p1 (.tup [.str "a", .str "z"])) (a := p2) (o := .tup [.str "z", .str "a"]))
      refine ⟨_, rfl, rfl, .inr ⟨_, rfl, ?_⟩⟩
      rw [hd]
      refine ⟨p3, _, _, .ref p2, rfl, rfl, SqL.of upd_same, atI_nat (j := 1) rfl, p2, _, rfl, SqT.of t2, rfl, _, _, rfl, _, _, rfl, rfl, ?_⟩
      refine ⟨_, rfl, (m : Int), rfl, by omega, by omega, ?_⟩
      rw [Int.toNat_natCast]
      refine lc_fmW (ys := List.range m) (by rw [List.length_range]; exact walk_range (lo := 0)) (R := fun _ v (x : Str) => v = V.str x) (fun _ _ _ _ _ h => h) (p := fun _ => true) (f := nameA "z" "a") (fun _ _ => trivial) (by simp; omega) ?_ ?_
      · rintro i y x Ha Hb hy ea ⟨rfl, rfl⟩
        have h2 := (List.getElem?_eq_some_iff.mp hy).1
        obtain rfl : y = i := by
          rw [List.getElem?_eq_getElem h2] at hy
          simp at hy
          exact hy.symm
        have him : y < m := by simpa using h2
        simp only [Int.zero_add]
        refine ⟨Ex.refl _, LcTurn.yes fun A hA => ⟨rfl, ?_⟩⟩
        refine ⟨_, rfl, _, _, rfl, rfl, _, rfl, ?_⟩
        by_cases h8 : y < 8
        · rw [decide_eq_true (show (y : Int) < 8 by omega)]
          refine iteT ⟨_, rfl, _, rfl, _, _, rfl, rfl, _, y + 1, rfl, congrArg V.int (by omega), by omega, by decide, hA _ _ (Ex.refl _) ?_⟩
          show V.str _ = V.str (nameA _ _ y)
          unfold nameA
          rw [if_pos h8]
        · rw [decide_eq_false (show ¬ (y : Int) < 8 by omega)]
          refine iteF ⟨_, rfl, _, rfl, _, _, rfl, rfl, _, y - 7, rfl, congrArg V.int (by omega), by omega, by decide, _, rfl, _, _, rfl, rfl, ?_, hA _ _ (Ex.refl _) ?_⟩
          · have : y = 8 ∨ y = 9 := by omega
            rcases this with q | q <;> subst q <;> decide +kernel
          · show V.str _ = V.str (nameA _ _ y)
            unfold nameA
            rw [if_neg h8]
      intro Dn H6 zs hDn e6 hz6 az6
      rw [filt] at az6
      have ez := az6.eq_map (g := V.str)
      subst ez
      refine ⟨Dn, _, rfl, .inl ⟨SqL.of hz6, fun l hl => ?_⟩⟩
      have ef := (e1.trans (e2'.trans e3')).trans (e6.trans (Ex.new (o := .tup (((List.range m).map (nameA "z" "a")).map V.str)) hl))
      exact k l _ _ (b14.ex ef) ((hb4.ex ef).mono (by omega)) upd_same (namesA_nd namesA2 m10) (by simp)
    · have hd : decide (V.int (r1 : Nat) = V.int 25) = false := by
        first
          | (refine decide_eq_true (congrArg V.int ?_); omega)
          | (refine decide_eq_false fun z => ?_; have := V.int.inj z; omega)
      refine ⟨smallE (by simp), fun p1 hp1 => ⟨smallE (by simp), fun p2 hp2 => ⟨smallE (by simp), fun p3 hp3 => ?_⟩⟩⟩
      have e1 : Ex H4 (upd H4 p1 (.tup [.str "a", .str "z"])) := Ex.new hp1
      have e2' : Ex (upd H4 p1 (.tup [.str "a", .str "z"])) (upd (upd H4 p1 (.tup [.str "a", .str "z"])) p2 (.tup [.str "z", .str "a"])) := Ex.new hp2
      have e3' : Ex (upd (upd H4 p1 (.tup [.str "a", .str "z"])) p2 (.tup [.str "z", .str "a"])) (upd (upd (upd H4 p1 (.tup [.str "a", .str "z"])) p2 (.tup [.str "z", .str "a"])) p3 (.lst [.ref p1, .ref p2])) := Ex.new hp3
      have t1 := e3' _ _ (e2' _ _ (upd_same (H := H4) (a := p1) (o := .tup [.str "a", .str "z"])))
      have t2 := e3' _ _ (upd_same (H := upd H4 p1 (.tup [.str "a", .str "z"])) (a := p2) (o := .tup [.str "z", .str "a"]))
      refine ⟨_, rfl, rfl, .inr ⟨_, rfl, ?_⟩⟩
      rw [hd]
      refine ⟨p3, _, _, .ref p1, rfl, rfl, SqL.of upd_same, atI_nat (j := 0) rfl, p1, _, rfl, SqT.of t1, rfl, _, _, rfl, _, _, rfl, rfl, ?_⟩
      refine ⟨_, rfl, (m : Int), rfl, by omega, by omega, ?_⟩
      rw [Int.toNat_natCast]
      refine lc_fmW (ys := List.range m) (by rw [List.length_range]; exact walk_range (lo := 0)) (R := fun _ v (x : Str) => v = V.str x) (fun _ _ _ _ _ h => h) (p := fun _ => true) (f := nameA "a" "z") (fun _ _ => trivial) (by simp; omega) ?_ ?_
      · rintro i y x Ha Hb hy ea ⟨rfl, rfl⟩
        have h2 := (List.getElem?_eq_some_iff.mp hy).1
        obtain rfl : y = i := by
          rw [List.getElem?_eq_getElem h2] at hy
          simp at hy
          exact hy.symm
        have him : y < m := by simpa using h2
        simp only [Int.zero_add]
        refine ⟨Ex.refl _, LcTurn.yes fun A hA => ⟨rfl, ?_⟩⟩
        refine ⟨_, rfl, _, _, rfl, rfl, _, rfl, ?_⟩
        by_cases h8 : y < 8
        · rw [decide_eq_true (show (y : Int) < 8 by omega)]
          refine iteT ⟨_, rfl, _, rfl, _, _, rfl, rfl, _, y + 1, rfl, congrArg V.int (by omega), by omega, by decide, hA _ _ (Ex.refl _) ?_⟩
          show V.str _ = V.str (nameA _ _ y)
          unfold nameA
          rw [if_pos h8]
        · rw [decide_eq_false (show ¬ (y : Int) < 8 by omega)]
          refine iteF ⟨_, rfl, _, rfl, _, _, rfl, rfl, _, y - 7, rfl, congrArg V.int (by omega), by omega, by decide, _, rfl, _, _, rfl, rfl, ?_, hA _ _ (Ex.refl _) ?_⟩
          · have : y = 8 ∨ y = 9 := by omega
            rcases this with q | q <;> subst q <;> decide +kernel
          · show V.str _ = V.str (nameA _ _ y)
            unfold nameA
            rw [if_neg h8]
      intro Dn H6 zs hDn e6 hz6 az6
      rw [filt] at az6
      have ez := az6.eq_map (g := V.str)
      subst ez
      refine ⟨Dn, _, rfl, .inl ⟨SqL.of hz6, fun l hl => ?_⟩⟩
      have ef := (e1.trans (e2'.trans e3')).trans (e6.trans (Ex.new (o := .tup (((List.range m).map (nameA "a" "z")).map V.str)) hl))
      exact k l _ _ (b14.ex ef) ((hb4.ex ef).mono (by omega)) upd_same (namesA_nd namesA1 m10) (by simp)
  · refine ⟨_, rfl, (m : Int), rfl, by omega, by omega, ?_⟩
    rw [Int.toNat_natCast]
    refine lc_fmW (ys := List.range m) (by rw [List.length_range]; exact walk_range (lo := 0)) (R := fun _ v (x : Str) => v = V.str x) (fun _ _ _ _ _ h => h) (p := fun _ => true) (f := nameB r1 B) (fun _ _ => trivial) (by simp; omega) ?_ ?_
    · rintro i y x Ha Hb hy ea ⟨rfl, rfl⟩
      have h2 := (List.getElem?_eq_some_iff.mp hy).1
      obtain rfl : y = i := by
        rw [List.getElem?_eq_getElem h2] at hy
        simp at hy
        exact hy.symm
      have him : y < m := by simpa using h2
      simp only [Int.zero_add]
      refine ⟨Ex.refl _, LcTurn.yes fun A hA => ⟨rfl, ?_⟩⟩
      have hmod : ((r1 : Int) + 11 * (y : Int)) % 26 = (((r1 + 11 * y) % 26 : Nat) : Int) := by omega
      refine ⟨_, rfl, _, rfl, _, rfl, _, _, rfl, rfl, mulx_of (a := 20) (b := 20) (by decide) (by omega) (by decide), _, _, rfl, rfl, _, _, rfl, rfl, (by decide : (0 : Int) < 26), _, _, _, rfl, rfl, by decide, by rw [hmod]; exact letter_at (Nat.mod_lt _ (by decide)), _, rfl, _, _, rfl, rfl, ?_, hA _ _ (Ex.refl _) rfl⟩
      show 1 + B.length ≤ sizeLine
      exact Nat.le_trans (show 1 + B.length ≤ 9 by omega) (by decide)
    intro Dn H6 zs hDn e6 hz6 az6
    rw [filt] at az6
    have ez := az6.eq_map (g := V.str)
    subst ez
    refine ⟨Dn, _, rfl, .inl ⟨SqL.of hz6, fun l hl => ?_⟩⟩
    have ef := e6.trans (Ex.new (o := .tup (((List.range m).map (nameB r1 B)).map V.str)) hl)
    exact k l _ _ (b14.ex ef) ((hb4.ex ef).mono (by omega)) upd_same (namesB_nd r1 B m10) (by simp)
end
end GW
set_option Elab.async false
set_option linter.all false
set_option maxRecDepth 100000
set_option maxHeartbeats 4000000
/-! LE: planted, ends_by -/
namespace GW
open PySem PySem.Spec PyProof.Rows L2 GM
/-- a lane of the law's: between unlike places, its gain within bounds -/
def EndOk (ps : List Str) (s : Step Str) : Prop := s.b ∈ ps ∧ s.e ∈ ps ∧ s.b ≠ s.e ∧ GainOk s.gain
abbrev laneOf (b e : Str) (g : Rat) : Step Str := ⟨0, false, b, e, 0, g⟩
theorem All2.of_at {α β : Type} {R : α → β → Prop} : ∀ {as : List α} {bs : List β}, as.length = bs.length → (∀ (j : Nat) a b, as[j]? = some a → bs[j]? = some b → R a b) → All2 R as bs
  | [], [], _, _ => .nil
  | a :: as, b :: bs, h, k => .cons (k 0 a b rfl rfl) (All2.of_at (by simpa using h) fun j x y hx hy => k (j + 1) x y (by simpa using hx) (by simpa using hy))
  | [], _ :: _, h, _ => by simp at h
  | _ :: _, [], h, _ => by simp at h
theorem rep_flat {α : Type} (x : α) : ∀ n : Nat, (List.replicate n [x]).flatten = List.replicate n x
  | 0 => rfl
  | n + 1 => by rw [List.replicate_succ, List.flatten_cons, rep_flat x n]; rfl
theorem nd_at {ps : List Str} (h : ps.Nodup) {i j : Nat} (hi : i < ps.length) (hj : j < ps.length) (hn : i ≠ j) : ps.getD i "" ≠ ps.getD j "" := by
  rw [List.getD_eq_getElem?_getD, List.getD_eq_getElem?_getD, List.getElem?_eq_getElem hi, List.getElem?_eq_getElem hj]
  intro q
  have q : ps[i] = ps[j] := q
  exact hn ((List.getElem?_inj hi h).mp (by rw [List.getElem?_eq_getElem hi, List.getElem?_eq_getElem hj, q]))
theorem mem_at {ps : List Str} {i : Nat} (hi : i < ps.length) : ps.getD i "" ∈ ps := by
  rw [List.getD_eq_getElem?_getD, List.getElem?_eq_getElem hi]
  exact List.getElem_mem hi
theorem at_str {ps : List Str} {i : Nat} (hi : i < ps.length) : atI (ps.map V.str) (i : Int) = some (.str (ps.getD i "")) := by
  refine atI_nat ?_
  rw [List.getElem?_map, List.getD_eq_getElem?_getD, List.getElem?_eq_getElem hi]
  rfl
theorem map_range_at {α : Type} {f : Nat → α} {n j : Nat} (h : j < n) : ((List.range n).map f)[j]? = some (f j) := by
  rw [List.getElem?_map, List.getElem?_range h]
  rfl
theorem rot_at {α : Type} {f : Nat → α} {n j : Nat} (h : j < n) : (((List.range n).map f).drop 1 ++ ((List.range n).map f).take 1)[j]? = some (f ((j + 1) % n)) := by
  by_cases c : j + 1 < n
  · rw [List.getElem?_append_left (by simp; omega), List.getElem?_drop, Nat.add_comm 1 j, map_range_at c, Nat.mod_eq_of_lt c]
  · have e : j + 1 = n := by omega
    rw [List.getElem?_append_right (by simp; omega)]
    have : j - (((List.range n).map f).drop 1).length = 0 := by simp; omega
    rw [this, List.getElem?_take, if_pos (by decide), map_range_at (by omega), e, Nat.mod_self]
theorem mod_ne {a m n : Nat} (h2 : 2 ≤ n) (hm : 0 < m) (hmn : m < n) : a % n ≠ (a + m) % n := by
  intro q
  have h1 : (a + m) % n = ((a % n) + m) % n := by rw [Nat.mod_add_mod]
  have hlt := Nat.mod_lt a (show 0 < n by omega)
  rw [h1] at q
  by_cases c : a % n + m < n
  · rw [Nat.mod_eq_of_lt c] at q
    omega
  · have : (a % n + m) % n = a % n + m - n := by
      rw [Nat.mod_eq_sub_mod (by omega), Nat.mod_eq_of_lt (by omega)]
    omega
section
variable {P : Program} {w : World} {K : PySem.W.Frag} {mg : Str → Option Value} {base : Heap}
def sp__law_planted (K : PySem.W.Frag) : Sp := sp2 fun a b H Q => ∃ (bx pa : Addr) (ps : List Str) (n : Nat), a = .ref bx ∧ b = .ref pa ∧ Tp K H pa (ps.map V.str) ∧ ps.Nodup ∧ 2 ≤ ps.length ∧ ps.length ≤ 10 ∧ BoxV H bx n ∧ n < 80000 ∧
  ∀ p H' vs es, H p = none → p ≠ bx → But bx H H' → BoxV H' bx (n + 10) → H' p = some (.lst vs) → All2 (LaneV K H') vs es → (∀ s ∈ es, EndOk ps s) → es.length ≤ 10 → Q (.ref p) H'
/-! _law_planted: slots 0:_law_box_here 1:_law_places 2:_law_many 3:_law_first 4:_law_a 5:_law_b 6:_law_more 7:_law_gains 8:_law_spots 9:_law_k -/
abbrev N__law_planted : List Str := ["_law_box_here", "_law_places", "_law_many", "_law_first", "_law_a", "_law_b", "_law_more", "_law_gains", "_law_spots", "_law_k"]
theorem sc__law_planted : FnScope N__law_planted ["_law_box_here", "_law_places"] (defScope s__law_planted) := ⟨rfl, rfl, rfl, by decide +kernel, rfl, by decide +kernel, by decide +kernel⟩
theorem ok__law_planted (T : Txt K mg) : DOk P w K mg base "_law_planted" ["_law_box_here", "_law_places"] 2 (sp__law_planted K) := by
  have G__law_frac := ok__law_frac (P := P) (w := w) (base := base) T
  have G__law_take := ok__law_take (P := P) (w := w) (base := base) T
  refine T.d__law_planted.ok sc__law_planted sp2_len (fun f cdv A outer s H vs Q E hr h => ?_)
  refine ⟨_, (pss_cons (ps_set (i := 2) sc__law_planted.nd rfl (Or.inl rfl) (pe_op op_add pe_int (pe_callD G__law_take (hr.mono (by decide)) (pa_cons (pv 0) (pa_cons (pe_op op_sub (pe_callB (lenK K) (by rfl) T.n_len PySem.boot_len (pa_cons (pv 1) pa_nil)) pe_int) pa_nil)))))
        (pss_cons (ps_asg (pe_tup (pa_cons (pe_callD G__law_take (hr.mono (by decide)) (pa_cons (pv 0) (pa_cons (pe_callB (lenK K) (by rfl) T.n_len PySem.boot_len (pa_cons (pv 1) pa_nil)) pa_nil))) (pa_cons (pe_op op_add pe_int (pe_callD G__law_take (hr.mono (by decide)) (pa_cons (pv 0) (pa_cons pe_int pa_nil)))) (pa_cons (pe_op op_add pe_int (pe_callD G__law_take (hr.mono (by decide)) (pa_cons (pv 0) (pa_cons pe_int pa_nil)))) pa_nil)))) (pgT K 3 rfl (pgs_cons (pg_name (i := 3) sc__law_planted.nd rfl (Or.inr rfl)) (pgs_cons (pg_name (i := 4) sc__law_planted.nd rfl (Or.inl rfl)) (pgs_cons (pg_name (i := 5) sc__law_planted.nd rfl (Or.inl rfl)) pgs_nil)))))
        (pss_cons (ps_set (i := 6) sc__law_planted.nd rfl (Or.inl rfl) (pe_op op_add pe_int (pe_callD G__law_take (hr.mono (by decide)) (pa_cons (pv 0) (pa_cons pe_int pa_nil)))))
        (pss_cons (ps_set (i := 7) sc__law_planted.nd rfl (Or.inl rfl) (pe_op op_cat (pe_lst (pa_cons (pe_callD G__law_frac (hr.mono (by decide)) (pa_cons (pv 4) (pa_cons (pv 5) pa_nil))) (pa_cons (pe_callD G__law_frac (hr.mono (by decide)) (pa_cons (pe_op op_mulX (pv 5) (pe_op op_add (pv 6) pe_int)) (pa_cons (pe_op op_mulX (pv 4) (pv 6)) pa_nil))) pa_nil))) (pe_op op_rep (pe_lst (pa_cons (pe_tup (pa_cons pe_int (pa_cons pe_int pa_nil))) pa_nil)) (pe_op op_sub (pv 2) pe_int))))
        (pss_cons (ps_setLc (i := 8) (own := [("_law_k", 9)]) (g := gName 9) (tt := tYes) (by rfl) sc__law_planted.nd rfl rfl (sw_true rfl rfl rfl (by decide +kernel)) (pi_range1 (by rfl) T.n_range (pa_cons (pv 2) pa_nil)) (blkOk_by (N := N__law_planted) (sc := defScope s__law_planted) (own := [("_law_k", 9)]) (by decide +kernel)) (fun _ _ _ _ _ => (pg_name (i := 9) sc__law_planted.nd rfl (Or.inl rfl))) (fun _ _ _ _ _ => pts_nil) (fun _ _ _ _ _ => (pe_ix (ixT K) (pv 1) (pe_op op_mod (pe_op op_add (pv 3) (pv 9)) (pe_callB (lenK K) (by rfl) T.n_len PySem.boot_len (pa_cons (pv 1) pa_nil))) (fun _ _ => rfl))))
        (pss_one (ps_ret (pe_listZip3 rfl (by rfl) T.n_list (by rfl) T.n_zip (pa_cons (pv 8) (pa_cons (pe_op op_cat (pe_slice (slL K) (pv 8) (po_some pe_int) po_none) (pe_slice (slL K) (pv 8) po_none (po_some pe_int))) (pa_cons (pv 7) pa_nil))))))))))), ?_⟩
  obtain ⟨_, _, rfl, bx, pa, ps, n, rfl, rfl, hpa, hnd, h2, h10, hb, hn, k⟩ := h
  have ll : ∀ H', TX H H' → SqT K H' pa (ps.map V.str) := fun H' e => (hpa.mono e).sq
  refine ⟨_, rfl, _, rfl, pa, _, rfl, .inr hpa.sq, _, _, rfl, rfl, _, _, rfl, bx, ps.length - 1, n, rfl, congrArg V.int (by rw [List.length_map]; omega), by omega, by omega, hb, by omega, fun r0 H1 hr0 b1 hb1 => ⟨_, _, rfl, rfl, ?_⟩⟩
  have t1 := hb.tx b1
  refine ⟨_, rfl, _, rfl, pa, _, rfl, .inr (ll _ t1), _, _, rfl, bx, ps.length, n + 1, rfl, congrArg V.int (by rw [List.length_map]), by omega, by omega, hb1, by omega, fun r1 H2 hr1 b2 hb2 => ?_⟩
  refine ⟨_, rfl, _, _, rfl, bx, 6, n + 2, rfl, rfl, by omega, by omega, hb2, by omega, fun ra H3 hra b3 hb3 => ⟨_, _, rfl, rfl, ?_⟩⟩
  refine ⟨_, rfl, _, _, rfl, bx, 6, n + 3, rfl, rfl, by omega, by omega, hb3, by omega, fun rb H4 hrb b4 hb4 => ⟨_, _, rfl, rfl, smallE (by simp), fun t ht => ⟨t, _, rfl, SqT.of upd_same, rfl, _, _, rfl, _, _, rfl, _, _, rfl, rfl, ?_⟩⟩⟩
  have e4 : Ex H4 (upd H4 t (.tup [.int r1, .int (1 + ra), .int (1 + rb)])) := Ex.new ht
  have hb4' := hb4.ex e4
  have b04 := (((b1.trans b2).trans b3).trans b4).ex e4
  refine ⟨_, rfl, _, _, rfl, bx, 6, n + 4, rfl, rfl, by omega, by omega, hb4', by omega, fun rm H5 hrm b5 hb5 => ⟨_, _, rfl, rfl, ?_⟩⟩
  have b05 := b04.trans b5
  -- gains
  have ca : ((1 : Int) + (ra : Int)) = ((1 + ra : Nat) : Int) := by omega
  have cb : ((1 : Int) + (rb : Int)) = ((1 + rb : Nat) : Int) := by omega
  have g1 := gain_mk (n := 1 + ra) (d := 1 + rb) (by omega) (by omega) (by omega) (by omega)
  have m1 : (1 + rb) * (1 + rm + 1) ≤ 6 * 7 := Nat.mul_le_mul (by omega) (by omega)
  have m2 : (1 + ra) * (1 + rm) ≤ 6 * 6 := Nat.mul_le_mul (by omega) (by omega)
  have p1 : 0 < (1 + rb) * (1 + rm + 1) := Nat.mul_pos (by omega) (by omega)
  have p2 : 0 < (1 + ra) * (1 + rm) := Nat.mul_pos (by omega) (by omega)
  have g2 := gain_mk (n := (1 + rb) * (1 + rm + 1)) (d := (1 + ra) * (1 + rm)) p1 (by omega) p2 (by omega)
  refine ⟨_, rfl, _, rfl, _, _, rfl, ((1 + ra : Nat) : Int), 1 + rb, congrArg V.int ca, congrArg V.int cb, by omega, g1.2.mono (by decide), fun v1 H6 e6 f1 => ?_⟩
  refine ⟨_, rfl, _, rfl, _, _, rfl, rfl, _, _, rfl, rfl, mulx_of (a := 20) (b := 20) (by omega) (by omega) (by decide), _, rfl, _, rfl, _, _, rfl, rfl, mulx_of (a := 20) (b := 20) (by omega) (by omega) (by decide), _, _, rfl, (((1 + rb) * (1 + rm + 1) : Nat) : Int), (1 + ra) * (1 + rm), congrArg V.int ?_, congrArg V.int ?_, by omega, g2.2.mono (by decide), fun v2 H7 e7 f2 => ?_⟩
  · rw [Int.natCast_mul, Int.natCast_add, Int.natCast_add, Int.natCast_add]; rfl
  · rw [Int.natCast_mul, Int.natCast_add, Int.natCast_add]; rfl
  refine ⟨smallE (by simp), fun q1 hq1 => ?_⟩
  have e8 : Ex H7 (upd H7 q1 (.lst [v1, v2])) := Ex.new hq1
  refine ⟨smallE (by simp), fun q2 hq2 => ⟨smallE (by simp), fun q3 hq3 => ?_⟩⟩
  have e9 : Ex (upd H7 q1 (.lst [v1, v2])) (upd (upd H7 q1 (.lst [v1, v2])) q2 (.tup [.int 1, .int 1])) := Ex.new hq2
  have e10 : Ex (upd (upd H7 q1 (.lst [v1, v2])) q2 (.tup [.int 1, .int 1])) (upd (upd (upd H7 q1 (.lst [v1, v2])) q2 (.tup [.int 1, .int 1])) q3 (.lst [.ref q2])) := Ex.new hq3
  have cr : ((2 : Int) + (r0 : Int)) - 2 = (r0 : Int) := by omega
  refine ⟨_, rfl, _, _, rfl, rfl, q3, (r0 : Int), _, rfl, congrArg V.int cr, upd_same, by omega, by omega, ?_, fun q4 hq4 => ?_⟩
  · rw [Int.toNat_natCast]
    exact smallE (by simp; omega)
  rw [Int.toNat_natCast, rep_flat]
  generalize hH10 : (upd (upd (upd H7 q1 (.lst [v1, v2])) q2 (.tup [.int 1, .int 1])) q3 (.lst [.ref q2])) = H10 at hq4 e10
  have hq1' : H10 q1 = some (.lst [v1, v2]) := e10 _ _ (e9 _ _ upd_same)
  have f3 : FrV K H10 (.ref q2) 1 := ⟨q2, rfl, .of (e10 _ _ upd_same), Sz.one.mono (by decide)⟩
  have e11 : Ex H10 (upd H10 q4 (.lst (List.replicate r0 (.ref q2)))) := Ex.new hq4
  refine ⟨q1, q4, _, _, rfl, rfl, e11 _ _ hq1', upd_same, smallE (by simp; omega), fun q5 hq5 => ?_⟩
  generalize hH11 : upd H10 q4 (.lst (List.replicate r0 (.ref q2))) = H11 at hq5 e11
  have e12 : Ex H11 (upd H11 q5 (.lst ([v1, v2] ++ List.replicate r0 (.ref q2)))) := Ex.new hq5
  generalize hH12 : upd H11 q5 (.lst ([v1, v2] ++ List.replicate r0 (.ref q2))) = H12 at e12
  have hq5' : H12 q5 = some (.lst ([v1, v2] ++ List.replicate r0 (.ref q2))) := by rw [← hH12]; exact upd_same
  have e712 : Ex H7 H12 := e8.trans (e9.trans (e10.trans (e11.trans e12)))
  have hgs : All2 (FrV K H12) ([v1, v2] ++ List.replicate r0 (.ref q2)) ([mkRat ((1 + ra : Nat) : Int) (1 + rb), mkRat (((1 + rb) * (1 + rm + 1) : Nat) : Int) ((1 + ra) * (1 + rm))] ++ List.replicate r0 1) :=
    (All2.cons (f1.ex (e7.trans e712)) (.cons (f2.ex e712) .nil)).append (All2.rep (f3.ex (e11.trans e12)) r0)
  generalize hgsd : ([mkRat ((1 + ra : Nat) : Int) (1 + rb), mkRat (((1 + rb) * (1 + rm + 1) : Nat) : Int) ((1 + ra) * (1 + rm))] ++ List.replicate r0 1 : List Rat) = gs at hgs
  have hgl : gs.length = 2 + r0 := by rw [← hgsd]; simp; omega
  have hgok : ∀ g ∈ gs, GainOk g := fun g hg => by
    rw [← hgsd] at hg
    rcases List.mem_append.mp hg with q | q
    · rcases List.mem_cons.mp q with rfl | q
      · exact g1
      · rw [List.mem_singleton.mp q]; exact g2
    · rw [(List.mem_replicate.mp q).2]; exact gain_one
  have e512 : Ex H5 H12 := e6.trans (e7.trans e712)
  have b12 := b05.ex e512
  have t12 := hb.tx b12
  have hlen0 : 0 < ps.length := by omega
  have cm : (2 : Int) + (r0 : Int) = ((2 + r0 : Nat) : Int) := by omega
  -- spots
  refine ⟨_, rfl, ((2 + r0 : Nat) : Int), by rw [← cm], by omega, by omega, ?_⟩
  rw [Int.toNat_natCast]
  refine lc_fmW (ys := List.range (2 + r0)) (by rw [List.length_range]; exact walk_range (lo := 0)) (R := fun _ v (x : Str) => v = V.str x) (fun _ _ _ _ _ h => h) (p := fun _ => true) (f := fun i => ps.getD ((r1 + i) % ps.length) "") (fun _ _ => trivial) (by simp; omega) ?_ ?_
  · rintro i y x Ha Hb hy ea ⟨rfl, rfl⟩
    have h2 := (List.getElem?_eq_some_iff.mp hy).1
    obtain rfl : y = i := by
      rw [List.getElem?_eq_getElem h2] at hy
      simp at hy
      exact hy.symm
    simp only [Int.zero_add]
    have hsq := ll Hb (t12.trans (.of ea))
    have hmod : ((r1 : Int) + (y : Int)) % (((ps.map V.str).length : Nat) : Int) = (((r1 + y) % ps.length : Nat) : Int) := by
      rw [List.length_map, Int.natCast_emod, Int.natCast_add]
    refine ⟨Ex.refl _, LcTurn.yes fun A hA => ⟨rfl, _, rfl, _, rfl, _, rfl, _, _, rfl, rfl, _, rfl, pa, _, rfl, .inr hsq, _, _, rfl, rfl, (by rw [List.length_map]; omega), pa, _, _, .str (ps.getD ((r1 + y) % ps.length) ""), rfl, rfl, hsq, ?_, hA _ _ (Ex.refl _) rfl⟩⟩
    rw [hmod]
    exact at_str (Nat.mod_lt _ hlen0)
  intro D H13 zs hD e13 hz13 az
  rw [filt] at az
  have ez := az.eq_map (g := V.str)
  subst ez
  refine ⟨_, rfl, _, rfl, _, rfl, D, _, rfl, SqL.of hz13, fun q6 hq6 => ?_⟩
  have ec1 : cutV ((((List.range (2 + r0)).map fun i => ps.getD ((r1 + i) % ps.length) "")).map V.str) (some (1 : Int)) none = _ := cut_from _ 1
  have ec2 : cutV ((((List.range (2 + r0)).map fun i => ps.getD ((r1 + i) % ps.length) "")).map V.str) none (some (1 : Int)) = _ := cut_to _ 1
  rw [ec1]
  generalize hsp : ((List.range (2 + r0)).map fun i => ps.getD ((r1 + i) % ps.length) "") = sp at *
  have spl : sp.length = 2 + r0 := by rw [← hsp]; simp
  have e14 : Ex H13 (upd H13 q6 (.lst ((sp.map V.str).drop 1))) := Ex.new hq6
  refine ⟨_, rfl, _, rfl, D, _, rfl, SqL.of (e14 _ _ hz13), fun q7 hq7 => ?_⟩
  rw [ec2]
  have e15 : Ex (upd H13 q6 (.lst ((sp.map V.str).drop 1))) (upd (upd H13 q6 (.lst ((sp.map V.str).drop 1))) q7 (.lst ((sp.map V.str).take 1))) := Ex.new hq7
  refine ⟨q6, q7, _, _, rfl, rfl, e15 _ _ upd_same, upd_same, smallE (by simp; omega), fun q8 hq8 => ?_⟩
  generalize hH15 : (upd (upd H13 q6 (.lst ((sp.map V.str).drop 1))) q7 (.lst ((sp.map V.str).take 1))) = H15 at e15 hq8
  have e16 : Ex H15 (upd H15 q8 (.lst ((sp.map V.str).drop 1 ++ (sp.map V.str).take 1))) := Ex.new hq8
  have e1316 := e14.trans (e15.trans e16)
  have hl2 : ((sp.map V.str).drop 1 ++ (sp.map V.str).take 1).length = (sp.map V.str).length := by simp; omega
  refine ⟨_, rfl, D, q8, q5, _, _, _, rfl, SqL.of (e1316 _ _ hz13), SqL.of upd_same, SqL.of ((e13.trans e1316) _ _ hq5'), hl2, ?_, ?_, ?_, fun p H' ts hp e17 hp17 htl hat => ?_⟩
  · rw [hgs.length, hgl, List.length_map, spl]
  · rw [List.length_map, spl]; omega
  · rw [List.length_map, spl]; omega
  have e1217 : Ex H12 H' := e13.trans (e1316.trans e17)
  have hp12 : H12 p = none := e13.back (e1316.back hp)
  have hp5 : H5 p = none := e512.back hp12
  have hpb : p ≠ bx := hb5.ne hp5
  have tl : ts.length = 2 + r0 := by rw [htl, List.length_map, spl]
  refine k p H' (ts.map V.ref) ((List.range (2 + r0)).map fun j => laneOf (ps.getD ((r1 + j) % ps.length) "") (ps.getD ((r1 + (j + 1) % (2 + r0)) % ps.length) "") (gs.getD j 1)) (b05.back hpb hp5) hpb (b12.ex e1217) ((hb5.ex (e512.trans e1217)).mono (by omega)) hp17 (All2.of_at (by simp [tl]) fun j a s ha hs => ?_) (fun s hs => ?_) (by simp; omega)
  · have hj : j < 2 + r0 := by
      have := (List.getElem?_eq_some_iff.mp hs).1
      simpa using this
    rw [map_range_at hj] at hs
    cases hs
    rw [List.getElem?_map] at ha
    cases htj : ts[j]? with
    | none => rw [htj] at ha; cases ha
    | some t' =>
      rw [htj] at ha
      cases ha
      obtain ⟨x, y, z, hx, hy, hz, ht'⟩ := hat j t' htj
      have hx' : x = .str (ps.getD ((r1 + j) % ps.length) "") := by
        rw [← hsp, List.getElem?_map, map_range_at hj] at hx
        exact (Option.some.inj hx).symm
      have hy' : y = .str (ps.getD ((r1 + (j + 1) % (2 + r0)) % ps.length) "") := by
        rw [← hsp, ← List.map_drop, ← List.map_take, ← List.map_append, List.getElem?_map, rot_at hj] at hy
        exact (Option.some.inj hy).symm
      obtain ⟨g, hg, rg⟩ := hgs.get hz
      have hgd : gs.getD j 1 = g := by rw [List.getD_eq_getElem?_getD, hg]; rfl
      subst hx' hy'
      refine ⟨t', z, rfl, .of ht', ?_⟩
      rw [show (laneOf (ps.getD ((r1 + j) % ps.length) "") (ps.getD ((r1 + (j + 1) % (2 + r0)) % ps.length) "") (gs.getD j 1)).gain = g from hgd]
      exact rg.ex e1217
  · obtain ⟨j, hj, rfl⟩ := List.mem_map.mp hs
    have hj := List.mem_range.mp hj
    refine ⟨mem_at (Nat.mod_lt _ hlen0), mem_at (Nat.mod_lt _ hlen0), nd_at hnd (Nat.mod_lt _ hlen0) (Nat.mod_lt _ hlen0) ?_, ?_⟩
    · by_cases c : j + 1 < 2 + r0
      · rw [Nat.mod_eq_of_lt c, ← Nat.add_assoc]
        exact mod_ne h2 (by decide) (by omega)
      · have : j + 1 = 2 + r0 := by omega
        rw [this, Nat.mod_self, Nat.add_zero]
        exact (mod_ne h2 (show 0 < j by omega) (by omega)).symm
    · have : gs[j]? = some gs[j] := List.getElem?_eq_getElem (by omega)
      show GainOk (gs.getD j 1)
      rw [List.getD_eq_getElem?_getD, this]
      exact hgok _ (List.getElem_mem _)
end
end GW
set_option Elab.async false
set_option linter.all false
set_option maxRecDepth 100000
set_option maxHeartbeats 4000000
/-! LF: ends_by, net_by -/
namespace GW
open PySem PySem.Spec PyProof.Rows L2 GM
section
variable {P : Program} {w : World} {K : PySem.W.Frag} {mg : Str → Option Value} {base : Heap}
def sp__law_ends_by (K : PySem.W.Frag) : Sp := sp2 fun a b H Q => ∃ (bx : Addr) (ps : List Str) (ts : List (Tie Str)) (n : Nat), a = .ref bx ∧ NetV K H b ps ts ∧ ps.Nodup ∧ 2 ≤ ps.length ∧ ps.length ≤ 10 ∧ BoxV H bx n ∧ n < 90000 ∧
  ∀ t H' x y, But bx H H' → BoxV H' bx (n + 2) → H' t = some (.tup [.str x, .str y]) → x ∈ ps → y ∈ ps → x ≠ y → Q (.ref t) H'
/-! _law_ends_by: slots 0:_law_box_here 1:_law_net 2:_law_at -/
abbrev N__law_ends_by : List Str := ["_law_box_here", "_law_net", "_law_at"]
theorem sc__law_ends_by : FnScope N__law_ends_by ["_law_box_here", "_law_net"] (defScope s__law_ends_by) := ⟨rfl, rfl, rfl, by decide +kernel, rfl, by decide +kernel, by decide +kernel⟩
theorem ok__law_ends_by (T : Txt K mg) : DOk P w K mg base "_law_ends_by" ["_law_box_here", "_law_net"] 2 (sp__law_ends_by K) := by
  have G__law_take := ok__law_take (P := P) (w := w) (base := base) T
  refine T.d__law_ends_by.ok sc__law_ends_by sp2_len (fun f cdv A outer s H vs Q E hr h => ?_)
  refine ⟨_, (pss_cons (ps_set (i := 2) sc__law_ends_by.nd rfl (Or.inl rfl) (pe_callD G__law_take (hr.mono (by decide)) (pa_cons (pv 0) (pa_cons (pe_callB (lenK K) (by rfl) T.n_len PySem.boot_len (pa_cons (pe_ix (ixT K) (pv 1) pe_int (fun _ _ => rfl)) pa_nil)) pa_nil))))
        (pss_one (ps_ret (pe_tup (pa_cons (pe_ix (ixT K) (pe_ix (ixT K) (pv 1) pe_int (fun _ _ => rfl)) (pv 2) (fun _ _ => rfl)) (pa_cons (pe_ix (ixT K) (pe_ix (ixT K) (pv 1) pe_int (fun _ _ => rfl)) (pe_op op_mod (pe_op op_add (pe_op op_add (pv 2) pe_int) (pe_callD G__law_take (hr.mono (by decide)) (pa_cons (pv 0) (pa_cons (pe_op op_sub (pe_callB (lenK K) (by rfl) T.n_len PySem.boot_len (pa_cons (pe_ix (ixT K) (pv 1) pe_int (fun _ _ => rfl)) pa_nil)) pe_int) pa_nil)))) (pe_callB (lenK K) (by rfl) T.n_len PySem.boot_len (pa_cons (pe_ix (ixT K) (pv 1) pe_int (fun _ _ => rfl)) pa_nil))) (fun _ _ => rfl)) pa_nil)))))), ?_⟩
  obtain ⟨_, _, rfl, bx, ps, ts, n, rfl, ⟨na, nb, nc, tv, rfl, h1, h2, h3, h4⟩, hnd, hl2, hl10, hb, hn, k⟩ := h
  have hlen : ((ps.map V.str).length : Int) = (ps.length : Int) := by rw [List.length_map]
  refine ⟨_, rfl, _, rfl, na, _, _, .ref nb, rfl, rfl, h1.sq, rfl, nb, _, rfl, .inr h2.sq, _, _, rfl, bx, ps.length, n, rfl, congrArg V.int hlen, by omega, by omega, hb, by omega, fun r H1 hr b1 hb1 => ?_⟩
  have t1 := hb.tx b1
  refine ⟨_, rfl, na, _, _, .ref nb, rfl, rfl, (h1.mono t1).sq, rfl, _, rfl, nb, _, _, .str (ps.getD r ""), rfl, rfl, (h2.mono t1).sq, at_str hr, ?_⟩
  refine ⟨_, rfl, na, _, _, .ref nb, rfl, rfl, (h1.mono t1).sq, rfl, _, rfl, _, _, rfl, rfl, _, rfl, _, rfl, na, _, _, .ref nb, rfl, rfl, (h1.mono t1).sq, rfl, nb, _, rfl, .inr (h2.mono t1).sq, _, _, rfl, rfl, _, _, rfl, bx, ps.length - 1, n + 1, rfl, congrArg V.int (by rw [hlen]; omega), by omega, by omega, hb1, by omega, fun r2 H2 hr2 b2 hb2 => ?_⟩
  have t2 := t1.trans (hb1.tx b2)
  have hmod : ((r : Int) + 1 + (r2 : Int)) % (((ps.map V.str).length : Nat) : Int) = (((r + (1 + r2)) % ps.length : Nat) : Int) := by
    rw [hlen, Int.natCast_emod, Int.natCast_add, Int.natCast_add]
    congr 1
    omega
  refine ⟨_, _, rfl, rfl, _, rfl, na, _, _, .ref nb, rfl, rfl, (h1.mono t2).sq, rfl, nb, _, rfl, .inr (h2.mono t2).sq, _, _, rfl, rfl, (by rw [hlen]; omega), nb, _, _, .str (ps.getD ((r + (1 + r2)) % ps.length) ""), rfl, rfl, (h2.mono t2).sq, ?_, smallE (by simp), fun t ht => ?_⟩
  · rw [hmod]
    exact at_str (Nat.mod_lt _ (by omega))
  refine k t _ _ _ ((b1.trans b2).ex (Ex.new ht)) (hb2.ex (Ex.new ht)) upd_same (mem_at hr) (mem_at (Nat.mod_lt _ (by omega))) (nd_at hnd hr (Nat.mod_lt _ (by omega)) ?_)
  have := mod_ne (a := r) (m := 1 + r2) (n := ps.length) hl2 (by omega) (by omega)
  rwa [Nat.mod_eq_of_lt hr] at this
/-- a tie of the law's -/
def TieOk (ps : List Str) (t : Tie Str) : Prop := t.b ∈ ps ∧ t.e ∈ ps ∧ t.b ≠ t.e ∧ GainOk t.gain ∧ MostOk t.most
theorem net_ok {ps : List Str} {ts : List (Tie Str)} (hn : ps.Nodup) (h2 : 2 ≤ ps.length) (h10 : ps.length ≤ 10) (h24 : ts.length ≤ 24) (h : ∀ t ∈ ts, TieOk ps t) : NetOk ps ts :=
  ⟨hn, h2, h10, h24, fun t ht => ⟨(h t ht).1, (h t ht).2.1, (h t ht).2.2.1⟩, fun t ht => (h t ht).2.2.2.1.1, fun t ht => (h t ht).2.2.2.1.2, fun t ht => (h t ht).2.2.2.2.1, fun t ht => (h t ht).2.2.2.2.2.1, fun t ht => (h t ht).2.2.2.2.2.2⟩
/-- small fractions -/
def SmOk (a b : Nat) (q : Rat) : Prop := 0 < q ∧ q.num ≤ a ∧ q.den ≤ b
theorem sm_div {p q : Rat} {a b c d : Nat} (h : SmOk a b p) (k : SmOk c d q) : SmOk (a * d) (b * c) (p / q) := by
  obtain ⟨h1, h2, h3⟩ := h
  obtain ⟨k1, k2, k3⟩ := k
  have hn := num_pos k1
  have hp := num_pos h1
  have e := div_def' p q k1
  have hne : p.den * q.num.toNat ≠ 0 := Nat.mul_ne_zero p.den_nz (by omega)
  refine ⟨by rw [Rat.div_def]; exact Rat.mul_pos h1 (Rat.inv_pos.mpr k1), ?_, ?_⟩
  · rw [e]
    have l1 := mkRat_num_le (p.num * (q.den : Int)) hne
    rw [Int.natAbs_mul, Int.natAbs_natCast] at l1
    have l2 : p.num.natAbs * q.den ≤ a * d := Nat.mul_le_mul (by omega) k3
    omega
  · rw [e]
    have l1 := mkRat_den_le (p.num * (q.den : Int)) hne
    have l2 : p.den * q.num.toNat ≤ b * c := Nat.mul_le_mul h3 (by omega)
    omega
theorem sm_mul {p q : Rat} {a b c d : Nat} (h : SmOk a b p) (k : SmOk c d q) : SmOk (a * c) (b * d) (p * q) := by
  obtain ⟨h1, h2, h3⟩ := h
  obtain ⟨k1, k2, k3⟩ := k
  have hn := num_pos k1
  have hp := num_pos h1
  have hne : p.den * q.den ≠ 0 := Nat.mul_ne_zero p.den_nz q.den_nz
  refine ⟨Rat.mul_pos h1 k1, ?_, ?_⟩
  · rw [Rat.mul_def']
    have l1 := mkRat_num_le (p.num * q.num) hne
    rw [Int.natAbs_mul] at l1
    have l2 : p.num.natAbs * q.num.natAbs ≤ a * c := Nat.mul_le_mul (by omega) (by omega)
    omega
  · rw [Rat.mul_def']
    have l1 := mkRat_den_le (p.num * q.num) hne
    have l2 : p.den * q.den ≤ b * d := Nat.mul_le_mul h3 k3
    omega
theorem sm_gain {q : Rat} {a b : Nat} (h : SmOk a b q) (ha : a < 64) (hb : b < 64) : GainOk q := by
  have hn := num_pos h.1
  refine ⟨h.1, ?_, ?_⟩
  · have := h.2.1
    show q.num.natAbs < 64
    omega
  · have := h.2.2
    show q.den < 64
    omega
/-- worths by places, of a small size -/
def WorS (K : PySem.W.Frag) (H : Hp) (a : Addr) (ps : List Str) : Prop := ∃ f, DicV H a f 1000 ∧ ∀ x ∈ ps, ∃ v q, f x = some v ∧ FrV K H v q ∧ SmOk 3 3 q
theorem valV_pairs {R : V → Prop} : ∀ {kvs : List (Key × V)} {xs : List Str}, All2 (fun (kv : Key × V) x => kv.1 = Sum.inr x ∧ R kv.2) kvs xs → xs.Nodup → ∀ x ∈ xs, ∃ v, valV kvs (Sum.inr x) = some v ∧ R v
  | _, _, .nil, _, x, h => nomatch h
  | _, _, .cons (a := kv) (as := kvs) r t, hn, x, h => by
    obtain ⟨n1, n2⟩ := List.nodup_cons.mp hn
    rcases List.mem_cons.mp h with e | h
    · subst e
      exact ⟨kv.2, valV_pos r.1, r.2⟩
    · have hne : kv.1 ≠ Sum.inr x := fun q => n1 (by rw [r.1] at q; rw [Sum.inr.inj q]; exact h)
      obtain ⟨v, h1, h2⟩ := valV_pairs t n2 x h
      exact ⟨v, by rw [show valV (kv :: kvs) (Sum.inr x) = valV kvs (Sum.inr x) from valV_neg hne]; exact h1, h2⟩
theorem keys_pairs {R : V → Prop} : ∀ {kvs : List (Key × V)} {xs : List Str}, All2 (fun (kv : Key × V) x => kv.1 = Sum.inr x ∧ R kv.2) kvs xs → kvs.map (·.1) = xs.map Sum.inr
  | _, _, .nil => rfl
  | _, _, .cons r t => by rw [List.map_cons, List.map_cons, keys_pairs t, r.1]
/-- what the top of net_by's loops needs of the heap -/
structure NB_ (K : PySem.W.Frag) (bx : Addr) (H H' : Hp) (k : Nat) (pt : Addr) (ps : List Str) : Prop where
  but : But bx H H'
  box : BoxV H' bx k
  pt : H' pt = some (.tup (ps.map V.str))
theorem NB_.tx {bx : Addr} {H H1 H2 : Hp} {k : Nat} {pt : Addr} {ps : List Str} (n : NB_ K bx H H1 k pt ps) {m : Nat} (b : But bx H1 H2) (h : BoxV H2 bx m) : NB_ K bx H H2 m pt ps :=
  ⟨n.but.trans b, h, n.box.tx b _ _ n.pt⟩
end
end GW
set_option Elab.async false
set_option linter.all false
set_option maxRecDepth 100000
set_option maxHeartbeats 4000000
/-! LF2: net_by -/
namespace GW
open PySem PySem.Spec PyProof.Rows L2 GM
section
variable {P : Program} {w : World} {K : PySem.W.Frag} {mg : Str → Option Value} {base : Heap}
theorem wor_pairs {H5 : Hp} : ∀ {acc : List V} {ps : List Str}, All2 (fun v (x : Str) => ∃ p y q, v = V.ref p ∧ H5 p = some (.tup [.str x, y]) ∧ FrV K H5 y q ∧ SmOk 3 3 q) acc ps →
    ∃ (pa : List Addr) (kvs : List (Key × V)), acc = pa.map V.ref ∧ Paired (fun p kv => SqT K H5 p [kV kv.1, kv.2]) pa kvs ∧ All2 (fun (kv : Key × V) x => kv.1 = Sum.inr x ∧ ∃ q, FrV K H5 kv.2 q ∧ SmOk 3 3 q) kvs ps
  | _, _, .nil => ⟨[], [], rfl, .nil, .nil⟩
  | _, _, .cons ⟨p, y, q, h1, h2, h3, h4⟩ t => by
    obtain ⟨pa, kvs, e, a1, a2⟩ := wor_pairs t
    exact ⟨p :: pa, (Sum.inr _, y) :: kvs, by rw [h1, e]; rfl, .cons (SqT.of h2) a1, .cons ⟨rfl, q, h3, h4⟩ a2⟩
theorem WorS.but {H H' : Hp} {a bx : Addr} {ps : List Str} (h : WorS K H a ps) (b : But bx H H') (hn : a ≠ bx) (t : TX H H') : WorS K H' a ps := by
  obtain ⟨f, ⟨kvs, h1, h2, h3⟩, h4⟩ := h
  refine ⟨f, ⟨kvs, b _ _ hn h1, h2, h3⟩, fun x hx => ?_⟩
  obtain ⟨v, q, e1, e2, e3⟩ := h4 x hx
  exact ⟨v, q, e1, e2.mono t, e3⟩
theorem WorS.wl {H : Hp} {a p : Addr} {ps : List Str} {ys : List V} {o : HO} (h : WorS K H a ps) (hp : H p = some (.lst ys)) : WorS K (upd H p o) a ps := by
  obtain ⟨f, ⟨kvs, h1, h2, h3⟩, h4⟩ := h
  refine ⟨f, ⟨kvs, by rw [L2.upd_ne (ne_of h1 hp (by intro z; cases z))]; exact h1, h2, h3⟩, fun x hx => ?_⟩
  obtain ⟨v, q, e1, e2, e3⟩ := h4 x hx
  exact ⟨v, q, e1, e2.mono (.wl hp), e3⟩
theorem sm_sz {q : Rat} {a b : Nat} (h : SmOk a b q) (ha : a < 64) (hb : b < 64) : Sz 4000 q := (sm_gain h ha hb).2.mono (by decide)
def sp__law_net_by (K : PySem.W.Frag) : Sp := sp3 fun a b c H Q => ∃ (bx : Addr) (n : Nat), a = .ref bx ∧ b = .int 5 ∧ c = .int 8 ∧ BoxV H bx n ∧ n < 50000 ∧
  ∀ v H' ps ts, But bx H H' → BoxV H' bx (n + 1000) → NetV K H' v ps ts → NetOk ps ts → Q v H'
/-! _law_net_by: slots 0:_law_box_here 1:_law_most_places 2:_law_most_ties 3:_law_way 4:_law_great 5:_law_places 6:_law_many 7:_law_some 8:_law_worths 9:_law_ends 10:_law_turn 11:_law_at 12:_law_begin 13:_law_end 14:_law_gain 15:_law_less 16:_law_ties 17:_law_top 18:_law_place -/
abbrev N__law_net_by : List Str := ["_law_box_here", "_law_most_places", "_law_most_ties", "_law_way", "_law_great", "_law_places", "_law_many", "_law_some", "_law_worths", "_law_ends", "_law_turn", "_law_at", "_law_begin", "_law_end", "_law_gain", "_law_less", "_law_ties", "_law_top", "_law_place"]
theorem sc__law_net_by : FnScope N__law_net_by ["_law_box_here", "_law_most_places", "_law_most_ties"] (defScope s__law_net_by) := ⟨rfl, rfl, rfl, by decide +kernel, rfl, by decide +kernel, by decide +kernel⟩
theorem ok__law_net_by (T : Txt K mg) : DOk P w K mg base "_law_net_by" ["_law_box_here", "_law_most_places", "_law_most_ties"] 3 (sp__law_net_by K) := by
  have G__law_take := ok__law_take (P := P) (w := w) (base := base) T
  have G__law_any_price := ok__law_any_price (P := P) (w := w) (base := base) T
  have G__law_any_much := ok__law_any_much (P := P) (w := w) (base := base) T
  have G__law_product := ok__law_product (P := P) (w := w) (base := base) T
  have G__law_over := ok__law_over (P := P) (w := w) (base := base) T
  have G__law_any_gain := ok__law_any_gain (P := P) (w := w) (base := base) T
  have G__law_planted := ok__law_planted (P := P) (w := w) (base := base) T
  have G__law_names_by := ok__law_names_by (P := P) (w := w) (base := base) T
  refine T.d__law_net_by.ok sc__law_net_by sp3_len (fun f cdv A outer s H vs Q E hr h => ?_)
  refine ⟨_, (pss_cons (ps_par (i := 3) (j := 4) (by rfl) sc__law_net_by.nd rfl rfl (by decide) rfl rfl (pa_cons (pe_callD G__law_take (hr.mono (by decide)) (pa_cons (pv 0) (pa_cons pe_int pa_nil))) (pa_cons (pe_cmpR op_eq (pe_callD G__law_take (hr.mono (by decide)) (pa_cons (pv 0) (pa_cons pe_int pa_nil))) pe_int (nomark _)) pa_nil)) (by rfl))
        (Evl.pss_cut (ps_set (i := 5) sc__law_net_by.nd rfl (Or.inl rfl) (pe_callD G__law_names_by (hr.mono (by decide)) (pa_cons (pv 0) (pa_cons (pe_ifExp (pt_val (pv 4)) (pe_op op_add pe_int (pe_callD G__law_take (hr.mono (by decide)) (pa_cons (pv 0) (pa_cons pe_int pa_nil)))) (pe_op op_add pe_int (pe_callD G__law_take (hr.mono (by decide)) (pa_cons (pv 0) (pa_cons (pe_op op_sub (pv 1) pe_int) pa_nil))))) pa_nil))))
        (Evl.pss_cut (ps_set (i := 6) sc__law_net_by.nd rfl (Or.inl rfl) (pe_ifExp (pt_val (pv 4)) (pe_op op_add pe_int (pe_callD G__law_take (hr.mono (by decide)) (pa_cons (pv 0) (pa_cons pe_int pa_nil)))) (pe_op op_add pe_int (pe_callD G__law_take (hr.mono (by decide)) (pa_cons (pv 0) (pa_cons (pv 2) pa_nil))))))
        (pss_cons (ps_set (i := 7) sc__law_net_by.nd rfl (Or.inr rfl) (pe_lst (pa_cons (pe_tup (pa_cons pe_int (pa_cons pe_int pa_nil))) (pa_cons (pe_tup (pa_cons pe_int (pa_cons pe_int pa_nil))) (pa_cons (pe_tup (pa_cons pe_int (pa_cons pe_int pa_nil))) (pa_cons (pe_tup (pa_cons pe_int (pa_cons pe_int pa_nil))) (pa_cons (pe_tup (pa_cons pe_int (pa_cons pe_int pa_nil))) (pa_cons (pe_tup (pa_cons pe_int (pa_cons pe_int pa_nil))) (pa_cons (pe_tup (pa_cons pe_int (pa_cons pe_int pa_nil))) pa_nil)))))))))
        (pss_cons (ps_set (i := 8) sc__law_net_by.nd rfl (Or.inl rfl) (pe_callTy (call_dictP rfl) (by rfl) T.n_dict (by decide +kernel) (pa_cons (pe_lc (own := [("_law_place", 18)]) (g := gName 18) (tt := tYes) (by rfl) sc__law_net_by.nd (piT K (pv 5)) (blkOk_by (N := N__law_net_by) (sc := defScope s__law_net_by) (own := [("_law_place", 18)]) (by decide +kernel)) (fun _ _ _ _ _ => (pg_name (i := 18) sc__law_net_by.nd rfl (Or.inl rfl))) (fun _ _ _ _ _ => pts_nil) (fun _ _ _ _ _ => (pe_tup (pa_cons (pv 18) (pa_cons (pe_ix (ixL K) (pv 7) (pe_callD G__law_take (hr.mono (by decide)) (pa_cons (pv 0) (pa_cons pe_int pa_nil))) (fun _ _ => rfl)) pa_nil))))) pa_nil)))
        (Evl.pss_cut (ps_set (i := 9) sc__law_net_by.nd rfl (Or.inl rfl) (pe_ifExp (pt_cmpR op_eq (pv 3) pe_int (nomark _)) (pe_callD G__law_planted (hr.mono (by decide)) (pa_cons (pv 0) (pa_cons (pv 5) pa_nil))) (pe_lst pa_nil)))
        (pss_cons (ps_for PassesOwn.never rfl (pi_range1 (by rfl) T.n_range (pa_cons (pv 6) pa_nil)) (pg_name (i := 10) sc__law_net_by.nd rfl (Or.inl rfl)) (pss_cons (ps_set (i := 11) sc__law_net_by.nd rfl (Or.inl rfl) (pe_callD G__law_take (hr.mono (by decide)) (pa_cons (pv 0) (pa_cons (pe_callB (lenK K) (by rfl) T.n_len PySem.boot_len (pa_cons (pv 5) pa_nil)) pa_nil))))
        (pss_cons (ps_par (i := 12) (j := 13) (by rfl) sc__law_net_by.nd rfl rfl (by decide) rfl rfl (pa_cons (pe_ix (ixT K) (pv 5) (pv 11) (fun _ _ => rfl)) (pa_cons (pe_ix (ixT K) (pv 5) (pe_op op_mod (pe_op op_add (pe_op op_add (pv 11) pe_int) (pe_callD G__law_take (hr.mono (by decide)) (pa_cons (pv 0) (pa_cons (pe_op op_sub (pe_callB (lenK K) (by rfl) T.n_len PySem.boot_len (pa_cons (pv 5) pa_nil)) pe_int) pa_nil)))) (pe_callB (lenK K) (by rfl) T.n_len PySem.boot_len (pa_cons (pv 5) pa_nil))) (fun _ _ => rfl)) pa_nil)) (by rfl))
        (pss_cons (ps_set (i := 14) sc__law_net_by.nd rfl (Or.inl rfl) (pe_callD G__law_any_gain (hr.mono (by decide)) (pa_cons (pv 0) pa_nil)))
        (Evl.pss_cut (ps_if (pt_cmpR op_lt (pv 3) pe_int (nomark _)) (pss_cons (ps_set (i := 15) sc__law_net_by.nd rfl (Or.inl rfl) (pe_ix (ixL K) (pe_lst (pa_cons (pe_tup (pa_cons pe_int (pa_cons pe_int pa_nil))) (pa_cons (pe_tup (pa_cons pe_int (pa_cons pe_int pa_nil))) (pa_cons (pe_tup (pa_cons pe_int (pa_cons pe_int pa_nil))) (pa_cons (pe_tup (pa_cons pe_int (pa_cons pe_int pa_nil))) pa_nil))))) (pe_callD G__law_take (hr.mono (by decide)) (pa_cons (pv 0) (pa_cons pe_int pa_nil))) (fun _ _ => rfl)))
        (pss_one (ps_set (i := 14) sc__law_net_by.nd rfl (Or.inl rfl) (pe_callD G__law_product (hr.mono (by decide)) (pa_cons (pe_callD G__law_over (hr.mono (by decide)) (pa_cons (pe_dget (hu_of hr) (pv 8) (pv 12) (fun _ _ => rfl)) (pa_cons (pe_dget (hu_of hr) (pv 8) (pv 13) (fun _ _ => rfl)) pa_nil))) (pa_cons (pv 15) pa_nil)))))) pss_nil)
        (pss_one (ps_expr (pe_bm PySem.F.plainAttrs_list PySem.F.slot_list_insert PySem.F.type_list_insert mt_insert (pv 9) (pa_cons (pe_callD G__law_take (hr.mono (by decide)) (pa_cons (pv 0) (pa_cons (pe_op op_add (pe_callB (lenK K) (by rfl) T.n_len PySem.boot_len (pa_cons (pv 9) pa_nil)) pe_int) pa_nil))) (pa_cons (pe_tup (pa_cons (pv 12) (pa_cons (pv 13) (pa_cons (pv 14) pa_nil)))) pa_nil))))))))))
        (pss_cons (ps_set (i := 16) sc__law_net_by.nd rfl (Or.inl rfl) (pe_lst pa_nil))
        (pss_cons (ps_for PassesOwn.never rfl (piL K (pe_slice (slL K) (pv 9) po_none (po_some pe_int))) (pgT K 3 rfl (pgs_cons (pg_name (i := 12) sc__law_net_by.nd rfl (Or.inl rfl)) (pgs_cons (pg_name (i := 13) sc__law_net_by.nd rfl (Or.inl rfl)) (pgs_cons (pg_name (i := 14) sc__law_net_by.nd rfl (Or.inl rfl)) pgs_nil)))) (pss_cons (ps_set (i := 17) sc__law_net_by.nd rfl (Or.inl rfl) (pe_callD G__law_any_much (hr.mono (by decide)) (pa_cons (pv 0) pa_nil)))
        (pss_one (ps_expr (pe_bm PySem.F.plainAttrs_list PySem.F.slot_list_append PySem.F.type_list_append mt_append (pv 16) (pa_cons (pe_tup (pa_cons (pv 12) (pa_cons (pv 13) (pa_cons (pv 17) (pa_cons (pv 14) (pa_cons (pe_callD G__law_any_price (hr.mono (by decide)) (pa_cons (pv 0) pa_nil)) pa_nil)))))) pa_nil))))))
        (Evl.pss_cut (ps_if (PW.pt (pw_and (pt_cmpR op_lt (pe_callB (lenK K) (by rfl) T.n_len PySem.boot_len (pa_cons (pv 16) pa_nil)) pe_int (nomark _)) (pw_and1 (pt_cmpR op_eq (pe_callD G__law_take (hr.mono (by decide)) (pa_cons (pv 0) (pa_cons pe_int pa_nil))) pe_int (nomark _))))) (pss_one (ps_expr (pe_bm PySem.F.plainAttrs_list PySem.F.slot_list_append PySem.F.type_list_append mt_append (pv 16) (pa_cons (pe_ix (ixL K) (pv 16) pe_int (fun _ _ => rfl)) pa_nil)))) pss_nil)
        (pss_one (ps_ret (pe_tup (pa_cons (pv 5) (pa_cons (pe_callTy call_tuple_of (by rfl) T.n_tuple (by decide +kernel) (pa_cons (pv 16) pa_nil)) pa_nil))))))))))))))), ?_⟩
  obtain ⟨_, _, _, rfl, bx, n, rfl, rfl, rfl, hb, hn, k⟩ := h
  refine ⟨_, rfl, _, _, rfl, bx, 4, n, rfl, rfl, by decide, by decide, hb, by omega, fun w0 H1 hw0 b1 hb1 => ?_⟩
  refine ⟨_, rfl, _, _, rfl, bx, 8, n + 1, rfl, rfl, by decide, by decide, hb1, by omega, fun g0 H2 hg0 b2 hb2 => ⟨rfl, _, _, rfl, ?_⟩⟩
  generalize decide (V.int (g0 : Nat) = V.int 0) = gb
  have b02 := b1.trans b2
  -- places
  refine ⟨fun σ H' => ∃ (pt : Addr) (ps : List Str), σ = [some (.ref bx), some (.int 5), some (.int 8), some (.int w0), some (.bl gb), some (.ref pt), none, none, none, none, none, none, none, none, none, none, none, none, none] ∧ NB_ K bx H H' (n + 23) pt ps ∧ ps.Nodup ∧ 2 ≤ ps.length ∧ ps.length ≤ 10, ?_, ?_⟩
  · cases gb with
    | true =>
      refine ⟨_, rfl, _, rfl, _, rfl, iteT ⟨_, rfl, _, _, rfl, bx, 4, n + 2, rfl, rfl, by decide, by decide, hb2, by omega, fun r H3 hr3 b3 hb3 => ⟨_, _, rfl, rfl, ?_⟩⟩⟩
      refine ⟨_, _, rfl, bx, 7 + r, n + 3, rfl, congrArg V.int (by omega), by omega, by omega, hb3, by omega, fun t H4 ns b4 hb4 ht hnd hl => ⟨t, ns, rfl, ⟨(b02.trans b3).trans b4, hb4.mono (by omega), ht⟩, hnd, by omega, by omega⟩⟩
    | false =>
      refine ⟨_, rfl, _, rfl, _, rfl, iteF ⟨_, rfl, _, rfl, _, _, rfl, rfl, _, _, rfl, bx, 4, n + 2, rfl, rfl, by decide, by decide, hb2, by omega, fun r H3 hr3 b3 hb3 => ⟨_, _, rfl, rfl, ?_⟩⟩⟩
      refine ⟨_, _, rfl, bx, 2 + r, n + 3, rfl, congrArg V.int (by omega), by omega, by omega, hb3, by omega, fun t H4 ns b4 hb4 ht hnd hl => ⟨t, ns, rfl, ⟨(b02.trans b3).trans b4, hb4.mono (by omega), ht⟩, hnd, by omega, by omega⟩⟩
  rintro σ H3 ⟨pt, ps, rfl, N3, hnd, hp2, hp10⟩
  -- many
  refine ⟨fun σ H' => ∃ m : Nat, σ = [some (.ref bx), some (.int 5), some (.int 8), some (.int w0), some (.bl gb), some (.ref pt), some (.int m), none, none, none, none, none, none, none, none, none, none, none, none] ∧ NB_ K bx H H' (n + 24) pt ps ∧ 1 ≤ m ∧ m ≤ 24, ?_, ?_⟩
  · cases gb with
    | true =>
      refine ⟨_, rfl, _, rfl, iteT ⟨_, rfl, _, _, rfl, bx, 15, n + 23, rfl, rfl, by decide, by decide, N3.box, by omega, fun r H4 hr4 b4 hb4 => ⟨_, _, rfl, rfl, 10 + r, ?_, N3.tx b4 hb4, by omega, by omega⟩⟩⟩
      rw [Int.natCast_add]
      rfl
    | false =>
      refine ⟨_, rfl, _, rfl, iteF ⟨_, rfl, _, rfl, _, _, rfl, bx, 8, n + 23, rfl, rfl, by decide, by decide, N3.box, by omega, fun r H4 hr4 b4 hb4 => ⟨_, _, rfl, rfl, 1 + r, ?_, N3.tx b4 hb4, by omega, by omega⟩⟩⟩
      rw [Int.natCast_add]
      rfl
  rintro σ H4 ⟨m, rfl, N4, hm1, hm24⟩
  -- some
  refine ⟨smallE (by simp), fun c1 hc1 => ⟨smallE (by simp), fun c2 hc2 => ⟨smallE (by simp), fun c3 hc3 => ⟨smallE (by simp), fun c4 hc4 => ⟨smallE (by simp), fun c5 hc5 => ⟨smallE (by simp), fun c6 hc6 => ⟨smallE (by simp), fun c7 hc7 => ⟨smallE (by simp), fun sm hsm => ?_⟩⟩⟩⟩⟩⟩⟩⟩
  have sz : ∀ (a b : Nat), a ≤ 3 → b ≤ 3 → ∀ q : Rat, q.num = a → q.den = b → Sz 4000 q := fun a b ha hb q e1 e2 => Sz.mono (a := 3) ⟨by rw [e1]; show a < 8; omega, by rw [e2]; show b < 8; omega⟩ (by decide)
  have x1 := Ex.new (o := .tup [.int 1, .int 1]) hc1
  have x2 := Ex.new (o := .tup [.int 2, .int 1]) hc2
  have x3 := Ex.new (o := .tup [.int 3, .int 1]) hc3
  have x4 := Ex.new (o := .tup [.int 1, .int 2]) hc4
  have x5 := Ex.new (o := .tup [.int 1, .int 3]) hc5
  have x6 := Ex.new (o := .tup [.int 3, .int 2]) hc6
  have x7 := Ex.new (o := .tup [.int 2, .int 3]) hc7
  have x8 := Ex.new (o := .lst [.ref c1, .ref c2, .ref c3, .ref c4, .ref c5, .ref c6, .ref c7]) hsm
  have hsm0 : (upd (upd (upd (upd (upd (upd (upd (upd H4 c1 (.tup [.int 1, .int 1])) c2 (.tup [.int 2, .int 1])) c3 (.tup [.int 3, .int 1])) c4 (.tup [.int 1, .int 2])) c5 (.tup [.int 1, .int 3])) c6 (.tup [.int 3, .int 2])) c7 (.tup [.int 2, .int 3])) sm (.lst [.ref c1, .ref c2, .ref c3, .ref c4, .ref c5, .ref c6, .ref c7])) sm = some (.lst [.ref c1, .ref c2, .ref c3, .ref c4, .ref c5, .ref c6, .ref c7]) := upd_same
  generalize hHs : upd (upd (upd (upd (upd (upd (upd (upd H4 c1 (.tup [.int 1, .int 1])) c2 (.tup [.int 2, .int 1])) c3 (.tup [.int 3, .int 1])) c4 (.tup [.int 1, .int 2])) c5 (.tup [.int 1, .int 3])) c6 (.tup [.int 3, .int 2])) c7 (.tup [.int 2, .int 3])) sm (.lst [.ref c1, .ref c2, .ref c3, .ref c4, .ref c5, .ref c6, .ref c7]) = Hs at x8 hsm0
  have hsmall : ∀ r : Nat, r < 7 → ∃ v q, [V.ref c1, .ref c2, .ref c3, .ref c4, .ref c5, .ref c6, .ref c7][r]? = some v ∧ FrV K Hs v q ∧ SmOk 3 3 q := by
    intro r hr7
    match r, hr7 with
    | 0, _ => exact ⟨_, mkRat 1 1, rfl, (fr_new 1 1 (mkRat 1 1) (by decide +kernel) (by decide +kernel) (sz 1 1 (by decide) (by decide) _ (by decide +kernel) (by decide +kernel))).ex (x2.trans (x3.trans (x4.trans (x5.trans (x6.trans (x7.trans x8)))))), by decide +kernel, by decide +kernel, by decide +kernel⟩
    | 1, _ => exact ⟨_, mkRat 2 1, rfl, (fr_new 2 1 (mkRat 2 1) (by decide +kernel) (by decide +kernel) (sz 2 1 (by decide) (by decide) _ (by decide +kernel) (by decide +kernel))).ex (x3.trans (x4.trans (x5.trans (x6.trans (x7.trans x8))))), by decide +kernel, by decide +kernel, by decide +kernel⟩
    | 2, _ => exact ⟨_, mkRat 3 1, rfl, (fr_new 3 1 (mkRat 3 1) (by decide +kernel) (by decide +kernel) (sz 3 1 (by decide) (by decide) _ (by decide +kernel) (by decide +kernel))).ex (x4.trans (x5.trans (x6.trans (x7.trans x8)))), by decide +kernel, by decide +kernel, by decide +kernel⟩
    | 3, _ => exact ⟨_, mkRat 1 2, rfl, (fr_new 1 2 (mkRat 1 2) (by decide +kernel) (by decide +kernel) (sz 1 2 (by decide) (by decide) _ (by decide +kernel) (by decide +kernel))).ex (x5.trans (x6.trans (x7.trans x8))), by decide +kernel, by decide +kernel, by decide +kernel⟩
    | 4, _ => exact ⟨_, mkRat 1 3, rfl, (fr_new 1 3 (mkRat 1 3) (by decide +kernel) (by decide +kernel) (sz 1 3 (by decide) (by decide) _ (by decide +kernel) (by decide +kernel))).ex (x6.trans (x7.trans x8)), by decide +kernel, by decide +kernel, by decide +kernel⟩
    | 5, _ => exact ⟨_, mkRat 3 2, rfl, (fr_new 3 2 (mkRat 3 2) (by decide +kernel) (by decide +kernel) (sz 3 2 (by decide) (by decide) _ (by decide +kernel) (by decide +kernel))).ex (x7.trans x8), by decide +kernel, by decide +kernel, by decide +kernel⟩
    | 6, _ => exact ⟨_, mkRat 2 3, rfl, (fr_new 2 3 (mkRat 2 3) (by decide +kernel) (by decide +kernel) (sz 2 3 (by decide) (by decide) _ (by decide +kernel) (by decide +kernel))).ex x8, by decide +kernel, by decide +kernel, by decide +kernel⟩
  have e45 := (x1.trans (x2.trans (x3.trans (x4.trans (x5.trans (x6.trans (x7.trans x8)))))))
  have hsmH4 : H4 sm = none := x1.back (x2.back (x3.back (x4.back (x5.back (x6.back (x7.back hsm))))))
  clear hHs x1 x2 x3 x4 x5 x6 x7 x8 hc1 hc2 hc3 hc4 hc5 hc6 hc7 hsm
  have hsmb : sm ≠ bx := N4.box.ne hsmH4
  have N5 : NB_ K bx H Hs (n + 24) pt ps := N4.tx (.of e45) (N4.box.ex e45)
  -- worths
  refine ⟨_, rfl, pt, rfl, ⟨_, SqT.of N5.pt⟩, fun D hD => ?_⟩
  have hDb : D ≠ bx := N5.box.ne hD
  have hDs : D ≠ sm := (ne_of_none hsm0 hD).symm
  refine lc_it (D := D) (walk_tup (K := K) (a := pt) (xs := ps.map V.str)) (fun i H' => NB_ K bx H H' (n + 24 + i) pt ps ∧ But bx Hs H' ∧ ∃ acc, H' D = some (.lst acc) ∧ All2 (fun v (x : Str) => ∃ p y q, v = V.ref p ∧ H' p = some (.tup [.str x, y]) ∧ FrV K H' y q ∧ SmOk 3 3 q) acc (ps.take i)) ⟨N5.tx (.of (Ex.new hD)) (N5.box.ex (Ex.new hD)), .of (Ex.new hD), [], upd_same, .nil⟩ (fun i H' _ q => SqT.of q.1.pt) ?_ ?_
  · rintro i x Ha Hb hi ⟨Na, ba, acc, hacc, hall⟩ ⟨rfl, hx⟩
    have hil : i < ps.length := by simpa using hi
    have hpi : ps[i]? = some ps[i] := List.getElem?_eq_getElem hil
    rw [List.getElem?_map, hpi] at hx
    cases hx
    refine ⟨rfl, _, rfl, _, rfl, _, rfl, _, _, rfl, bx, 7, n + 24 + i, rfl, rfl, by decide, by decide, Na.box, by omega, fun r Hc hr7 bc hbc => ?_⟩
    have Nc := Na.tx bc hbc
    obtain ⟨v, q, hv, rv, sq⟩ := hsmall r hr7
    have bsc := ba.trans bc
    have rv' : FrV K Hc v q := rv.mono (N5.box.tx bsc)
    refine ⟨sm, _, _, v, rfl, rfl, SqL.of (bsc _ _ hsmb hsm0), atI_nat hv, smallE (by simp), fun t ht => ?_⟩
    have et : Ex Hc (upd Hc t (.tup [.str ps[i], v])) := Ex.new ht
    have hD2 : upd Hc t (.tup [.str ps[i], v]) D = some (.lst acc) := et _ _ (bc _ _ hDb hacc)
    refine ⟨acc, hD2, small ?_, ?_⟩
    · rw [hall.length, List.length_take]; omega
    have tx : TX Hb (upd (upd Hc t (.tup [.str ps[i], v])) D (.lst (acc ++ [.ref t]))) := (Na.box.tx bc).trans ((TX.of et).trans (.wl hD2))
    have hD0 : Hs D = none := hD
    have bs2 : But bx Hs (upd (upd Hc t (.tup [.str ps[i], v])) D (.lst (acc ++ [.ref t]))) := (bsc.ex et).upd hD0
    refine ⟨⟨N5.but.trans bs2, (hbc.ex et).upd hDb, N5.box.tx bs2 _ _ N5.pt⟩, bs2, acc ++ [.ref t], upd_same, ?_⟩
    rw [take_snoc hpi]
    refine (hall.mono fun v x ⟨p, y, q, h1, h2, h3, h4⟩ => ⟨p, y, q, h1, tx _ _ h2, h3.mono tx, h4⟩).snoc ⟨t, v, q, rfl, ?_, (rv'.ex et).mono (.wl hD2), sq⟩
    rw [upd_ne (ne_of upd_same hD2 (by intro z; cases z)), upd_same]
  rintro H5 ⟨N6, b56, acc, hacc, hall⟩
  rw [List.length_map, List.take_length] at hall
  obtain ⟨pa, kvs, rfl, hpair, hkv⟩ := wor_pairs hall
  refine ⟨D, pa, kvs, rfl, SqL.of hacc, hpair, fun wd hwd => ?_⟩
  have e56 : Ex H5 (upd H5 wd (.dK (mergeK [] kvs))) := Ex.new hwd
  have hW : WorS K (upd H5 wd (.dK (mergeK [] kvs))) wd ps := by
    refine ⟨fun x => valV (mergeK [] kvs) (Sum.inr x), ⟨_, upd_same, ?_, fun _ => rfl⟩, fun x hx => ?_⟩
    · have h1 := merge_len kvs []
      have h2 := hkv.length
      simp at h1
      omega
    · obtain ⟨v, hv, q, r1, r2⟩ := valV_pairs (R := fun v => ∃ q, FrV K H5 v q ∧ SmOk 3 3 q) hkv hnd x hx
      refine ⟨v, q, ?_, r1.ex e56, r2⟩
      have hk1 : (kvs.map (·.1)).Nodup := by
        rw [keys_pairs (R := fun v => ∃ q, FrV K H5 v q ∧ SmOk 3 3 q) hkv]
        exact hnd.map _ (fun a b hab q => hab (Sum.inr.inj q))
      have hm : valV (mergeK [] kvs) (Sum.inr x) = _ := valV_merge _ _ hk1
      show valV (mergeK [] kvs) (Sum.inr x) = some v
      rw [hm, hv]
      rfl
  have hwdb : wd ≠ bx := N6.box.ne hwd
  have N7 : NB_ K bx H (upd H5 wd (.dK (mergeK [] kvs))) (n + 34) pt ps := N6.tx (.of e56) ((N6.box.ex e56).mono (by rw [List.length_map]; omega))
  generalize upd H5 wd (.dK (mergeK [] kvs)) = Hd at N7 hW
  clear hacc hall hpair hkv e56 hwd
  -- ends
  refine ⟨fun σ H' => ∃ (ep : Addr) (vs : List V) (es : List (Step Str)), σ = [some (.ref bx), some (.int 5), some (.int 8), some (.int w0), some (.bl gb), some (.ref pt), some (.int m), some (.ref sm), some (.ref wd), some (.ref ep), none, none, none, none, none, none, none, none, none] ∧ NB_ K bx H H' (n + 50) pt ps ∧ WorS K H' wd ps ∧ H' ep = some (.lst vs) ∧ All2 (LaneV K H') vs es ∧ (∀ s ∈ es, EndOk ps s) ∧ es.length ≤ 10 ∧ ep ≠ bx ∧ H ep = none, ?_, ?_⟩
  · refine ⟨_, rfl, rfl, _, rfl, ite2 (fun _ => ?_) (fun _ => ?_)⟩
    · refine ⟨_, rfl, _, rfl, _, _, rfl, bx, pt, ps, n + 34, rfl, rfl, .of N7.pt, hnd, hp2, hp10, N7.box, by omega, fun ep H' vs es hep hepb bb hbb hl hv hE hl10 => ?_⟩
      exact ⟨ep, vs, es, rfl, N7.tx bb (hbb.mono (by omega)), hW.but bb hwdb (N7.box.tx bb), hl, hv, hE, hl10, hepb, N7.but.back hepb hep⟩
    · refine ⟨smallE (by simp), fun ep hep => ?_⟩
      have ee : Ex Hd (upd Hd ep (.lst [])) := Ex.new hep
      have hepb := N7.box.ne hep
      exact ⟨ep, [], [], rfl, N7.tx (.of ee) ((N7.box.ex ee).mono (by omega)), hW.but (.of ee) hwdb (.of ee), upd_same, .nil, (by simp), by simp, hepb, N7.but.back hepb hep⟩
  clear N3 N4 N5 N6 N7 hW
  rintro σ H7 ⟨ep, vs, es, rfl, N7, hW, hep, hvs, hE, hl10, hepb, hep0⟩
  -- the turns
  refine ⟨_, rfl, (m : Int), rfl, by omega, by omega, ?_⟩
  rw [Int.toNat_natCast]
  refine for_it (walk_range (lo := 0)) (fun i σ H' => ∃ (vs : List V) (es : List (Step Str)) (x10 x11 x12 x13 x14 x15 : Option V), σ = [some (.ref bx), some (.int 5), some (.int 8), some (.int w0), some (.bl gb), some (.ref pt), some (.int m), some (.ref sm), some (.ref wd), some (.ref ep), x10, x11, x12, x13, x14, x15, none, none, none] ∧ NB_ K bx H H' (n + 50 + 10 * i) pt ps ∧ WorS K H' wd ps ∧ H' ep = some (.lst vs) ∧ All2 (LaneV K H') vs es ∧ (∀ s ∈ es, EndOk ps s) ∧ es.length ≤ 10 + i ∧ i ≤ es.length)
    ⟨vs, es, none, none, none, none, none, none, rfl, N7, hW, hep, hvs, hE, hl10, Nat.zero_le _⟩ (fun _ _ _ _ _ => trivial) ?_ ?_
  · rintro i y σ Hx Ha hi ⟨vs, es, x10, x11, x12, x13, x14, x15, rfl, Na, hWa, hepa, hvsa, hEa, hla, hia⟩ ⟨rfl, rfl⟩
    clear hW hep hvs hE hl10 N7
    have hlen : ((ps.map V.str).length : Int) = (ps.length : Int) := by rw [List.length_map]
    refine ⟨_, rfl, _, rfl, pt, _, rfl, .inr (SqT.of Na.pt), _, _, rfl, bx, ps.length, _, rfl, congrArg V.int hlen, by omega, by omega, Na.box, by omega, fun r Hb hr bb hbb => ?_⟩
    have Nb := Na.tx bb hbb
    refine ⟨_, rfl, _, rfl, pt, _, _, .str (ps.getD r ""), rfl, rfl, SqT.of Nb.pt, at_str hr, _, rfl, _, rfl, _, _, rfl, rfl, _, rfl, _, rfl, pt, _, rfl, .inr (SqT.of Nb.pt), _, _, rfl, rfl, _, _, rfl, bx, ps.length - 1, _, rfl, congrArg V.int (by rw [hlen]; omega), by omega, by omega, hbb, by omega, fun r2 Hc hr2 bc hbc => ?_⟩
    have Nc := Nb.tx bc hbc
    have hmod : ((r : Int) + 1 + (r2 : Int)) % (((ps.map V.str).length : Nat) : Int) = (((r + (1 + r2)) % ps.length : Nat) : Int) := by
      rw [hlen, Int.natCast_emod, Int.natCast_add, Int.natCast_add]
      congr 1
      omega
    have hlt2 : (r + (1 + r2)) % ps.length < ps.length := Nat.mod_lt _ (by omega)
    refine ⟨_, _, rfl, rfl, _, rfl, pt, _, rfl, .inr (SqT.of Nc.pt), _, _, rfl, rfl, (by rw [hlen]; omega), pt, _, _, .str (ps.getD ((r + (1 + r2)) % ps.length) ""), rfl, rfl, SqT.of Nc.pt, (by rw [hmod]; exact at_str hlt2), _, _, rfl, ?_⟩
    have hbe : ps.getD r "" ≠ ps.getD ((r + (1 + r2)) % ps.length) "" := nd_at hnd hr hlt2 (by
      have := mod_ne (a := r) (m := 1 + r2) (n := ps.length) hp2 (by omega) (by omega)
      rwa [Nat.mod_eq_of_lt hr] at this)
    have hbm := mem_at hr
    have hem := mem_at hlt2
    generalize ps.getD r "" = sb at hbe hbm
    generalize ps.getD ((r + (1 + r2)) % ps.length) "" = se at hbe hem
    refine ⟨_, rfl, _, rfl, bx, _, rfl, hbc, by omega, fun vg Hg q hq bg hbg frg => ?_⟩
    have bag := (bb.trans bc).trans bg
    have tag : TX Ha Hg := Na.box.tx bag
    -- gain
    refine ⟨fun σ H' => ∃ (vg : V) (q : Rat) (x15 : Option V), σ = [some (.ref bx), some (.int 5), some (.int 8), some (.int w0), some (.bl gb), some (.ref pt), some (.int m), some (.ref sm), some (.ref wd), some (.ref ep), some (.int (0 + (i : Nat))), some (.int r), some (.str sb), some (.str se), some vg, x15, none, none, none] ∧ GainOk q ∧ FrV K H' vg q ∧ But bx Ha H' ∧ BoxV H' bx (n + 50 + 10 * i + 6), ?_, ?_⟩
    · refine ⟨_, rfl, _, _, rfl, rfl, _, rfl, ite2 (fun _ => ?_) (fun _ => ?_)⟩
      · refine ⟨smallE (by simp), fun d1 hd1 => ⟨smallE (by simp), fun d2 hd2 => ⟨smallE (by simp), fun d3 hd3 => ⟨smallE (by simp), fun d4 hd4 => ⟨smallE (by simp), fun sl hsl => ?_⟩⟩⟩⟩⟩
        have y1 := Ex.new (o := .tup [.int 1, .int 1]) hd1
        have y2 := Ex.new (o := .tup [.int 1, .int 1]) hd2
        have y3 := Ex.new (o := .tup [.int 1, .int 2]) hd3
        have y4 := Ex.new (o := .tup [.int 5, .int 6]) hd4
        have y5 := Ex.new (o := .lst [.ref d1, .ref d2, .ref d3, .ref d4]) hsl
        have hsl0 : (upd (upd (upd (upd (upd Hg d1 (.tup [.int 1, .int 1])) d2 (.tup [.int 1, .int 1])) d3 (.tup [.int 1, .int 2])) d4 (.tup [.int 5, .int 6])) sl (.lst [.ref d1, .ref d2, .ref d3, .ref d4])) sl = some (.lst [.ref d1, .ref d2, .ref d3, .ref d4]) := upd_same
        generalize hHl : upd (upd (upd (upd (upd Hg d1 (.tup [.int 1, .int 1])) d2 (.tup [.int 1, .int 1])) d3 (.tup [.int 1, .int 2])) d4 (.tup [.int 5, .int 6])) sl (.lst [.ref d1, .ref d2, .ref d3, .ref d4]) = Hl at y5 hsl0
        have hless : ∀ r : Nat, r < 4 → ∃ v q, [V.ref d1, .ref d2, .ref d3, .ref d4][r]? = some v ∧ FrV K Hl v q ∧ SmOk 5 6 q := by
          intro r hr4
          match r, hr4 with
          | 0, _ => exact ⟨_, mkRat 1 1, rfl, (fr_new 1 1 (mkRat 1 1) (by decide +kernel) (by decide +kernel) (Sz.mono (a := 3) ⟨by decide +kernel, by decide +kernel⟩ (by decide))).ex (y2.trans (y3.trans (y4.trans y5))), by decide +kernel, by decide +kernel, by decide +kernel⟩
          | 1, _ => exact ⟨_, mkRat 1 1, rfl, (fr_new 1 1 (mkRat 1 1) (by decide +kernel) (by decide +kernel) (Sz.mono (a := 3) ⟨by decide +kernel, by decide +kernel⟩ (by decide))).ex (y3.trans (y4.trans y5)), by decide +kernel, by decide +kernel, by decide +kernel⟩
          | 2, _ => exact ⟨_, mkRat 1 2, rfl, (fr_new 1 2 (mkRat 1 2) (by decide +kernel) (by decide +kernel) (Sz.mono (a := 3) ⟨by decide +kernel, by decide +kernel⟩ (by decide))).ex (y4.trans y5), by decide +kernel, by decide +kernel, by decide +kernel⟩
          | 3, _ => exact ⟨_, mkRat 5 6, rfl, (fr_new 5 6 (mkRat 5 6) (by decide +kernel) (by decide +kernel) (Sz.mono (a := 3) ⟨by decide +kernel, by decide +kernel⟩ (by decide))).ex y5, by decide +kernel, by decide +kernel, by decide +kernel⟩
        have ecl := (y1.trans (y2.trans (y3.trans (y4.trans y5))))
        refine ⟨_, rfl, _, _, rfl, bx, 4, _, rfl, rfl, by decide, by decide, hbg.ex ecl, by omega, fun r3 Hm hr3 bm hbm3 => ?_⟩
        have hslb : sl ≠ bx := hbg.ne (y1.back (y2.back (y3.back (y4.back hsl))))
        obtain ⟨vl, ql, hvl, rl, sql⟩ := hless r3 hr3
        have tl := (hbg.ex ecl).tx bm
        refine ⟨sl, _, _, vl, rfl, rfl, SqL.of (bm _ _ hslb hsl0), atI_nat hvl, ?_⟩
        have bam := (bag.ex ecl).trans bm
        have hWm := hWa.but bam hwdb (Na.box.tx bam)
        obtain ⟨f, fd, fv⟩ := hWm
        obtain ⟨v1, q1, e1, r1, s1⟩ := fv sb hbm
        obtain ⟨v2, q2, e2, r2', s2⟩ := fv se hem
        have dg1 : DGet Hm wd (.str sb) (some v1) := e1 ▸ fd.get sb
        have dg2 : DGet Hm wd (.str se) (some v2) := e2 ▸ fd.get se
        have sd := sm_div s1 s2
        have sp := sm_mul sd sql
        refine ⟨_, rfl, _, rfl, wd, v1, rfl, dg1, _, rfl, _, rfl, wd, v2, rfl, dg2, _, _, rfl, q1, q2, r1, r2', s2.1, sm_sz sd (by decide) (by decide), fun vo Ho eo ho => ?_⟩
        refine ⟨_, rfl, _, _, rfl, q1 / q2, ql, ho, (rl.mono tl).ex eo, trivial, sm_sz sp (by decide) (by decide), fun vp Hp ep' hp => ?_⟩
        exact ⟨vp, _, _, rfl, sm_gain sp (by decide) (by decide), hp, (bam.ex eo).ex ep', ((hbm3.ex eo).ex ep').mono (by omega)⟩
      · exact ⟨vg, q, _, rfl, hq, frg, bag, hbg.mono (by omega)⟩
    rintro σ Hq ⟨vg, q, x15, rfl, hq, frg, bag, hbq⟩
    have taq : TX Ha Hq := Na.box.tx bag
    have hepq := bag _ _ hepb hepa
    have hvq := hvsa.tm tm_lane taq
    have lvs : vs.length = es.length := hvsa.length
    -- insert
    refine ⟨_, rfl, .inl ⟨rfl, _, SqL.of hepq⟩, _, rfl, _, rfl, ep, _, rfl, .inl (SqL.of hepq), _, _, rfl, rfl, _, _, rfl, bx, es.length + 1, _, rfl, congrArg V.int (by rw [lvs]; omega), by omega, by omega, hbq, by omega, fun r4 Hr hr4 br hbr => ?_⟩
    refine ⟨_, rfl, _, rfl, _, rfl, smallE (by simp), fun t ht => ?_⟩
    have et : Ex Hr (upd Hr t (.tup [.str sb, .str se, vg])) := Ex.new ht
    have bar := (bag.trans br).ex et
    have hept := bar _ _ hepb hepa
    refine ⟨ep, vs, (r4 : Int), .ref t, rfl, rfl, hept, small (by omega), by omega, by omega, ?_⟩
    have tqt : TX Hq (upd Hr t (.tup [.str sb, .str se, vg])) := (hbq.tx br).trans (.of et)
    have tx2 : TX (upd Hr t (.tup [.str sb, .str se, vg])) (upd (upd Hr t (.tup [.str sb, .str se, vg])) ep (.lst (vs.take (r4 : Int).toNat ++ [.ref t] ++ vs.drop (r4 : Int).toNat))) := .wl hept
    have hbt : BoxV (upd Hr t (.tup [.str sb, .str se, vg])) bx (n + 50 + 10 * i + 6 + 1) := hbr.ex et
    have Nt := Na.tx bar hbt
    have htt : (upd (upd Hr t (.tup [.str sb, .str se, vg])) ep (.lst (vs.take (r4 : Int).toNat ++ [.ref t] ++ vs.drop (r4 : Int).toNat))) t = some (.tup [.str sb, .str se, vg]) := by
      rw [upd_ne (ne_of upd_same hept (by intro z; cases z)), upd_same]
    have hall := (hvq.tm tm_lane tqt).tm tm_lane tx2
    refine ⟨vs.take (r4 : Int).toNat ++ [.ref t] ++ vs.drop (r4 : Int).toNat, es.take (r4 : Int).toNat ++ [laneOf sb se q] ++ es.drop (r4 : Int).toNat, _, _, _, _, _, _, rfl, ⟨Nt.but.upd hep0, (hbt.upd hepb).mono (by omega), tx2 _ _ Nt.pt⟩, (hWa.but bar hwdb (Na.box.tx bar)).wl hept, upd_same, ((hall.take _).append (.cons ⟨t, vg, rfl, .of htt, (frg.mono tqt).mono tx2⟩ .nil)).append (hall.drop _), fun s hs => ?_, ?_, ?_⟩
    · rcases List.mem_append.mp hs with z | z
      · rcases List.mem_append.mp z with z | z
        · exact hEa s (List.mem_of_mem_take z)
        · rw [List.mem_singleton.mp z]; exact ⟨hbm, hem, hbe, hq⟩
      · exact hEa s (List.mem_of_mem_drop z)
    · rw [List.length_append, List.length_append, List.length_take, List.length_drop, List.length_singleton, Int.toNat_natCast]
      omega
    · rw [List.length_append, List.length_append, List.length_take, List.length_drop, List.length_singleton, Int.toNat_natCast]
      omega
  clear hW hep hvs hE hl10 N7
  rintro σ H8 ⟨vs, es, x10, x11, x12, x13, x14, x15, rfl, N8, hW, hep, hvs, hE, hle, hme⟩
  clear hW
  -- ties
  refine ⟨smallE (by simp), fun tp htp => ?_⟩
  have e8 : Ex H8 (upd H8 tp (.lst [])) := Ex.new htp
  have htpb := N8.box.ne htp
  have htpe : tp ≠ ep := (ne_of_none hep htp).symm
  refine ⟨_, rfl, _, rfl, ep, _, rfl, SqL.of (e8 _ _ hep), fun sp hsp => ?_⟩
  have ec : cutV vs none (some (24 : Int)) = vs.take 24 := cut_to vs 24
  rw [ec]
  have e9 : Ex (upd H8 tp (.lst [])) (upd (upd H8 tp (.lst [])) sp (.lst (vs.take 24))) := Ex.new hsp
  have e89 := e8.trans e9
  have hsp8 : H8 sp = none := e8.back hsp
  have hspb := N8.box.ne hsp8
  have hspt : sp ≠ tp := (ne_of_none upd_same hsp).symm
  have hvs24 : All2 (LaneV K (upd (upd H8 tp (.lst [])) sp (.lst (vs.take 24)))) (vs.take 24) (es.take 24) := (hvs.tm tm_lane (.of e89)).take 24
  have htp9 : (upd (upd H8 tp (.lst [])) sp (.lst (vs.take 24))) tp = some (.lst []) := e9 _ _ upd_same
  have hsp9 : (upd (upd H8 tp (.lst [])) sp (.lst (vs.take 24))) sp = some (.lst (vs.take 24)) := upd_same
  have N9 : NB_ K bx H (upd (upd H8 tp (.lst [])) sp (.lst (vs.take 24))) (n + 300) pt ps := N8.tx (.of e89) ((N8.box.ex e89).mono (by omega))
  generalize (upd (upd H8 tp (.lst [])) sp (.lst (vs.take 24))) = H9 at hvs24 htp9 hsp9 N9
  have htpH : H tp = none := N8.but.back htpb htp
  refine ⟨sp, rfl, ⟨_, SqL.of hsp9⟩, for_list (K := K) (a := sp) (xs := vs.take 24) (fun i σ H' => ∃ (x12 x13 x14 x17 : Option V) (acc : List V) (ts : List (Tie Str)), σ = [some (.ref bx), some (.int 5), some (.int 8), some (.int w0), some (.bl gb), some (.ref pt), some (.int m), some (.ref sm), some (.ref wd), some (.ref ep), x10, x11, x12, x13, x14, x15, some (.ref tp), x17, none] ∧ NB_ K bx H H' (n + 300 + 4 * i) pt ps ∧ H' sp = some (.lst (vs.take 24)) ∧ All2 (LaneV K H') (vs.take 24) (es.take 24) ∧ H' tp = some (.lst acc) ∧ All2 (TieV K H') acc ts ∧ ts.length = i ∧ (∀ t ∈ ts, TieOk ps t))
    ⟨_, _, _, _, [], [], rfl, N9, hsp9, hvs24, htp9, .nil, rfl, (by simp)⟩ (fun i σ H' _ ⟨_, _, _, _, _, _, _, _, h, _⟩ => SqL.of h) ?_ ?_⟩
  · rintro i v σ Ha hv ⟨x12, x13, x14, x17, acc, ts, rfl, Na, hspa, hva, htpa, hacc, hti, hT⟩
    have hi24 : i < 24 := by
      have := (List.getElem?_eq_some_iff.mp hv).1
      rw [List.length_take] at this
      omega
    obtain ⟨sE, hsE, rE⟩ := hva.get hv
    have hsEm : sE ∈ es := List.mem_of_mem_take (List.mem_of_getElem? hsE)
    obtain ⟨k1, k2, k3, k4⟩ := hE sE hsEm
    obtain ⟨ta, vg, rfl, hta, frg⟩ := rE
    refine ⟨ta, _, rfl, hta.sq, rfl, _, _, rfl, _, _, rfl, _, _, rfl, rfl, ?_⟩
    refine ⟨_, rfl, _, rfl, bx, _, rfl, Na.box, by omega, fun vm Hb qm hqm bb hbb frm => ?_⟩
    have tab := Na.box.tx bb
    have htpb' := bb _ _ htpb htpa
    refine ⟨_, rfl, .inl ⟨rfl, _, SqL.of htpb'⟩, _, rfl, _, rfl, _, rfl, _, rfl, _, rfl, _, rfl, bx, _, rfl, hbb, by omega, fun vp Hc qp _ bc hbc frp => ⟨smallE (by simp), fun t ht => ?_⟩⟩
    have tbc := hbb.tx bc
    have et : Ex Hc (upd Hc t (.tup [.str sE.b, .str sE.e, vm, vg, vp])) := Ex.new ht
    have bat := (bb.trans bc).ex et
    have htpt := bat _ _ htpb htpa
    refine ⟨tp, acc, _, rfl, rfl, htpt, small (by rw [hacc.length, hti]; omega), ?_⟩
    have tx1 : TX Ha (upd Hc t (.tup [.str sE.b, .str sE.e, vm, vg, vp])) := Na.box.tx bat
    have tx2 : TX (upd Hc t (.tup [.str sE.b, .str sE.e, vm, vg, vp])) (upd (upd Hc t (.tup [.str sE.b, .str sE.e, vm, vg, vp])) tp (.lst (acc ++ [.ref t]))) := .wl htpt
    have htt : (upd (upd Hc t (.tup [.str sE.b, .str sE.e, vm, vg, vp])) tp (.lst (acc ++ [.ref t]))) t = some (.tup [.str sE.b, .str sE.e, vm, vg, vp]) := by
      rw [upd_ne (ne_of upd_same htpt (by intro z; cases z)), upd_same]
    have hbt : BoxV (upd Hc t (.tup [.str sE.b, .str sE.e, vm, vg, vp])) bx (n + 300 + 4 * i + 2 + 2) := hbc.ex et
    have Nt := Na.tx bat hbt
    refine ⟨_, _, _, _, acc ++ [.ref t], ts ++ [⟨sE.b, sE.e, qm, sE.gain⟩], rfl, ⟨Nt.but.upd htpH, (hbt.upd htpb).mono (by omega), tx2 _ _ Nt.pt⟩, ?_, (hva.tm tm_lane tx1).tm tm_lane tx2, upd_same, ((hacc.tm tm_tie tx1).tm tm_tie tx2).snoc ⟨t, vm, vg, vp, qp, rfl, .of htt, ?_, (frg.mono tx1).mono tx2, (frp.ex et).mono tx2⟩, by simp [hti], fun u hu => ?_⟩
    · rw [upd_ne hspt]
      exact bat _ _ hspb hspa
    · exact ((frm.mono tbc).ex et).mono tx2
    · rcases List.mem_append.mp hu with z | z
      · exact hT u z
      · rw [List.mem_singleton.mp z]; exact ⟨k1, k2, k3, k4, hqm⟩
  rintro σ Ha ⟨x12, x13, x14, x17, acc, ts, rfl, Na, hspa, hva, htpa, hacc, hti, hT⟩
  have hl24 : (vs.take 24).length ≤ 24 := by rw [List.length_take]; omega
  have hl1 : 1 ≤ (vs.take 24).length := by
    rw [List.length_take, hvs.length]
    omega
  have lacc : acc.length = ts.length := hacc.length
  -- one more
  refine ⟨fun σ H' => ∃ (acc : List V) (ts : List (Tie Str)), σ = [some (.ref bx), some (.int 5), some (.int 8), some (.int w0), some (.bl gb), some (.ref pt), some (.int m), some (.ref sm), some (.ref wd), some (.ref ep), x10, x11, x12, x13, x14, x15, some (.ref tp), x17, none] ∧ NB_ K bx H H' (n + 300 + 100 + 1) pt ps ∧ H' tp = some (.lst acc) ∧ All2 (TieV K H') acc ts ∧ ts.length ≤ 24 ∧ (∀ t ∈ ts, TieOk ps t), ?_, ?_⟩
  · have skip : ∀ H', But bx Ha H' → BoxV H' bx (n + 300 + 100 + 1) → NB_ K bx H H' (n + 300 + 100 + 1) pt ps ∧ H' tp = some (.lst acc) ∧ All2 (TieV K H') acc ts := fun H' b h => ⟨Na.tx b h, b _ _ htpb htpa, hacc.tm tm_tie (Na.box.tx b)⟩
    refine ⟨_, rfl, tp, _, rfl, .inl (SqL.of htpa), _, _, rfl, rfl, _, rfl, ite2 (fun hc => ?_) (fun _ => ?_)⟩
    · have hc24 : ts.length < 24 := by
        have := of_decide_eq_true hc
        omega
      refine ⟨_, rfl, _, _, rfl, bx, 4, _, rfl, rfl, by decide, by decide, Na.box, by omega, fun r Hb hr bb hbb => ⟨rfl, _, rfl, ite2 (fun _ => ?_) (fun _ => ?_)⟩⟩
      · have htpb' := bb _ _ htpb htpa
        obtain ⟨v0, hv0⟩ : ∃ v, acc[0]? = some v := ⟨_, List.getElem?_eq_getElem (by omega)⟩
        obtain ⟨t0, ht0, rt0⟩ := hacc.get hv0
        refine ⟨_, rfl, .inl ⟨rfl, _, SqL.of htpb'⟩, _, rfl, tp, _, _, v0, rfl, rfl, SqL.of htpb', atI_nat hv0, tp, acc, _, rfl, rfl, htpb', small (by omega), ?_⟩
        have tx1 := Na.box.tx bb
        have tx2 : TX Hb (upd Hb tp (.lst (acc ++ [v0]))) := .wl htpb'
        have Nt := Na.tx bb hbb
        refine ⟨acc ++ [v0], ts ++ [t0], rfl, ⟨Nt.but.upd htpH, (hbb.upd htpb).mono (by omega), tx2 _ _ Nt.pt⟩, upd_same, ((hacc.tm tm_tie tx1).tm tm_tie tx2).snoc ((rt0.mono tx1).mono tx2), by simp; omega, fun u hu => ?_⟩
        rcases List.mem_append.mp hu with z | z
        · exact hT u z
        · rw [List.mem_singleton.mp z]; exact hT t0 (List.mem_of_getElem? ht0)
      · obtain ⟨s1, s2, s3⟩ := skip Hb bb (hbb.mono (by omega))
        exact ⟨acc, ts, rfl, s1, s2, s3, by omega, hT⟩
    · obtain ⟨s1, s2, s3⟩ := skip Ha (But.refl _ _) (Na.box.mono (by omega))
      exact iteF ⟨acc, ts, rfl, s1, s2, s3, by omega, hT⟩
  rintro σ Hb ⟨acc, ts, rfl, Nb, htpb', hacc, hl24, hT⟩
  refine ⟨_, rfl, _, rfl, tp, acc, rfl, .inl ⟨SqL.of htpb', fun l hl => ⟨smallE (by simp), fun t ht => ?_⟩⟩⟩
  have e1 : Ex Hb (upd Hb l (.tup acc)) := Ex.new hl
  have e2 : Ex (upd Hb l (.tup acc)) (upd (upd Hb l (.tup acc)) t (.tup [.ref pt, .ref l])) := Ex.new ht
  have e12 := e1.trans e2
  exact k _ _ ps ts (Nb.but.ex e12) ((Nb.box.ex e12).mono (by omega)) ⟨t, pt, l, acc, rfl, .of upd_same, .of (e12 _ _ Nb.pt), .of (e2 _ _ upd_same), hacc.tm tm_tie (.of e12)⟩ (net_ok hnd hp2 hp10 hl24 hT)
end
end GW
set_option Elab.async false
set_option linter.all false
set_option maxRecDepth 100000
set_option maxHeartbeats 4000000
/-! LG: the law's steps, parts, muches -/
namespace GW
open PySem PySem.Spec PyProof.Rows L2 GM
section
variable {P : Program} {w : World} {K : PySem.W.Frag} {mg : Str → Option Value} {base : Heap}
/-! _law_steps_of: slots 0:_law_net 1:_law_stream 2:_law_found 3:_law_number 4:_law_begin 5:_law_end 6:_law_top 7:_law_gain 8:_law_price 9:_law_goes -/
abbrev N__law_steps_of : List Str := ["_law_net", "_law_stream", "_law_found", "_law_number", "_law_begin", "_law_end", "_law_top", "_law_gain", "_law_price", "_law_goes"]
theorem sc__law_steps_of : FnScope N__law_steps_of ["_law_net", "_law_stream"] (defScope s__law_steps_of) := ⟨rfl, rfl, rfl, by decide +kernel, rfl, by decide +kernel, by decide +kernel⟩
theorem ok__law_steps_of (T : Txt K mg) : DOk P w K mg base "_law_steps_of" ["_law_net", "_law_stream"] 3 (sp_left_steps K) := by
  have G__law_over := ok__law_over (P := P) (w := w) (base := base) T
  have G__law_product := ok__law_product (P := P) (w := w) (base := base) T
  have G__law_above := ok__law_above (P := P) (w := w) (base := base) T
  have G__law_minus := ok__law_minus (P := P) (w := w) (base := base) T
  refine T.d__law_steps_of.ok sc__law_steps_of sp2_len (fun f cdv A outer s H vs Q E hr h => ?_)
  refine ⟨_, (pss_cons (ps_set (i := 2) sc__law_steps_of.nd rfl (Or.inl rfl) (pe_lst pa_nil))
        (pss_cons (ps_for PassesOwn.never rfl (pi_enumT (by rfl) T.n_enumerate (pa_cons (pe_ix (ixT K) (pv 0) pe_int (fun _ _ => rfl)) pa_nil)) (pgT K 2 rfl (pgs_cons (pg_name (i := 3) sc__law_steps_of.nd rfl (Or.inl rfl)) (pgs_cons (pgT K 5 rfl (pgs_cons (pg_name (i := 4) sc__law_steps_of.nd rfl (Or.inl rfl)) (pgs_cons (pg_name (i := 5) sc__law_steps_of.nd rfl (Or.inl rfl)) (pgs_cons (pg_name (i := 6) sc__law_steps_of.nd rfl (Or.inl rfl)) (pgs_cons (pg_name (i := 7) sc__law_steps_of.nd rfl (Or.inl rfl)) (pgs_cons (pg_name (i := 8) sc__law_steps_of.nd rfl (Or.inl rfl)) pgs_nil)))))) pgs_nil))) (pss_cons (ps_set (i := 9) sc__law_steps_of.nd rfl (Or.inl rfl) (pe_ix (ixL K) (pv 1) (pv 3) (fun _ _ => rfl)))
        (Evl.pss_cut (ps_if (pt_cmpR op_gt (pe_callD G__law_above (hr.mono (by decide)) (pa_cons (pv 6) (pa_cons (pv 9) pa_nil))) pe_int (nomark _)) (pss_one (ps_expr (pe_bm PySem.F.plainAttrs_list PySem.F.slot_list_append PySem.F.type_list_append mt_append (pv 2) (pa_cons (pe_tup (pa_cons (pv 3) (pa_cons pe_bl (pa_cons (pv 4) (pa_cons (pv 5) (pa_cons (pe_callD G__law_minus (hr.mono (by decide)) (pa_cons (pv 6) (pa_cons (pv 9) pa_nil))) (pa_cons (pv 7) pa_nil))))))) pa_nil)))) pss_nil)
        (pss_one (ps_if (pt_cmpR op_gt (pe_ix (ixT K) (pv 9) pe_int (fun _ _ => rfl)) pe_int (nomark _)) (pss_one (ps_expr (pe_bm PySem.F.plainAttrs_list PySem.F.slot_list_append PySem.F.type_list_append mt_append (pv 2) (pa_cons (pe_tup (pa_cons (pv 3) (pa_cons pe_bl (pa_cons (pv 5) (pa_cons (pv 4) (pa_cons (pe_callD G__law_product (hr.mono (by decide)) (pa_cons (pv 9) (pa_cons (pv 7) pa_nil))) (pa_cons (pe_callD G__law_over (hr.mono (by decide)) (pa_cons (pe_tup (pa_cons pe_int (pa_cons pe_int pa_nil))) (pa_cons (pv 7) pa_nil))) pa_nil))))))) pa_nil)))) pss_nil)))))
        (pss_one (ps_ret (pv 2))))), ?_⟩
  obtain ⟨_, _, rfl, ps, ts, xs, ⟨na, nb, nc, tv, rfl, h1, h2, h3, h4⟩, ⟨sa, sv, rfl, h5, h6⟩, S, k⟩ := h
  refine ⟨smallE (by simp), fun p hp => ?_⟩
  have e0 : Ex H (upd H p (.lst [])) := Ex.new hp
  have ltv : tv.length = ts.length := h4.length
  refine ⟨_, rfl, na, _, _, .ref nc, rfl, rfl, (h1.mono (.of e0)).sq, rfl, nc, tv, rfl, (h3.mono (.of e0)).sq, ?_⟩
  refine for_it walk_T (fun i σ H' => ∃ x3 x4 x5 x6 x7 x8 x9 acc, σ = [some (.ref na), some (.ref sa), some (.ref p), x3, x4, x5, x6, x7, x8, x9] ∧ Ex H H' ∧ H' p = some (.lst acc) ∧ All2 (StV K H') acc (stepsTo ts xs i))
    ⟨none, none, none, none, none, none, none, [], rfl, e0, upd_same, .nil⟩ (fun i σ H' _ ⟨_, _, _, _, _, _, _, _, _, e, _⟩ => (h3.mono (.of e)).sq) ?_ ?_
  · rintro i y σ H' H2 hi ⟨x3, x4, x5, x6, x7, x8, x9, acc, rfl, e, hp', ha⟩ ⟨T, _, rfl, hT, rfl, tv', htv, rfl⟩
    have e1 : Ex H' (upd H' T (.tup [.int (i : Nat), tv'])) := Ex.new hT
    have e2 := e.trans e1
    obtain ⟨t0, ht0, rt0⟩ := h4.get htv
    have hxi : i < xs.length := by rw [S.len, ← ltv]; exact hi
    obtain ⟨x0, hx0⟩ : ∃ x0, xs[i]? = some x0 := ⟨_, List.getElem?_eq_getElem hxi⟩
    obtain ⟨xv, hxv, rx0⟩ := h6.get' hx0
    have Z := S.sz i t0 x0 ht0 hx0
    obtain ⟨ta, vm, vg, vp, qp, rfl, ht, hm, hg, hpr⟩ := rt0.mono (.of e2)
    refine ⟨T, _, rfl, SqT.of upd_same, rfl, _, _, rfl, _, _, rfl, ta, _, rfl, ht.sq, rfl, _, _, rfl, _, _, rfl, _, _, rfl, _, _, rfl, _, _, rfl, rfl, rfl, ?_⟩
    have hp2 := e1 _ _ hp'
    have ha2 := ha.tm tm_st (.of e1)
    have hla : acc.length ≤ 200 := by
      rw [ha.length]
      have := stepsTo_len ts xs i
      have := S.few
      omega
    have hx := rx0.ex e2
    refine ⟨_, rfl, _, rfl, sa, _, _, xv, rfl, rfl, SqL.of (e2 _ _ h5), atI_nat hxv, ?_⟩
    generalize upd H' T (.tup [.int (i : Nat), .ref ta]) = H2 at *
    refine ⟨fun σ H3 => ∃ (acc' : List V), σ = [some (.ref na), some (.ref sa), some (.ref p), some (.int (i : Nat)), some (.str t0.b), some (.str t0.e), some vm, some vg, some vp, some xv] ∧ Ex H H3 ∧ TX H2 H3 ∧ H3 p = some (.lst acc') ∧
      All2 (StV K H3) acc' (stepsTo ts xs i ++ if x0 < t0.most then [⟨i, false, t0.b, t0.e, t0.most - x0, t0.gain⟩] else []), ?_, ?_⟩
    · refine ⟨_, rfl, _, rfl, _, _, rfl, t0.most, x0, hm, hx, fun z z1 z2 => ⟨_, _, rfl, rfl, _, rfl, ite2 (fun hb => ?_) (fun hb => ?_)⟩⟩
      · have hlt : x0 < t0.most := z1.mp (of_decide_eq_true hb)
        refine ⟨_, rfl, .inl ⟨rfl, _, SqL.of hp2⟩, _, rfl, _, rfl, _, rfl, _, rfl, _, rfl, _, _, rfl, t0.most, x0, hm, hx, trivial, Z.z1, fun v H3 e3 h3' => ?_⟩
        refine ⟨_, rfl, smallE (by simp), fun q hq => ?_⟩
        have e4 : Ex H2 (upd H3 q (.tup [.int (i : Nat), .bl false, .str t0.b, .str t0.e, v, vg])) := e3.trans (Ex.new hq)
        have hp4 := e4 _ _ hp2
        refine ⟨p, acc, _, rfl, rfl, hp4, small (by omega), _, rfl, (e2.trans e4).upd_new hp, (TX.of e4).trans (.wl hp4), upd_same, ?_⟩
        rw [if_pos hlt]
        refine ((ha2.tm tm_st (.of e4)).tm tm_st (.wl hp4)).snoc ⟨q, v, vg, rfl, .of ?_, (h3'.ex (Ex.new hq)).mono (.wl hp4), (hg.ex e4).mono (.wl hp4)⟩
        rw [upd_ne (ne_of upd_same hp4 (by intro z; cases z)), upd_same]
      · have hge : ¬ x0 < t0.most := fun q => hb (decide_eq_true (z1.mpr q))
        refine ⟨acc, rfl, e2, TX.refl _, hp2, ?_⟩
        rw [if_neg hge, List.append_nil]
        exact ha2
    · rintro σ H3 ⟨acc', rfl, e3, tx3, hp3, ha3⟩
      have hl3 : acc'.length ≤ 201 := by
        have h1 := ha.length
        have h2 := ha3.length
        rw [List.length_append, ← h1] at h2
        have : (if x0 < t0.most then ([⟨i, false, t0.b, t0.e, t0.most - x0, t0.gain⟩] : List (Step Str)) else []).length ≤ 1 := by split <;> simp
        omega
      have hx3 := hx.mono tx3
      have hg3 := hg.mono tx3
      obtain ⟨ax, rfl, hx2, zx⟩ := id hx3
      refine ⟨_, rfl, ax, _, _, .int x0.num, rfl, rfl, hx2.sq, rfl, _, _, rfl, rfl, _, rfl, ite2 (fun hb => ?_) (fun hb => ?_)⟩
      · have hpos : 0 < x0 := num_pos_iff.mp (of_decide_eq_true hb)
        refine ⟨_, rfl, .inl ⟨rfl, _, SqL.of hp3⟩, _, rfl, _, rfl, _, rfl, _, rfl, _, rfl, _, _, rfl, x0, t0.gain, hx3, hg3, trivial, Z.z2, fun v H4 e4 h4' => ?_⟩
        refine ⟨smallE (by simp), fun o ho => ?_⟩
        have eo : Ex H4 (upd H4 o (.tup [.int 1, .int 1])) := Ex.new ho
        have fo : FrV K (upd H4 o (.tup [.int 1, .int 1])) (.ref o) 1 := fr_new 1 1 1 rfl rfl (Sz.one.mono (by decide))
        refine ⟨_, rfl, _, _, rfl, 1, t0.gain, fo, hg3.ex (e4.trans eo), Z.g, Z.z3, fun v3 H5 e5 h5' => ?_⟩
        refine ⟨smallE (by simp), fun q hq => ?_⟩
        have e6 : Ex H3 (upd H5 q (.tup [.int (i : Nat), .bl true, .str t0.e, .str t0.b, v, v3])) := (e4.trans (eo.trans e5)).trans (Ex.new hq)
        have hp6 := e6 _ _ hp3
        refine ⟨p, acc', _, rfl, rfl, hp6, small (by omega), _, _, _, _, _, _, _, _, rfl, (e3.trans e6).upd_new hp, upd_same, ?_⟩
        rw [stepsTo_succ ht0 hx0]
        unfold stepsOfTie
        rw [if_pos hpos, ← List.append_assoc]
        refine ((ha3.tm tm_st (.of e6)).tm tm_st (.wl hp6)).snoc ⟨q, v, v3, rfl, .of ?_, ((h4'.ex (eo.trans e5)).ex (Ex.new hq)).mono (.wl hp6), (h5'.ex (Ex.new hq)).mono (.wl hp6)⟩
        rw [upd_ne (ne_of upd_same hp6 (by intro z; cases z)), upd_same]
      · have hge : ¬ 0 < x0 := fun q => hb (decide_eq_true (num_pos_iff.mpr q))
        refine ⟨_, _, _, _, _, _, _, acc', rfl, e3, hp3, ?_⟩
        rw [stepsTo_succ ht0 hx0]
        unfold stepsOfTie
        rw [if_neg hge, List.append_nil]
        exact ha3
  · rintro σ H' ⟨x3, x4, x5, x6, x7, x8, x9, acc, rfl, e, hp', ha⟩
    refine ⟨_, rfl, k p H' acc hp e hp' ?_⟩
    rw [ltv] at ha
    exact ha
def sp__law_parts_on (K : PySem.W.Frag) : Sp := sp2 fun a b H Q => ∃ (ss : List (Step Str)) (p : Rat), LsV (StV K) H a ss ∧ FrV K H b p ∧ ss.length ≤ 600 ∧ (∀ q ∈ partsAlong ss p, Sz 4000 (q.2 * q.1.gain)) ∧
  ∀ t q v H' vs, Ex H H' → H' t = some (.tup [.ref q, v]) → H' q = some (.lst vs) → All2 (PtV K H') vs (partsAlong ss p) → FrV K H' v (p * gainOf ss) → Q (.ref t) H'
/-! _law_parts_on: slots 0:_law_steps 1:_law_part 2:_law_found 3:_law_step -/
abbrev N__law_parts_on : List Str := ["_law_steps", "_law_part", "_law_found", "_law_step"]
theorem sc__law_parts_on : FnScope N__law_parts_on ["_law_steps", "_law_part"] (defScope s__law_parts_on) := ⟨rfl, rfl, rfl, by decide +kernel, rfl, by decide +kernel, by decide +kernel⟩
theorem ok__law_parts_on (T : Txt K mg) : DOk P w K mg base "_law_parts_on" ["_law_steps", "_law_part"] 3 (sp__law_parts_on K) := by
  have G__law_product := ok__law_product (P := P) (w := w) (base := base) T
  refine T.d__law_parts_on.ok sc__law_parts_on sp2_len (fun f cdv A outer s H vs Q E hr h => ?_)
  refine ⟨_, (pss_cons (ps_set (i := 2) sc__law_parts_on.nd rfl (Or.inl rfl) (pe_lst pa_nil))
        (pss_cons (ps_for PassesOwn.never rfl (piL K (pv 0)) (pg_name (i := 3) sc__law_parts_on.nd rfl (Or.inl rfl)) (pss_cons (ps_expr (pe_bm PySem.F.plainAttrs_list PySem.F.slot_list_append PySem.F.type_list_append mt_append (pv 2) (pa_cons (pe_tup (pa_cons (pv 3) (pa_cons (pv 1) pa_nil))) pa_nil)))
        (pss_one (ps_set (i := 1) sc__law_parts_on.nd rfl (Or.inl rfl) (pe_callD G__law_product (hr.mono (by decide)) (pa_cons (pv 1) (pa_cons (pe_ix (ixT K) (pv 3) pe_int (fun _ _ => rfl)) pa_nil)))))))
        (pss_one (ps_ret (pe_tup (pa_cons (pv 2) (pa_cons (pv 1) pa_nil))))))), ?_⟩
  obtain ⟨_, b, rfl, ss, p, ⟨a, sv, rfl, ha, hs⟩, hb, hl, hz, k⟩ := h
  refine ⟨smallE (by simp), fun fd hfd => ?_⟩
  have e0 : Ex H (upd H fd (.lst [])) := Ex.new hfd
  refine ⟨_, rfl, a, rfl, ⟨_, SqL.of (e0 _ _ ha)⟩, for_list (K := K) (a := a) (xs := sv) (fun i σ H' => ∃ v acc x, σ = [some (.ref a), some v, some (.ref fd), x] ∧ Ex H H' ∧ FrV K H' v (p * gainOf (ss.take i)) ∧ H' fd = some (.lst acc) ∧ All2 (PtV K H') acc (partsAlong (ss.take i) p))
    ⟨b, [], none, rfl, e0, ?_, upd_same, .nil⟩ (fun i σ H' _ ⟨_, _, _, _, e, _⟩ => SqL.of (e _ _ ha)) ?_ ?_⟩
  · show FrV K _ b (p * 1)
    rw [Rat.mul_one]
    exact hb.ex e0
  · rintro i y σ H' hy ⟨v, acc, x, rfl, e, hv, hfd', hacc⟩
    obtain ⟨s, hsi, rs⟩ := hs.get hy
    have hS := rs.mono (.of e)
    refine ⟨_, rfl, .inl ⟨rfl, _, SqL.of hfd'⟩, _, rfl, _, rfl, smallE (by simp), fun t ht => ?_⟩
    have e1 : Ex H' (upd H' t (.tup [y, v])) := Ex.new ht
    have hfd1 := e1 _ _ hfd'
    refine ⟨fd, acc, _, rfl, rfl, hfd1, small ?_, ?_⟩
    · rw [hacc.length, partsAlong_len, List.length_take]; omega
    have e2 : Ex H (upd (upd H' t (.tup [y, v])) fd (.lst (acc ++ [.ref t]))) := (e.trans e1).upd_new hfd
    have tx : TX H' (upd (upd H' t (.tup [y, v])) fd (.lst (acc ++ [.ref t]))) := (TX.of e1).trans (.wl hfd1)
    obtain ⟨ta, vr, vg, rfl, hta, hr1, hg1⟩ := hS.mono tx
    refine ⟨_, rfl, _, rfl, ta, _, _, vg, rfl, rfl, hta.sq, rfl, _, _, rfl, _, _, hv.mono tx, hg1, trivial, hz _ (partsAlong_mem hsi), fun v' H3 e3 h3 => ?_⟩
    have htu : upd (upd H' t (.tup [.ref ta, v])) fd (.lst (acc ++ [.ref t])) t = some (.tup [.ref ta, v]) := by rw [upd_ne (ne_of upd_same hfd1 (by intro z; cases z)), upd_same]
    refine ⟨v', acc ++ [.ref t], _, rfl, e2.trans e3, ?_, e3 _ _ upd_same, ?_⟩
    · rw [gainOf_take hsi, ← Rat.mul_assoc]
      exact h3
    · rw [partsAlong_take hsi]
      exact ((hacc.tm tm_pt tx).tm tm_pt (.of e3)).snoc ⟨t, _, _, rfl, .of (e3 _ _ htu), (hS.mono tx).mono (.of e3), (hv.mono tx).ex e3⟩
  · rintro σ H' ⟨v, acc, x, rfl, e, hv, hfd', hacc⟩
    rw [hs.length, List.take_length] at hacc hv
    refine ⟨_, rfl, _, rfl, smallE (by simp), fun t ht => ?_⟩
    have en : Ex H' (upd H' t (.tup [.ref fd, v])) := Ex.new ht
    exact k t fd v _ acc (e.trans en) upd_same (en _ _ hfd') (hacc.tm tm_pt (.of en)) (hv.ex en)
def sp__law_much_along (K : PySem.W.Frag) : Sp := sp1 fun a H Q => ∃ qs : List (Step Str × Rat), LsV (PtV K) H a qs ∧ qs ≠ [] ∧ qs.length ≤ 600 ∧ (∀ q ∈ qs, 0 < q.2 ∧ Sz 4000 (q.1.room / q.2)) ∧
  ∀ v H' m, Ex H H' → FrV K H' v m → (∃ q ∈ qs, m = q.1.room / q.2) → (∀ q ∈ qs, m ≤ q.1.room / q.2) → Q v H'
/-! _law_much_along: slots 0:_law_parts 1:_law_found 2:_law_step 3:_law_part 4:_law_one -/
abbrev N__law_much_along : List Str := ["_law_parts", "_law_found", "_law_step", "_law_part", "_law_one"]
theorem sc__law_much_along : FnScope N__law_much_along ["_law_parts"] (defScope s__law_much_along) := ⟨rfl, rfl, rfl, by decide +kernel, rfl, by decide +kernel, by decide +kernel⟩
theorem ok__law_much_along (T : Txt K mg) : DOk P w K mg base "_law_much_along" ["_law_parts"] 3 (sp__law_much_along K) := by
  have G__law_above := ok__law_above (P := P) (w := w) (base := base) T
  have G__law_over := ok__law_over (P := P) (w := w) (base := base) T
  refine T.d__law_much_along.ok sc__law_much_along sp1_len (fun f cdv A outer s H vs Q E hr h => ?_)
  refine ⟨_, (pss_cons (ps_set (i := 1) sc__law_much_along.nd rfl (Or.inl rfl) pe_non)
        (pss_cons (ps_for PassesOwn.never rfl (piL K (pv 0)) (pgT K 2 rfl (pgs_cons (pg_name (i := 2) sc__law_much_along.nd rfl (Or.inl rfl)) (pgs_cons (pg_name (i := 3) sc__law_much_along.nd rfl (Or.inl rfl)) pgs_nil))) (pss_cons (ps_set (i := 4) sc__law_much_along.nd rfl (Or.inl rfl) (pe_callD G__law_over (hr.mono (by decide)) (pa_cons (pe_ix (ixT K) (pv 2) pe_int (fun _ _ => rfl)) (pa_cons (pv 3) pa_nil))))
        (pss_one (ps_set (i := 1) sc__law_much_along.nd rfl (Or.inl rfl) (pe_ifExp (PW.pt (pw_or (pt_cmpR op_isN (pv 1) pe_non (nomark _)) (pw_or1 (pt_cmpR op_gt (pe_callD G__law_above (hr.mono (by decide)) (pa_cons (pv 1) (pa_cons (pv 4) pa_nil))) pe_int (nomark _))))) (pv 4) (pv 1))))))
        (pss_one (ps_ret (pv 1))))), ?_⟩
  obtain ⟨_, rfl, qs, ⟨a, pv, rfl, ha, hp⟩, hne, hl, hz, k⟩ := h
  refine ⟨_, rfl, a, rfl, ⟨_, SqL.of ha⟩, for_list (K := K) (a := a) (xs := pv) (fun i σ H' => ∃ v x2 x3 x4, σ = [some (.ref a), some v, x2, x3, x4] ∧ Ex H H' ∧ ((i = 0 ∧ v = .non) ∨ (v ≠ .non ∧ ∃ m, FrV K H' v m ∧ (∃ q ∈ qs.take i, m = q.1.room / q.2) ∧ ∀ q ∈ qs.take i, m ≤ q.1.room / q.2)))
    ⟨.non, none, none, none, rfl, Ex.refl _, .inl ⟨rfl, rfl⟩⟩ (fun i σ H' _ ⟨_, _, _, _, _, e, _⟩ => SqL.of (e _ _ ha)) ?_ ?_⟩
  · rintro i y σ H' hy ⟨v, x2, x3, x4, rfl, e, hv⟩
    obtain ⟨q, hqi, rq⟩ := hp.get hy
    have hqm := List.mem_of_getElem? hqi
    have et : qs.take (i + 1) = qs.take i ++ [q] := take_snoc hqi
    obtain ⟨ta, vs, vp, rfl, hta, hs, hpp⟩ := rq.mono (.of e)
    obtain ⟨tb, vr, vg, rfl, htb, hr1, hg1⟩ := id hs
    refine ⟨ta, _, rfl, hta.sq, rfl, _, _, rfl, _, _, rfl, rfl, ?_⟩
    refine ⟨_, rfl, tb, _, _, vr, rfl, rfl, htb.sq, rfl, _, rfl, _, _, rfl, _, _, hr1, hpp, (hz q hqm).1, (hz q hqm).2, fun vo H3 e3 h3 => ?_⟩
    have hvo : vo ≠ .non := by
      obtain ⟨o, rfl, _⟩ := id h3
      exact fun z => nomatch z
    rcases hv with ⟨rfl, rfl⟩ | ⟨hvn, m, hm, hm1, hm2⟩
    · refine ⟨_, rfl, rfl, _, rfl, iteT (iteT ⟨_, rfl, vo, _, _, _, rfl, e.trans e3, .inr ⟨hvo, _, h3, ⟨q, by rw [et]; simp, rfl⟩, fun z hz' => ?_⟩⟩)⟩
      rw [et] at hz'
      have : z = q := by simpa using hz'
      rw [this]
      exact Rat.le_refl
    · refine ⟨_, rfl, rfl, _, rfl, ?_⟩
      rw [decide_eq_false hvn]
      refine iteF ⟨_, rfl, _, rfl, _, _, rfl, m, _, hm.ex e3, h3, fun z z1 z2 => ⟨_, _, rfl, rfl, _, rfl, ite2 (fun hb => ?_) (fun hb => ?_)⟩⟩
      · have hlt := z1.mp (of_decide_eq_true hb)
        refine ⟨_, rfl, vo, _, _, _, rfl, e.trans e3, .inr ⟨hvo, _, h3, ⟨q, by rw [et]; simp, rfl⟩, fun u hu => ?_⟩⟩
        rw [et] at hu
        rcases List.mem_append.mp hu with w' | w'
        · exact Rat.le_trans (Rat.le_of_lt hlt) (hm2 u w')
        · rw [List.mem_singleton.mp w']; exact Rat.le_refl
      · have hge := Rat.not_lt.mp fun q' => hb (decide_eq_true (z1.mpr q'))
        refine ⟨_, rfl, v, _, _, _, rfl, e.trans e3, .inr ⟨hvn, m, hm.ex e3, ?_, fun u hu => ?_⟩⟩
        · obtain ⟨u, hu, hum⟩ := hm1
          exact ⟨u, by rw [et]; exact List.mem_append_left _ hu, hum⟩
        · rw [et] at hu
          rcases List.mem_append.mp hu with w' | w'
          · exact hm2 u w'
          · rw [List.mem_singleton.mp w']; exact hge
  · rintro σ H' ⟨v, x2, x3, x4, rfl, e, hv⟩
    rcases hv with ⟨h0, _⟩ | ⟨_, m, hm, hm1, hm2⟩
    · exact absurd (List.length_eq_zero_iff.mp (by rw [← hp.length]; exact h0)) hne
    · rw [hp.length, List.take_length] at hm1 hm2
      exact ⟨_, rfl, k v H' m e hm hm1 hm2⟩
def sp__law_put (K : PySem.W.Frag) : Sp := sp3 fun a b c H Q => ∃ (f : List Rat) (qs : List (Step Str × Rat)) (m : Rat), LsV (FrV K) H a f ∧ LsV (PtV K) H b qs ∧ FrV K H c m ∧ (qs.map (·.1.n)).Nodup ∧ (∀ q ∈ qs, ∃ x, f[q.1.n]? = some x) ∧
  (∀ q ∈ qs, Sz 4000 (m * q.2) ∧ Sz 4000 (m * q.2 * q.1.gain)) ∧ (∀ (i : Nat) v, (GM.putAll m f qs)[i]? = some v → Sz 4000 v) ∧ RetLs (FrV K) (GM.putAll m f qs) H Q
/-! _law_put: slots 0:_law_stream 1:_law_parts 2:_law_much 3:_law_made 4:_law_step 5:_law_part 6:_law_goes -/
abbrev N__law_put : List Str := ["_law_stream", "_law_parts", "_law_much", "_law_made", "_law_step", "_law_part", "_law_goes"]
theorem sc__law_put : FnScope N__law_put ["_law_stream", "_law_parts", "_law_much"] (defScope s__law_put) := ⟨rfl, rfl, rfl, by decide +kernel, rfl, by decide +kernel, by decide +kernel⟩
theorem ok__law_put (T : Txt K mg) : DOk P w K mg base "_law_put" ["_law_stream", "_law_parts", "_law_much"] 3 (sp__law_put K) := by
  have G__law_minus := ok__law_minus (P := P) (w := w) (base := base) T
  have G__law_product := ok__law_product (P := P) (w := w) (base := base) T
  have G__law_sum := ok__law_sum (P := P) (w := w) (base := base) T
  refine T.d__law_put.ok sc__law_put sp3_len (fun f cdv A outer s H vs Q E hr h => ?_)
  refine ⟨_, (pss_cons (ps_set (i := 3) sc__law_put.nd rfl (Or.inl rfl) (pe_callTy call_list_of (by rfl) T.n_list (by decide +kernel) (pa_cons (pv 0) pa_nil)))
        (pss_cons (ps_for PassesOwn.never rfl (piL K (pv 1)) (pgT K 2 rfl (pgs_cons (pg_name (i := 4) sc__law_put.nd rfl (Or.inl rfl)) (pgs_cons (pg_name (i := 5) sc__law_put.nd rfl (Or.inl rfl)) pgs_nil))) (pss_cons (ps_set (i := 6) sc__law_put.nd rfl (Or.inl rfl) (pe_callD G__law_product (hr.mono (by decide)) (pa_cons (pv 2) (pa_cons (pv 5) pa_nil))))
        (pss_one (ps_if (pt_val (pe_ix (ixT K) (pv 4) pe_int (fun _ _ => rfl))) (pss_one (ps_asg (pe_callD G__law_minus (hr.mono (by decide)) (pa_cons (pe_ix (ixL K) (pv 3) (pe_ix (ixT K) (pv 4) pe_int (fun _ _ => rfl)) (fun _ _ => rfl)) (pa_cons (pe_callD G__law_product (hr.mono (by decide)) (pa_cons (pv 6) (pa_cons (pe_ix (ixT K) (pv 4) pe_int (fun _ _ => rfl)) pa_nil))) pa_nil))) (pg_sub (pv 3) (pe_ix (ixT K) (pv 4) pe_int (fun _ _ => rfl)) set_list))) (pss_one (ps_asg (pe_callD G__law_sum (hr.mono (by decide)) (pa_cons (pe_ix (ixL K) (pv 3) (pe_ix (ixT K) (pv 4) pe_int (fun _ _ => rfl)) (fun _ _ => rfl)) (pa_cons (pv 6) pa_nil))) (pg_sub (pv 3) (pe_ix (ixT K) (pv 4) pe_int (fun _ _ => rfl)) set_list)))))))
        (pss_one (ps_ret (pv 3))))), ?_⟩
  obtain ⟨_, _, vm, rfl, f', qs, m, ⟨ds, dv, rfl, hds, hdv⟩, ⟨pp, pv, rfl, hpp, hpv⟩, hm, hnd, hx, hz, hfin, k⟩ := h
  refine ⟨_, rfl, ds, dv, rfl, .inl (SqL.of hds), fun fd hfd => ?_⟩
  have e8 : Ex H (upd H fd (.lst dv)) := Ex.new hfd
  have hppH : upd H fd (.lst dv) pp = some (.lst pv) := e8 _ _ hpp
  refine ⟨_, rfl, pp, rfl, ⟨_, SqL.of hppH⟩, for_list (K := K) (a := pp) (xs := pv) (fun i σ H' => ∃ acc x9 x10 x11, σ = [some (.ref ds), some (.ref pp), some vm, some (.ref fd), x9, x10, x11] ∧ Ex H H' ∧ H' fd = some (.lst acc) ∧ All2 (FrV K H') acc (GM.putAll m f' (qs.take i)))
    ⟨dv, none, none, none, rfl, e8, upd_same, hdv.tm tm_fr (.of e8)⟩ (fun i σ H' _ ⟨_, _, _, _, _, e, _⟩ => SqL.of (e _ _ hpp)) ?_ ?_⟩
  · rintro i u σ H' hu ⟨acc, x9, x10, x11, rfl, e, hfd', hacc⟩
    obtain ⟨q, hqi, rq⟩ := hpv.get hu
    have hqm := List.mem_of_getElem? hqi
    obtain ⟨ta, vs, vp, rfl, hta, hs, hp⟩ := rq.mono (.of e)
    obtain ⟨tb, vr, vg, rfl, htb, hr1, hg1⟩ := id hs
    obtain ⟨x0, hx0⟩ := hx q hqm
    have hsplit : qs = qs.take i ++ q :: qs.drop (i + 1) := by
      have hl := (List.getElem?_eq_some_iff.mp hqi).1
      have h1 : qs.drop i = q :: qs.drop (i + 1) := by
        rw [List.drop_eq_getElem_cons hl]
        congr 1
        exact Option.some.inj ((List.getElem?_eq_getElem hl).symm.trans hqi)
      rw [← h1, List.take_append_drop]
    have hoff : q.1.n ∉ (qs.take i).map (·.1.n) := fun hm' => by
      rw [hsplit, List.map_append] at hnd
      exact (List.nodup_append.mp hnd).2.2 _ hm' q.1.n (by simp) rfl
    have hnow : (GM.putAll m f' (qs.take i))[q.1.n]? = some x0 := by rw [GM.putAll_other hoff]; exact hx0
    obtain ⟨xv, hxv, rxv⟩ := hacc.get' hnow
    have hlacc := (List.getElem?_eq_some_iff.mp hxv).1
    have hnew := hfin _ _ (GM.putAll_at (much := m) hnd hqm hx0)
    have hgetD : (GM.putAll m f' (qs.take i)).getD q.1.n 0 = x0 := by rw [List.getD_eq_getElem?_getD, hnow]; rfl
    have hz1 := hz q hqm
    refine ⟨ta, _, rfl, hta.sq, rfl, _, _, rfl, _, _, rfl, rfl, ?_⟩
    refine ⟨_, rfl, _, rfl, _, _, rfl, m, q.2, hm.ex e, hp, trivial, hz1.1, fun vgo H8 e8' hgo => ?_⟩
    have htb8 := htb.mono (.of e8')
    have hfd8 := e8' _ _ hfd'
    have hacc8 := hacc.tm tm_fr (.of e8')
    refine ⟨_, rfl, tb, _, _, .bl q.1.k, rfl, rfl, htb8.sq, rfl, q.1.k, rfl, ?_⟩
    rw [pAll_take hqi]
    cases hk : q.1.k with
    | true =>
      rw [hk] at hnew htb htb8
      refine iteT ?_
      refine ⟨_, rfl, _, rfl, tb, _, _, .int (q.1.n : Nat), rfl, rfl, htb8.sq, rfl, fd, _, _, xv, rfl, rfl, SqL.of hfd8, atI_nat hxv, ?_⟩
      refine ⟨_, rfl, _, rfl, tb, _, _, vg, rfl, rfl, htb8.sq, rfl, _, _, rfl, _, _, hgo, hg1.ex e8', trivial, hz1.2, fun v2 H9 e9 h2 => ?_⟩
      refine ⟨_, _, rfl, _, _, rxv.ex (e8'.trans e9), h2, trivial, hnew, fun v3 H10 e10 h3 => ?_⟩
      have e810 := e9.trans e10
      have hfd10 := e810 _ _ hfd8
      refine ⟨_, rfl, _, rfl, tb, _, _, .int (q.1.n : Nat), rfl, rfl, (htb8.mono (.of e810)).sq, rfl, fd, acc, _, q.1.n, rfl, rfl, hfd10, Evl.ixN_nat hlacc, ?_⟩
      refine ⟨acc.set q.1.n v3, _, _, _, rfl, (e.trans (e8'.trans e810)).upd_new hfd, upd_same, ?_⟩
      have tx : TX H10 (upd H10 fd (.lst (acc.set q.1.n v3))) := .wl hfd10
      unfold putOne
      rw [hk, if_pos rfl, hgetD]
      exact ((hacc8.tm tm_fr (.of e810)).tm tm_fr tx).set (h3.mono tx) _
    | false =>
      rw [hk] at hnew htb htb8
      refine iteF ?_
      refine ⟨_, rfl, _, rfl, tb, _, _, .int (q.1.n : Nat), rfl, rfl, htb8.sq, rfl, fd, _, _, xv, rfl, rfl, SqL.of hfd8, atI_nat hxv, ?_⟩
      refine ⟨_, rfl, _, _, rfl, _, _, rxv.ex e8', hgo, trivial, hnew, fun v3 H10 e10 h3 => ?_⟩
      have hfd10 := e10 _ _ hfd8
      refine ⟨_, rfl, _, rfl, tb, _, _, .int (q.1.n : Nat), rfl, rfl, (htb8.mono (.of e10)).sq, rfl, fd, acc, _, q.1.n, rfl, rfl, hfd10, Evl.ixN_nat hlacc, ?_⟩
      refine ⟨acc.set q.1.n v3, _, _, _, rfl, (e.trans (e8'.trans e10)).upd_new hfd, upd_same, ?_⟩
      have tx : TX H10 (upd H10 fd (.lst (acc.set q.1.n v3))) := .wl hfd10
      unfold putOne
      rw [hk, if_neg (by decide), hgetD]
      exact ((hacc8.tm tm_fr (.of e10)).tm tm_fr tx).set (h3.mono tx) _
  · rintro σ H' ⟨acc, x9, x10, x11, rfl, e, hfd', hacc⟩
    rw [hpv.length, List.take_length] at hacc
    exact ⟨_, rfl, k fd H' acc hfd e hfd' hacc⟩
end
end GW
set_option Elab.async false
set_option linter.all false
set_option maxRecDepth 100000
set_option maxHeartbeats 4000000
/-! LH: course_by -/
namespace GW
open PySem PySem.Spec PyProof.Rows L2 GM
section
variable {K : PySem.W.Frag} {a : Addr} {xs : List V} {g : TG} {tt : TT} {te : TE} {vs : List Nat} {σ : L2.St} {H1 : Hp} {β γ : Type}
/-- some items of a list, told by what may stand in new lists -/
theorem lc_fmD {ys : List β} {R : Addr → Hp → V → γ → Prop} (hm : ∀ D H H' v y, But D H H' → TX H H' → R D H v y → R D H' v y) {p : β → Bool} {f : β → γ} (hx : H1 a = some (.lst xs)) (hl : xs.length = ys.length) (hz : ys.length ≤ 100000)
    (hs : ∀ D (i : Nat) (x : V) (y : β) H, xs[i]? = some x → ys[i]? = some y → Ex H1 H → (∃ acc, H D = some (.lst acc)) → LcTurn g tt te vs σ (R D) x H (p y) (f y))
    {Qd : Addr → Hp → Prop} (k : ∀ D H' zs, H1 D = none → Ex H1 H' → H' D = some (.lst zs) → All2 (R D H') zs ((ys.filter p).map f) → Qd D H') : ∀ D, H1 D = none →
    ∃ W : Nat → Nat → Hp → Prop, (∃ m, W 0 m (upd H1 D (.lst []))) ∧ ∀ i m H, W i m H →
      ((Itl K a).stop i H ∧ Qd D H) ∨ ((Itl K a).go i H ∧ ∃ Nx : Hp → Prop, (∀ H', Nx H' → ∃ m', m' < m ∧ W (i + 1) m' H') ∧ ∀ x H', (Itl K a).yld i H x H' → g x (wipe σ vs) H' fun σ2 H2 => wipe σ2 vs = wipe σ vs ∧ tt σ2 H2 fun b H3 =>
        if b = true then te σ2 H3 fun y H4 => ∃ acc, H4 D = some (.lst acc) ∧ acc.length < sizeLine ∧ Nx (upd H4 D (.lst (acc ++ [y]))) else Nx H3) := by
  intro D hD
  refine lc_list (K := K) (a := a) (xs := xs) (fun i H => Ex H1 H ∧ ∃ acc, H D = some (.lst acc) ∧ All2 (R D H) acc (((ys.take i).filter p).map f)) ⟨Ex.new hD, [], upd_same, .nil⟩ (fun i H _ q => SqL.of (q.1 _ _ hx)) (fun i x H hi q => ?_) fun H q => ?_
  · obtain ⟨e, acc, h1, h2⟩ := q
    have hlt : i < ys.length := by rw [← hl]; exact (List.getElem?_eq_some_iff.mp hi).1
    have hy : ys[i]? = some ys[i] := List.getElem?_eq_getElem hlt
    refine hs D i x _ H hi hy e ⟨acc, h1⟩ _ _ (fun hb v H4 e4 r => ⟨acc, e4 _ _ h1, small ?_, (e.trans e4).upd_new hD, acc ++ [v], upd_same, ?_⟩) (fun hb H3 e3 => ⟨e.trans e3, acc, e3 _ _ h1, ?_⟩)
    · rw [h2.length, List.length_map]
      have := List.length_filter_le p (ys.take i)
      rw [List.length_take] at this
      omega
    · have tx : TX H4 (upd H4 D (.lst (acc ++ [v]))) := .wl (e4 _ _ h1)
      have bt : But D H4 (upd H4 D (.lst (acc ++ [v]))) := .wr
      rw [take_fm hy, if_pos hb]
      exact (h2.mono fun u y r => hm D _ _ _ _ bt tx (hm D _ _ _ _ (.of e4) (.of e4) r)).snoc (hm D _ _ _ _ bt tx r)
    · rw [take_fm hy, if_neg (by rw [hb]; decide)]
      exact h2.mono fun u y r => hm D _ _ _ _ (.of e3) (.of e3) r
  · obtain ⟨e, acc, h1, h2⟩ := q
    rw [hl, List.take_length] at h2
    exact k D H acc hD e h1 h2
end
theorem All2.erase {α β : Type} {R : α → β → Prop} : ∀ {as : List α} {bs : List β}, All2 R as bs → ∀ j, All2 R (as.eraseIdx j) (bs.eraseIdx j)
  | _, _, .nil, j => .nil
  | _, _, .cons r t, 0 => t
  | _, _, .cons r t, j + 1 => .cons r (t.erase j)
abbrev Row := List (Step Str) × Str
/-- a row: a course, where it leads -/
def RowV (K : PySem.W.Frag) (bx rp mp : Addr) (H : Hp) (v : V) (r : Row) : Prop := ∃ t q vs, v = .ref t ∧ H t = some (.tup [.ref q, .str r.2]) ∧ q ≠ bx ∧ q ≠ rp ∧ q ≠ mp ∧ H q = some (.lst vs) ∧ All2 (StV K H) vs r.1
theorem RowV.step {K : PySem.W.Frag} {bx rp mp : Addr} {H H' : Hp} {v : V} {r : Row} (h : RowV K bx rp mp H v r) (tx : TX H H') (b : ∀ c o, c ≠ bx → c ≠ rp → c ≠ mp → H c = some o → H' c = some o) : RowV K bx rp mp H' v r := by
  obtain ⟨t, q, vs, h1, h2, h3, h4, h5, h6, h7⟩ := h
  exact ⟨t, q, vs, h1, tx _ _ h2, h3, h4, h5, b _ _ h3 h4 h5 h6, h7.tm tm_st tx⟩
/-- a row that may stand while met have been met -/
structure RowOk (ss : List (Step Str)) (ps : List Str) (x : Str) (met : List Str) (r : Row) : Prop where
  ch : Chain x r.1 r.2
  mem : ∀ s ∈ r.1, s ∈ ss
  nd : (x :: r.1.map (·.e)).Nodup
  old : ∀ z ∈ x :: r.1.map (·.e), z ≠ r.2 → z ∈ met
  inp : r.2 ∈ ps
theorem RowOk.more {ss : List (Step Str)} {ps : List Str} {x : Str} {met : List Str} {r : Row} (h : RowOk ss ps x met r) (y : Str) : RowOk ss ps x (met ++ [y]) r :=
  ⟨h.ch, h.mem, h.nd, fun z hz hn => List.mem_append_left _ (h.old z hz hn), h.inp⟩
theorem RowOk.go {ss : List (Step Str)} {ps : List Str} {x : Str} {met : List Str} {r : Row} (h : RowOk ss ps x met r) {s : Step Str} (hs : s ∈ ss) (hb : s.b = r.2) (he : s.e ∉ met ++ [r.2]) (hp : s.e ∈ ps) : RowOk ss ps x (met ++ [r.2]) (r.1 ++ [s], s.e) := by
  have all : ∀ z ∈ x :: r.1.map (·.e), z ∈ met ++ [r.2] := fun z hz => by
    by_cases c : z = r.2
    · rw [c]; simp
    · exact List.mem_append_left _ (h.old z hz c)
  refine ⟨chain_snoc h.ch hb, fun u hu => ?_, ?_, fun z hz hn => ?_, hp⟩
  · rcases List.mem_append.mp hu with q | q
    · exact h.mem u q
    · rw [List.mem_singleton.mp q]; exact hs
  · rw [List.map_append]
    exact nd_snoc h.nd fun q => he (all _ q)
  · have hz' : z ∈ (x :: r.1.map (·.e)) ++ [s.e] := by simpa using hz
    rcases List.mem_append.mp hz' with q | q
    · exact all z q
    · exact absurd (List.mem_singleton.mp q) hn
section
variable {P : Program} {w : World} {K : PySem.W.Frag} {mg : Str → Option Value} {base : Heap}
def sp__law_course_by (K : PySem.W.Frag) : Sp := sp5 fun a b c d e H Q => ∃ (bx sa ba : Addr) (sv : List V) (ss : List (Step Str)) (x y : Str) (ps : List Str) (n : Nat), a = .ref bx ∧ b = .ref sa ∧ c = .str x ∧ d = .str y ∧ e = .ref ba ∧ BoxV H bx n ∧ n < 80000 ∧ sa ≠ bx ∧ H sa = some (.lst sv) ∧ All2 (StV K H) sv ss ∧ ss.length ≤ 48 ∧ H ba = some (.lst []) ∧
  ps.length ≤ 10 ∧ x ∈ ps ∧ (∀ s ∈ ss, s.e ∈ ps) ∧ (∀ H', But bx H H' → BoxV H' bx (n + 600) → Q .non H') ∧ (∀ p H' vs c, But bx H H' → BoxV H' bx (n + 600) → H' p = some (.lst vs) → All2 (StV K H') vs c → WayOk ss x y c → Q (.ref p) H')
/-! _law_course_by: slots 0:_law_box_here 1:_law_steps 2:_law_first 3:_law_end 4:_law_barred 5:_law_rows 6:_law_met 7:_law_course 8:_law_here 9:_law_step -/
abbrev N__law_course_by : List Str := ["_law_box_here", "_law_steps", "_law_first", "_law_end", "_law_barred", "_law_rows", "_law_met", "_law_course", "_law_here", "_law_step"]
theorem sc__law_course_by : FnScope N__law_course_by ["_law_box_here", "_law_steps", "_law_first", "_law_end", "_law_barred"] (defScope s__law_course_by) := ⟨rfl, rfl, rfl, by decide +kernel, rfl, by decide +kernel, by decide +kernel⟩
theorem ok__law_course_by (T : Txt K mg) : DOk P w K mg base "_law_course_by" ["_law_box_here", "_law_steps", "_law_first", "_law_end", "_law_barred"] 2 (sp__law_course_by K) := by
  have G__law_take := ok__law_take (P := P) (w := w) (base := base) T
  refine T.d__law_course_by.ok sc__law_course_by sp5_len (fun f cdv A outer s H vs Q E hr h => ?_)
  refine ⟨_, (pss_cons (ps_asg (pe_tup (pa_cons (pe_lst (pa_cons (pe_tup (pa_cons (pe_lst pa_nil) (pa_cons (pv 2) pa_nil))) pa_nil)) (pa_cons (pe_callTy call_list_of (by rfl) T.n_list (by decide +kernel) (pa_cons (pv 4) pa_nil)) pa_nil))) (pgT K 2 rfl (pgs_cons (pg_name (i := 5) sc__law_course_by.nd rfl (Or.inl rfl)) (pgs_cons (pg_name (i := 6) sc__law_course_by.nd rfl (Or.inr rfl)) pgs_nil))))
        (pss_cons (ps_while PassesOwn.never (pt_cmpR (op_neE hr) (pv 5) (pe_lst pa_nil) (nomark _)) (pss_cons (ps_asg (pe_bm PySem.F.plainAttrs_list PySem.F.slot_list_pop PySem.F.type_list_pop mt_popAt (pv 5) (pa_cons (pe_op op_sub (pe_op op_sub (pe_callB (lenK K) (by rfl) T.n_len PySem.boot_len (pa_cons (pv 5) pa_nil)) pe_int) (pe_callD G__law_take (hr.mono (by decide)) (pa_cons (pv 0) (pa_cons (pe_callB (call_min2 rfl) (by rfl) T.n_min (by decide +kernel) (pa_cons (pe_callB (lenK K) (by rfl) T.n_len PySem.boot_len (pa_cons (pv 5) pa_nil)) (pa_cons pe_int pa_nil))) pa_nil)))) pa_nil)) (pgT K 2 rfl (pgs_cons (pg_name (i := 7) sc__law_course_by.nd rfl (Or.inr rfl)) (pgs_cons (pg_name (i := 8) sc__law_course_by.nd rfl (Or.inr rfl)) pgs_nil))))
        (pss_cons (ps_if (pt_cmpR op_eq (pv 8) (pv 3) (nomark _)) (pss_one (ps_ret (pv 7))) pss_nil)
        (pss_one (ps_if (pt_cmpR (opNotIn K) (pv 8) (pv 6) rfl) (pss_cons (ps_expr (pe_bm PySem.F.plainAttrs_list PySem.F.slot_list_append PySem.F.type_list_append mt_append (pv 6) (pa_cons (pv 8) pa_nil)))
        (pss_one (ps_expr (pe_bm PySem.F.plainAttrs_list PySem.F.slot_list_extend PySem.F.type_list_extend mt_extend (pv 5) (pa_cons (pe_lc (own := [("_law_step", 9)]) (g := gName 9) (by rfl) sc__law_course_by.nd (piL K (pv 1)) (blkOk_by (N := N__law_course_by) (sc := defScope s__law_course_by) (own := [("_law_step", 9)]) (by decide +kernel)) (fun _ _ _ _ _ => (pg_name (i := 9) sc__law_course_by.nd rfl (Or.inl rfl))) (fun _ _ _ _ _ => (pts_one (PW.pt (pw_and (pt_cmpR op_eq (pe_ix (ixT K) (pv 9) pe_int (fun _ _ => rfl)) (pv 8) (nomark _)) (pw_and1 (pt_cmpR (opNotIn K) (pe_ix (ixT K) (pv 9) pe_int (fun _ _ => rfl)) (pv 6) rfl)))))) (fun _ _ _ _ _ => (pe_tup (pa_cons (pe_op op_cat (pv 7) (pe_lst (pa_cons (pv 9) pa_nil))) (pa_cons (pe_ix (ixT K) (pv 9) pe_int (fun _ _ => rfl)) pa_nil))))) pa_nil))))) pss_nil)))))
        (pss_one (ps_ret pe_non)))), ?_⟩
  obtain ⟨_, _, _, _, _, rfl, bx, sa, ba, sv, ss, x, y, ps, n, rfl, rfl, rfl, rfl, rfl, hb, hn, hsb, hsa, hsv, hs48, hba, hp10, hxp, hsp, k1, k2⟩ := h
  refine ⟨smallE (by simp), fun p1 hp1 => ⟨_, rfl, smallE (by simp), fun p2 hp2 => ⟨smallE (by simp), fun rp hrp => ?_⟩⟩⟩
  have e1 : Ex H (upd H p1 (.lst [])) := Ex.new hp1
  have e2 : Ex (upd H p1 (.lst [])) (upd (upd H p1 (.lst [])) p2 (.tup [.ref p1, .str x])) := Ex.new hp2
  have e3 : Ex (upd (upd H p1 (.lst [])) p2 (.tup [.ref p1, .str x])) (upd (upd (upd H p1 (.lst [])) p2 (.tup [.ref p1, .str x])) rp (.lst [.ref p2])) := Ex.new hrp
  have e13 := e1.trans (e2.trans e3)
  refine ⟨_, rfl, ba, _, rfl, .inl (SqL.of (e13 _ _ hba)), fun mp hmp => ⟨smallE (by simp), fun t ht => ⟨t, _, rfl, SqT.of upd_same, rfl, _, _, rfl, _, _, rfl, rfl, ?_⟩⟩⟩
  have hrpb : rp ≠ bx := (hb.ex (e1.trans e2)).ne hrp
  have hmpb : mp ≠ bx := (hb.ex e13).ne hmp
  have hp1b : p1 ≠ bx := hb.ne hp1
  have hmr : mp ≠ rp := (ne_of_none upd_same hmp).symm
  have h1r : p1 ≠ rp := ne_of_none (e2 _ _ upd_same) hrp
  have h1m : p1 ≠ mp := ne_of_none (e3 _ _ (e2 _ _ upd_same)) hmp
  have hrp0 : H rp = none := e1.back (e2.back hrp)
  have hmp0 : H mp = none := e13.back hmp
  have h1at := e3 _ _ (e2 _ _ (upd_same (H := H) (a := p1) (o := .lst [])))
  have h2at := e3 _ _ (upd_same (H := upd H p1 (.lst [])) (a := p2) (o := .tup [.ref p1, .str x]))
  have hrat := upd_same (H := upd (upd H p1 (.lst [])) p2 (.tup [.ref p1, .str x])) (a := rp) (o := .lst [.ref p2])
  generalize upd (upd (upd H p1 (.lst [])) p2 (.tup [.ref p1, .str x])) rp (.lst [.ref p2]) = H3 at *
  have e4 : Ex H3 (upd H3 mp (.lst [])) := Ex.new hmp
  have e5 : Ex (upd H3 mp (.lst [])) (upd (upd H3 mp (.lst [])) t (.tup [.ref rp, .ref mp])) := Ex.new ht
  have e45 := e4.trans e5
  have hmat : (upd (upd H3 mp (.lst [])) t (.tup [.ref rp, .ref mp])) mp = some (.lst []) := e5 _ _ upd_same
  generalize upd (upd H3 mp (.lst [])) t (.tup [.ref rp, .ref mp]) = H5 at *
  have e05 := e13.trans e45
  have sar : sa ≠ rp := ne_of_none hsa hrp0
  have sam : sa ≠ mp := ne_of_none hsa hmp0
  refine ⟨fun m σ H' => ∃ (rows : List Row) (met : List Str) (rv : List V) (x7 x8 x9 : Option V), σ = [some (.ref bx), some (.ref sa), some (.str x), some (.str y), some (.ref ba), some (.ref rp), some (.ref mp), x7, x8, x9] ∧ But bx H H' ∧ BoxV H' bx (n + (501 - m)) ∧ H' rp = some (.lst rv) ∧ All2 (RowV K bx rp mp H') rv rows ∧
    H' mp = some (.lst (met.map V.str)) ∧ met.Nodup ∧ (∀ z ∈ met, z ∈ ps) ∧ (∀ r ∈ rows, RowOk ss ps x met r) ∧ m = rows.length + 49 * (ps.length - met.length) ∧ m ≤ 501,
    ⟨1 + 49 * ps.length, [([], x)], [], [.ref p2], none, none, none, rfl, .of e05, (hb.ex e05).mono (by omega), e45 _ _ hrat, .cons ⟨p2, p1, [], rfl, e45 _ _ h2at, hp1b, h1r, h1m, e45 _ _ h1at, .nil⟩ .nil, hmat, List.nodup_nil, (by simp), ?_, by simp, by omega⟩, ?_⟩
  · intro r hr
    rw [List.mem_singleton.mp hr]
    exact ⟨rfl, (by simp), by simp, fun z hz hn => absurd (by simpa using hz) hn, hxp⟩
  rintro m σ Ha ⟨rows, met, rv, x7, x8, x9, rfl, ba', hba', hrpa, hrows, hmpa, hmnd, hmps, hok, hm, hm501⟩
  have lrv : rv.length = rows.length := hrows.length
  refine ⟨_, rfl, smallE (by simp), fun o ho => ⟨rp, o, rv, rfl, rfl, SqL.of ((Ex.new ho) _ _ hrpa), SqL.of upd_same, _, rfl, ?_⟩⟩
  have eo : Ex Ha (upd Ha o (.lst [])) := Ex.new ho
  have ba2 := ba'.ex eo
  have hba2 := hba'.ex eo
  have hrp2 := eo _ _ hrpa
  have hmp2 := eo _ _ hmpa
  have hrows2 : All2 (RowV K bx rp mp (upd Ha o (.lst []))) rv rows := hrows.mono fun v r h => h.step (.of eo) fun c u _ _ _ hc => eo c u hc
  generalize upd Ha o (.lst []) = Hb at *
  by_cases hrvE : rv = []
  · rw [show (rv.isEmpty != true) = false by rw [hrvE]; rfl]
    exact iteF (k1 _ ba2 (hba2.mono (by omega)))
  · have hlen : 0 < rv.length := List.length_pos_iff.mpr hrvE
    rw [show (rv.isEmpty != true) = true by cases rv with
      | nil => exact absurd rfl hrvE
      | cons _ _ => rfl]
    refine iteT ⟨fun σ' H' => ∃ (rows : List Row) (met : List Str) (rv : List V) (x7 x8 x9 : Option V) (m' : Nat), σ' = [some (.ref bx), some (.ref sa), some (.str x), some (.str y), some (.ref ba), some (.ref rp), some (.ref mp), x7, x8, x9] ∧ But bx H H' ∧ BoxV H' bx (n + (501 - m')) ∧ H' rp = some (.lst rv) ∧ All2 (RowV K bx rp mp H') rv rows ∧
      H' mp = some (.lst (met.map V.str)) ∧ met.Nodup ∧ (∀ z ∈ met, z ∈ ps) ∧ (∀ r ∈ rows, RowOk ss ps x met r) ∧ m' = rows.length + 49 * (ps.length - met.length) ∧ m' < m, ?_, ?_⟩
    · rintro σ' H' ⟨rows, met, rv, x7, x8, x9, m', rfl, c1, c2, c3, c4, c5, c6, c7, c8, c9, c10⟩
      exact ⟨m', c10, rows, met, rv, x7, x8, x9, rfl, c1, c2, c3, c4, c5, c6, c7, c8, c9, by omega⟩
    -- pop
    obtain ⟨q, hq0, hq3, hql, hqe⟩ : ∃ q : Nat, 0 < q ∧ q ≤ 3 ∧ q ≤ rv.length ∧ (if (3 : Int) < (rv.length : Int) then (3 : Int) else (rv.length : Int)) = (q : Int) := by
      by_cases c : 3 < rv.length
      · exact ⟨3, by decide, by decide, by omega, by rw [if_pos (by omega)]; rfl⟩
      · exact ⟨rv.length, hlen, by omega, Nat.le_refl _, by rw [if_neg (by omega)]⟩
    refine ⟨_, rfl, .inl ⟨rfl, _, SqL.of hrp2⟩, _, rfl, rp, _, rfl, .inl (SqL.of hrp2), _, _, rfl, rfl, _, rfl, _, rfl, rp, _, rfl, .inl (SqL.of hrp2), _, _, rfl, ?_⟩
    rw [hqe]
    refine ⟨_, _, rfl, bx, q, _, rfl, rfl, hq0, by omega, hba2, by omega, fun r Hc hr bc hbc => ?_⟩
    have hrpc := bc _ _ hrpb hrp2
    have hmpc := bc _ _ hmpb hmp2
    have hj : rv.length - 1 - r < rv.length := by omega
    obtain ⟨vj, hvj⟩ : ∃ v, rv[rv.length - 1 - r]? = some v := ⟨_, List.getElem?_eq_getElem hj⟩
    obtain ⟨row, hrow, hRV⟩ := hrows2.get hvj
    have cj : (rv.length : Int) - 1 - (r : Int) = ((rv.length - 1 - r : Nat) : Int) := by omega
    refine ⟨_, _, rfl, rfl, rp, rv, _, rv.length - 1 - r, vj, rfl, congrArg (fun z => [V.int z]) cj, hrpc, by omega, by omega, (ixN_seq (Evl.ixN_nat hj)).1, hvj, ?_⟩
    have hrowsC : All2 (RowV K bx rp mp Hc) rv rows := hrows2.mono fun v r h => h.step (hba2.tx bc) fun c u c1 _ _ hc => bc c u c1 hc
    have hrE : rows[rv.length - 1 - r]? = some row := hrow
    have hrm : row ∈ rows := List.mem_of_getElem? hrow
    have O := hok row hrm
    generalize rv.length - 1 - r = j at *
    have b0c := ba2.trans bc
    have txd : TX Hc (upd Hc rp (.lst (rv.eraseIdx j))) := .wl hrpc
    have hrowsD : All2 (RowV K bx rp mp (upd Hc rp (.lst (rv.eraseIdx j)))) (rv.eraseIdx j) (rows.eraseIdx j) := (hrowsC.mono fun v r h => h.step txd fun c u _ c2 _ hc => by rw [upd_ne c2]; exact hc).erase j
    have hRVd : RowV K bx rp mp (upd Hc rp (.lst (rv.eraseIdx j))) vj row := (hrowsC.two hvj hrE).step txd fun c u _ c2 _ hc => by rw [upd_ne c2]; exact hc
    have bd : But bx H (upd Hc rp (.lst (rv.eraseIdx j))) := b0c.upd hrp0
    have hbd : BoxV (upd Hc rp (.lst (rv.eraseIdx j))) bx (n + (501 - m) + 1) := hbc.upd hrpb
    have hmpd : (upd Hc rp (.lst (rv.eraseIdx j))) mp = some (.lst (met.map V.str)) := by rw [upd_ne hmr]; exact hmpc
    have hrpd : (upd Hc rp (.lst (rv.eraseIdx j))) rp = some (.lst (rv.eraseIdx j)) := upd_same
    generalize upd Hc rp (.lst (rv.eraseIdx j)) = Hd at *
    have hsad := bd _ _ hsb hsa
    have hsvd : All2 (StV K Hd) sv ss := hsv.tm tm_st (hb.tx bd)
    have lre : (rows.eraseIdx j).length = rows.length - 1 := by
      rw [List.length_eraseIdx]
      have := (List.getElem?_eq_some_iff.mp hrE).1
      rw [if_pos this]
    have hok' : ∀ r ∈ rows.eraseIdx j, RowOk ss ps x met r := fun r hr => hok r (List.mem_of_mem_eraseIdx hr)
    obtain ⟨t', q', vs', rfl, ht', hqb, hqr, hqm, hq', hvs'⟩ := hRVd
    obtain ⟨rc, rh⟩ := row
    refine ⟨t', _, rfl, SqT.of ht', rfl, _, _, rfl, _, _, rfl, rfl, ?_⟩
    refine ⟨_, rfl, _, rfl, rfl, _, rfl, ?_⟩
    by_cases hhy : rh = y
    · subst hhy
      rw [decide_eq_true rfl]
      exact iteT ⟨_, rfl, k2 q' Hd vs' rc bd (hbd.mono (by omega)) hq' hvs' ⟨O.ch, O.mem, O.nd⟩⟩
    rw [decide_eq_false (fun z => hhy (V.str.inj z))]
    refine iteF ?_
    have hrp1 : 0 < rows.length := by omega
    have hml := nodup_le hmnd hmps
    refine ⟨_, rfl, _, rfl, mp, _, rfl, .inl (SqL.of hmpd), rfl, by simp [List.all_map, flatV], _, rfl, ?_⟩
    rw [show (if true = true then !inV (V.str rh) (met.map V.str) else inV (V.str rh) (met.map V.str)) = !decide (rh ∈ met) by rw [if_pos rfl, inV_str]]
    by_cases hin : rh ∈ met
    · rw [decide_eq_true hin]
      exact iteF ⟨rows.eraseIdx j, met, rv.eraseIdx j, _, _, _, _, rfl, bd, hbd.mono (by omega), hrpd, hrowsD, hmpd, hmnd, hmps, hok', rfl, by omega⟩
    rw [decide_eq_false hin]
    refine iteT ?_
    have hml2 : met.length + 1 ≤ ps.length := by
      have := nodup_le (nd_snoc hmnd hin) (ps := ps) (fun z hz => by
        rcases List.mem_append.mp hz with w' | w'
        · exact hmps z w'
        · rw [List.mem_singleton.mp w']; exact O.inp)
      simpa using this
    refine ⟨_, rfl, .inl ⟨rfl, _, SqL.of hmpd⟩, _, rfl, mp, _, _, rfl, rfl, hmpd, small (by simp; omega), ?_⟩
    have txe : TX Hd (upd Hd mp (.lst (met.map V.str ++ [.str rh]))) := .wl hmpd
    have ste : ∀ v r, RowV K bx rp mp Hd v r → RowV K bx rp mp (upd Hd mp (.lst (met.map V.str ++ [.str rh]))) v r := fun v r h => h.step txe fun c u _ _ c3 hc => by rw [upd_ne c3]; exact hc
    have hrowsE := hrowsD.mono ste
    have be : But bx H (upd Hd mp (.lst (met.map V.str ++ [.str rh]))) := bd.upd hmp0
    have hbe : BoxV (upd Hd mp (.lst (met.map V.str ++ [.str rh]))) bx (n + (501 - m) + 1) := hbd.upd hmpb
    have hmpe : (upd Hd mp (.lst (met.map V.str ++ [.str rh]))) mp = some (.lst ((met ++ [rh]).map V.str)) := by rw [upd_same, List.map_append]; rfl
    have hrpe : (upd Hd mp (.lst (met.map V.str ++ [.str rh]))) rp = some (.lst (rv.eraseIdx j)) := by rw [upd_ne hmr.symm]; exact hrpd
    have hqe : (upd Hd mp (.lst (met.map V.str ++ [.str rh]))) q' = some (.lst vs') := by rw [upd_ne hqm]; exact hq'
    have hvse := hvs'.tm tm_st txe
    have hsae : (upd Hd mp (.lst (met.map V.str ++ [.str rh]))) sa = some (.lst sv) := by rw [upd_ne sam]; exact hsad
    have hsve := hsvd.tm tm_st txe
    generalize upd Hd mp (.lst (met.map V.str ++ [.str rh])) = He at *
    have lvs' : vs'.length ≤ 20 := by
      rw [hvs'.length]
      have := nodup_le O.nd (ps := ps) (fun z hz => by
        rcases List.mem_cons.mp hz with w' | w'
        · rw [w']; exact hxp
        · obtain ⟨u, hu, rfl⟩ := List.mem_map.mp w'
          exact hsp u (O.mem u hu))
      simp at this
      show rc.length ≤ 20
      omega
    refine ⟨_, rfl, .inl ⟨rfl, _, SqL.of hrpe⟩, _, rfl, sa, rfl, ⟨_, SqL.of hsae⟩, lc_fmD (K := K) (ys := ss) (R := fun D H v (r : Row) => ∃ t q vs, v = V.ref t ∧ H t = some (.tup [.ref q, .str r.2]) ∧ q ≠ bx ∧ q ≠ rp ∧ q ≠ mp ∧ q ≠ D ∧ H q = some (.lst vs) ∧ All2 (StV K H) vs r.1) ?_
      (p := fun s => decide (s.b = rh) && decide (s.e ∉ met ++ [rh])) (f := fun s => (rc ++ [s], s.e)) hsae hsve.length (by omega) ?_ ?_⟩
    · rintro D H H' v r bt tx ⟨t, q, vs, h1, h2, h3, h4, h5, h6, h7, h8⟩
      exact ⟨t, q, vs, h1, tx _ _ h2, h3, h4, h5, h6, bt _ _ h6 h7, h8.tm tm_st tx⟩
    · rintro D i xv s Hx hxv hs ex ⟨accD, hDx⟩ A B hA hB
      have hS := (hsve.two hxv hs).mono (.of ex)
      obtain ⟨ta, vr, vg, rfl, hta, _, _⟩ := id hS
      refine ⟨rfl, _, rfl, ta, _, _, .str s.b, rfl, rfl, hta.sq, rfl, _, rfl, rfl, _, rfl, ?_⟩
      by_cases hsbh : s.b = rh
      · rw [decide_eq_true (congrArg V.str hsbh)]
        refine iteT ⟨_, rfl, ta, _, _, .str s.e, rfl, rfl, hta.sq, rfl, _, rfl, mp, _, rfl, .inl (SqL.of (ex _ _ hmpe)), rfl, by simp [List.all_map, flatV], _, rfl, ?_⟩
        rw [show (if true = true then !inV (V.str s.e) ((met ++ [rh]).map V.str) else inV (V.str s.e) ((met ++ [rh]).map V.str)) = !decide (s.e ∈ met ++ [rh]) by rw [if_pos rfl, inV_str]]
        by_cases hse : s.e ∈ met ++ [rh]
        · rw [decide_eq_true hse]
          exact iteF (hB (by simp [hse]) _ (Ex.refl _))
        · rw [decide_eq_false hse]
          refine iteT ⟨_, rfl, _, rfl, smallE (by simp), fun p hp => ?_⟩
          have ep : Ex Hx (upd Hx p (.lst [.ref ta])) := Ex.new hp
          refine ⟨q', p, vs', _, rfl, rfl, ep _ _ (ex _ _ hqe), upd_same, smallE (by simp; omega), fun r' hr' => ?_⟩
          have er : Ex (upd Hx p (.lst [.ref ta])) (upd (upd Hx p (.lst [.ref ta])) r' (.lst (vs' ++ [.ref ta]))) := Ex.new hr'
          have e2r := ep.trans er
          refine ⟨_, rfl, ta, _, _, .str s.e, rfl, rfl, (hta.mono (.of e2r)).sq, rfl, smallE (by simp), fun t2 ht2 => ?_⟩
          have et : Ex (upd (upd Hx p (.lst [.ref ta])) r' (.lst (vs' ++ [.ref ta]))) (upd (upd (upd Hx p (.lst [.ref ta])) r' (.lst (vs' ++ [.ref ta]))) t2 (.tup [.ref r', .str s.e])) := Ex.new ht2
          have e3t := e2r.trans et
          have hr0 : Hx r' = none := ep.back hr'
          have hre0 : He r' = none := ex.back hr0
          refine hA (by simp [hsbh, hse]) _ _ e3t ⟨t2, r', _, rfl, upd_same, hbe.ne hre0, (ne_of_none hrpe hre0).symm, (ne_of_none hmpe hre0).symm, (ne_of_none hDx hr0).symm, et _ _ upd_same, ((hvse.tm tm_st (.of (ex.trans e3t))).append (.cons (hS.mono (.of e3t)) .nil))⟩
      · rw [decide_eq_false (fun z => hsbh (V.str.inj z))]
        exact iteF (iteF (hB (by simp [hsbh]) _ (Ex.refl _)))
    intro D Hz zs hD0 ez hDz az
    have lz : zs.length ≤ 48 := by
      rw [az.length, List.length_map]
      have := List.length_filter_le (fun s : Step Str => decide (s.b = rh) && decide (s.e ∉ met ++ [rh])) ss
      omega
    have lrve : (rv.eraseIdx j).length ≤ 600 := by
      rw [hrowsE.length, lre]
      omega
    refine ⟨rp, D, _, _, rfl, rfl, ez _ _ hrpe, hDz, smallE (by omega), ?_⟩
    have hrpz := ez _ _ hrpe
    have txz : TX Hz (upd Hz rp (.lst (rv.eraseIdx j ++ zs))) := .wl hrpz
    refine ⟨rows.eraseIdx j ++ (ss.filter fun s => decide (s.b = rh) && decide (s.e ∉ met ++ [rh])).map (fun s => (rc ++ [s], s.e)), met ++ [rh], rv.eraseIdx j ++ zs, _, _, _, _, rfl, (be.ex ez).upd hrp0, ((hbe.ex ez).upd hrpb).mono ?_, upd_same, ?_, ?_, nd_snoc hmnd hin, fun z hz => ?_, fun r hr => ?_, rfl, ?_⟩
    · rw [List.length_append, lre, List.length_append, List.length_singleton, ← az.length]
      omega
    · refine (hrowsE.mono fun v r h => (h.step (.of ez) fun c u _ _ _ hc => ez c u hc).step txz fun c u _ c2 _ hc => by rw [upd_ne c2]; exact hc).append (az.mono fun v r ⟨t, q, vs, h1, h2, h3, h4, h5, h6, h7, h8⟩ => ⟨t, q, vs, h1, txz _ _ h2, h3, h4, h5, by rw [upd_ne h4]; exact h7, h8.tm tm_st txz⟩)
    · rw [upd_ne hmr]
      exact ez _ _ hmpe
    · rcases List.mem_append.mp hz with w' | w'
      · exact hmps z w'
      · rw [List.mem_singleton.mp w']; exact O.inp
    · rcases List.mem_append.mp hr with w' | w'
      · exact (hok' r w').more rh
      · obtain ⟨s, hs, rfl⟩ := List.mem_map.mp w'
        obtain ⟨hs1, hs2⟩ := List.mem_filter.mp hs
        have hs2 : s.b = rh ∧ s.e ∉ met ++ [rh] := by simpa using hs2
        exact RowOk.go O hs1 hs2.1 hs2.2 (hsp s hs1)
    · rw [List.length_append, lre, List.length_append, List.length_singleton, ← az.length]
      omega
end
end GW
set_option Elab.async false
set_option linter.all false
set_option maxRecDepth 100000
set_option maxHeartbeats 4000000
/-! LI: left_at, keeps, stream_by -/
namespace GW
open PySem PySem.Spec PyProof.Rows L2 GM
section
variable {P : Program} {w : World} {K : PySem.W.Frag} {mg : Str → Option Value} {base : Heap}
def sp__law_left_at (K : PySem.W.Frag) : Sp := sp3 fun a b c H Q => ∃ (ps : List Str) (ts : List (Tie Str)) (f : List Rat) (p : Str), NetV K H a ps ts ∧ LsV (FrV K) H b f ∧ c = .str p ∧ LeftSz ts f p ∧ RetFr K (left ts f p) H Q
/-! _law_left_at: slots 0:_law_net 1:_law_stream 2:_law_place 3:_law_total 4:_law_goes 5:_law_begin 6:_law_end 7:_law_top 8:_law_gain 9:_law_price -/
abbrev N__law_left_at : List Str := ["_law_net", "_law_stream", "_law_place", "_law_total", "_law_goes", "_law_begin", "_law_end", "_law_top", "_law_gain", "_law_price"]
theorem sc__law_left_at : FnScope N__law_left_at ["_law_net", "_law_stream", "_law_place"] (defScope s__law_left_at) := ⟨rfl, rfl, rfl, by decide +kernel, rfl, by decide +kernel, by decide +kernel⟩
theorem ok__law_left_at (T : Txt K mg) : DOk P w K mg base "_law_left_at" ["_law_net", "_law_stream", "_law_place"] 3 (sp__law_left_at K) := by
  have G__law_minus := ok__law_minus (P := P) (w := w) (base := base) T
  have G__law_sum := ok__law_sum (P := P) (w := w) (base := base) T
  have G__law_product := ok__law_product (P := P) (w := w) (base := base) T
  refine T.d__law_left_at.ok sc__law_left_at sp3_len (fun f cdv A outer s H vs Q E hr h => ?_)
  refine ⟨_, (pss_cons (ps_set (i := 3) sc__law_left_at.nd rfl (Or.inl rfl) (pe_tup (pa_cons pe_int (pa_cons pe_int pa_nil))))
        (pss_cons (ps_for PassesOwn.never rfl (pi_zipLT (by rfl) T.n_zip (pa_cons (pv 1) (pa_cons (pe_ix (ixT K) (pv 0) pe_int (fun _ _ => rfl)) pa_nil))) (pgT K 2 rfl (pgs_cons (pg_name (i := 4) sc__law_left_at.nd rfl (Or.inl rfl)) (pgs_cons (pgT K 5 rfl (pgs_cons (pg_name (i := 5) sc__law_left_at.nd rfl (Or.inl rfl)) (pgs_cons (pg_name (i := 6) sc__law_left_at.nd rfl (Or.inl rfl)) (pgs_cons (pg_name (i := 7) sc__law_left_at.nd rfl (Or.inl rfl)) (pgs_cons (pg_name (i := 8) sc__law_left_at.nd rfl (Or.inl rfl)) (pgs_cons (pg_name (i := 9) sc__law_left_at.nd rfl (Or.inl rfl)) pgs_nil)))))) pgs_nil))) (Evl.pss_cut (ps_if (pt_cmpR op_eq (pv 6) (pv 2) (nomark _)) (pss_one (ps_set (i := 3) sc__law_left_at.nd rfl (Or.inl rfl) (pe_callD G__law_sum (hr.mono (by decide)) (pa_cons (pv 3) (pa_cons (pe_callD G__law_product (hr.mono (by decide)) (pa_cons (pv 4) (pa_cons (pv 8) pa_nil))) pa_nil))))) pss_nil)
        (pss_one (ps_if (pt_cmpR op_eq (pv 5) (pv 2) (nomark _)) (pss_one (ps_set (i := 3) sc__law_left_at.nd rfl (Or.inl rfl) (pe_callD G__law_minus (hr.mono (by decide)) (pa_cons (pv 3) (pa_cons (pv 4) pa_nil))))) pss_nil))))
        (pss_one (ps_ret (pv 3))))), ?_⟩
  obtain ⟨_, _, _, rfl, ps, ts, fl, p, ⟨na, nb, nc, tv, rfl, h1, h2, h3, h4⟩, ⟨sa, sv, rfl, h5, h6⟩, rfl, Z, k⟩ := h
  refine ⟨smallE (by simp), fun z0 hz0 => ?_⟩
  have e0 : Ex H (upd H z0 (.tup [.int 0, .int 1])) := Ex.new hz0
  have f0 : FrV K (upd H z0 (.tup [.int 0, .int 1])) (.ref z0) 0 := fr_new 0 1 0 rfl rfl (Sz.zero.mono (by decide))
  have lsv : sv.length = fl.length := h6.length
  have ltv : tv.length = ts.length := h4.length
  have lm : min sv.length tv.length = ts.length := by rw [lsv, ltv, Z.len, Nat.min_self]
  refine ⟨_, rfl, _, rfl, na, _, _, .ref nc, rfl, rfl, (h1.mono (.of e0)).sq, rfl, sa, nc, sv, tv, rfl, SqL.of (e0 _ _ h5), (h3.mono (.of e0)).sq, ?_⟩
  refine for_it walk_T (fun i σ H' => ∃ v x4 x5 x6 x7 x8 x9, σ = [some (.ref na), some (.ref sa), some (.str p), some v, x4, x5, x6, x7, x8, x9] ∧ Ex H H' ∧ FrV K H' v (left (ts.take i) (fl.take i) p))
    ⟨_, none, none, none, none, none, none, rfl, e0, f0⟩ (fun i σ H' _ ⟨_, _, _, _, _, _, _, _, e, _⟩ => ⟨SqL.of (e _ _ h5), (h3.mono (.of e)).sq⟩) ?_ ?_
  · rintro i y σ H' H2 hi ⟨v, x4, x5, x6, x7, x8, x9, rfl, e, hv⟩ ⟨T, _, rfl, hT, rfl, xv, tv', hxv, htv, rfl⟩
    have e1 : Ex H' (upd H' T (.tup [xv, tv'])) := Ex.new hT
    have e2 := e.trans e1
    obtain ⟨t0, ht0, rt0⟩ := h4.get htv
    obtain ⟨x0, hx0, rx0⟩ := h6.get hxv
    obtain ⟨z1, z2, z3⟩ := Z.go i t0 x0 ht0 hx0
    have hstep := left_take p ht0 hx0
    obtain ⟨ta, vm, vg, vp, qp, rfl, ht, hm, hg, hpr⟩ := rt0.mono (.of e2)
    have hx := rx0.ex e2
    refine ⟨T, _, rfl, SqT.of upd_same, rfl, _, _, rfl, _, _, rfl, ta, _, rfl, ht.sq, rfl, _, _, rfl, _, _, rfl, _, _, rfl, _, _, rfl, _, _, rfl, rfl, rfl, ?_⟩
    have hv2 := hv.ex e1
    generalize upd H' T (.tup [xv, .ref ta]) = H2 at *
    refine ⟨fun σ H3 => ∃ v, σ = [some (.ref na), some (.ref sa), some (.str p), some v, some xv, some (.str t0.b), some (.str t0.e), some vm, some vg, some vp] ∧ Ex H2 H3 ∧ FrV K H3 v (left (ts.take i) (fl.take i) p + if t0.e = p then x0 * t0.gain else 0), ?_, ?_⟩
    · refine ⟨_, rfl, _, rfl, rfl, _, rfl, ?_⟩
      by_cases he : t0.e = p
      · rw [decide_eq_true (congrArg V.str he), if_pos he]
        refine iteT ⟨_, rfl, _, rfl, _, rfl, _, _, rfl, x0, t0.gain, hx, hg, trivial, z1, fun v2 H3 e3 h3' => ?_⟩
        refine ⟨_, _, rfl, _, _, hv2.ex e3, h3', trivial, z2, fun v3 H4 e4 h4' => ⟨v3, rfl, e3.trans e4, h4'⟩⟩
      · rw [decide_eq_false (fun z => he (V.str.inj z)), if_neg he]
        refine iteF ⟨v, rfl, Ex.refl _, ?_⟩
        rw [Rat.add_zero]
        exact hv2
    · rintro σ H3 ⟨v, rfl, e3, hv3⟩
      refine ⟨_, rfl, _, rfl, rfl, _, rfl, ?_⟩
      by_cases hb : t0.b = p
      · rw [decide_eq_true (congrArg V.str hb)]
        have hq : left (ts.take i) (fl.take i) p + (if t0.e = p then x0 * t0.gain else 0) - x0 = left (ts.take (i + 1)) (fl.take (i + 1)) p := by
          rw [hstep]
          unfold coef
          rw [if_pos hb]
          split <;> grind
        refine iteT ⟨_, rfl, _, rfl, _, _, rfl, _, x0, hv3, hx.ex e3, trivial, by show Sz 4000 (left (ts.take i) (fl.take i) p + (if t0.e = p then x0 * t0.gain else 0) - x0); rw [hq]; exact z3, fun v4 H4 e4 h4' => ⟨v4, _, _, _, _, _, _, rfl, (e2.trans e3).trans e4, ?_⟩⟩
        rw [← hq]
        exact h4'
      · rw [decide_eq_false (fun z => hb (V.str.inj z))]
        have hq : left (ts.take i) (fl.take i) p + (if t0.e = p then x0 * t0.gain else 0) = left (ts.take (i + 1)) (fl.take (i + 1)) p := by
          rw [hstep]
          unfold coef
          rw [if_neg hb]
          split <;> grind
        refine iteF ⟨v, _, _, _, _, _, _, rfl, e2.trans e3, ?_⟩
        rw [← hq]
        exact hv3
  · rintro σ H' ⟨v, x4, x5, x6, x7, x8, x9, rfl, e, hv⟩
    rw [lm, List.take_length, ← Z.len, List.take_length] at hv
    exact ⟨_, rfl, k v H' e hv⟩
/-- a fraction as data -/
theorem dp_fr {H : Hp} {v : V} {q : Rat} (h : FrV K H v q) : Dp K H v (.tuple [.int q.num, .int (q.den : Nat)]) := by
  obtain ⟨a, rfl, h, _⟩ := h
  exact .tup h.sq (.cons (.int _) (.cons (.int _) .nil))
theorem dp_lit {H : Hp} {a : Addr} {n m : Int} (h : SqT K H a [.int n, .int m]) : Dp K H (.ref a) (.tuple [.int n, .int m]) := .tup h (.cons (.int _) (.cons (.int _) .nil))
theorem shaped2 (n m : Int) : SeqAt.shaped (.tuple [.int n, .int m]) = true := rfl
theorem eqv2 (a b c d : Int) : PyData.eqv (.tuple [.int a, .int b]) (.tuple [.int c, .int d]) = (a == c && b == d) := by
  simp [PyData.eqv, PyData.eqvAll]
def sp__law_keeps (K : PySem.W.Frag) : Sp := sp4 fun a b c d H Q => ∃ (ps : List Str) (ts : List (Tie Str)) (x y : Str) (f : List Rat) (B : Nat), NetV K H a ps ts ∧ LsV (FrV K) H b f ∧ c = .str x ∧ d = .str y ∧ NetOk ps ts ∧ StreamOk ts ps x y B f ∧ B ≤ 3780 ∧ ∀ H', Ex H H' → Q (.bl true) H'
/-! _law_keeps: slots 0:_law_net 1:_law_stream 2:_law_begin 3:_law_end 4:_law_goes 5:_law_tie 6:_law_place -/
abbrev N__law_keeps : List Str := ["_law_net", "_law_stream", "_law_begin", "_law_end", "_law_goes", "_law_tie", "_law_place"]
theorem sc__law_keeps : FnScope N__law_keeps ["_law_net", "_law_stream", "_law_begin", "_law_end"] (defScope s__law_keeps) := ⟨rfl, rfl, rfl, by decide +kernel, rfl, by decide +kernel, by decide +kernel⟩
theorem ok__law_keeps (T : Txt K mg) : DOk P w K mg base "_law_keeps" ["_law_net", "_law_stream", "_law_begin", "_law_end"] 4 (sp__law_keeps K) := by
  have G__law_left_at := ok__law_left_at (P := P) (w := w) (base := base) T
  have G__law_above := ok__law_above (P := P) (w := w) (base := base) T
  refine T.d__law_keeps.ok sc__law_keeps sp4_len (fun f cdv A outer s H vs Q E hr h => ?_)
  refine ⟨_, (pss_cons (ps_for PassesOwn.never rfl (pi_zipLT (by rfl) T.n_zip (pa_cons (pv 1) (pa_cons (pe_ix (ixT K) (pv 0) pe_int (fun _ _ => rfl)) pa_nil))) (pgT K 2 rfl (pgs_cons (pg_name (i := 4) sc__law_keeps.nd rfl (Or.inl rfl)) (pgs_cons (pg_name (i := 5) sc__law_keeps.nd rfl (Or.inl rfl)) pgs_nil))) (pss_one (ps_if (PW.pt (pw_or (pt_cmpR op_lt (pe_ix (ixT K) (pv 4) pe_int (fun _ _ => rfl)) pe_int (nomark _)) (pw_or1 (pt_cmpR op_gt (pe_callD G__law_above (hr.mono (by decide)) (pa_cons (pv 4) (pa_cons (pe_ix (ixT K) (pv 5) pe_int (fun _ _ => rfl)) pa_nil))) pe_int (nomark _))))) (pss_one (ps_ret pe_bl)) pss_nil)))
        (pss_one (ps_ret (pe_callB (cr_all rfl) (by rfl) T.n_all (by decide +kernel) (pa_cons (pe_lc (own := [("_law_place", 6)]) (g := gName 6) (by rfl) sc__law_keeps.nd (piT K (pe_ix (ixT K) (pv 0) pe_int (fun _ _ => rfl))) (blkOk_by (N := N__law_keeps) (sc := defScope s__law_keeps) (own := [("_law_place", 6)]) (by decide +kernel)) (fun _ _ _ _ _ => (pg_name (i := 6) sc__law_keeps.nd rfl (Or.inl rfl))) (fun _ _ _ _ _ => (pts_one (pt_cmpR (opNotIn K) (pv 6) (pe_tup (pa_cons (pv 2) (pa_cons (pv 3) pa_nil))) rfl))) (fun _ _ _ _ _ => (pe_cmpR (opEqD K hr.units) (pe_callD G__law_left_at (hr.mono (by decide)) (pa_cons (pv 0) (pa_cons (pv 1) (pa_cons (pv 6) pa_nil)))) (pe_tup (pa_cons pe_int (pa_cons pe_int pa_nil))) (nomark _)))) pa_nil))))), ?_⟩
  obtain ⟨_, _, _, _, rfl, ps, ts, bb, be, fl, B, hnet, hst, rfl, rfl, N, S, hB, k⟩ := h
  obtain ⟨na, nb, nc, tv, rfl, h1, h2, h3, h4⟩ := id hnet
  obtain ⟨sa, sv, rfl, h5, h6⟩ := id hst
  have lsv : sv.length = fl.length := h6.length
  have ltv : tv.length = ts.length := h4.length
  refine ⟨_, rfl, _, rfl, na, _, _, .ref nc, rfl, rfl, h1.sq, rfl, sa, nc, sv, tv, rfl, SqL.of h5, h3.sq, ?_⟩
  refine for_it walk_T (fun i σ H' => ∃ x4 x5, σ = [some (.ref na), some (.ref sa), some (.str bb), some (.str be), x4, x5, none] ∧ Ex H H')
    ⟨none, none, rfl, Ex.refl _⟩ (fun i σ H' _ ⟨_, _, _, e⟩ => ⟨SqL.of (e _ _ h5), (h3.mono (.of e)).sq⟩) ?_ ?_
  · rintro i y σ H' H2 hi ⟨x4, x5, rfl, e⟩ ⟨T, _, rfl, hT, rfl, xv, tv', hxv, htv, rfl⟩
    have e1 : Ex H' (upd H' T (.tup [xv, tv'])) := Ex.new hT
    have e2 := e.trans e1
    obtain ⟨t0, ht0, rt0⟩ := h4.get htv
    obtain ⟨x0, hx0, rx0⟩ := h6.get hxv
    obtain ⟨ta, vm, vg, vp, qp, rfl, ht, hm, hg, hpr⟩ := rt0.mono (.of e2)
    have hx := rx0.ex e2
    obtain ⟨ax, rfl, hx2, zx⟩ := id hx
    have hlo := S.flow.lo _ _ hx0
    have hhi := S.flow.hi _ _ _ ht0 hx0
    refine ⟨T, _, rfl, SqT.of upd_same, rfl, _, _, rfl, _, _, rfl, rfl, ?_⟩
    refine ⟨_, rfl, ax, _, _, .int x0.num, rfl, rfl, hx2.sq, rfl, _, _, rfl, rfl, _, rfl, ?_⟩
    have hn0 : ¬ x0.num < 0 := fun q => absurd (num_neg_iff.mp q) (Rat.not_lt.mpr hlo)
    rw [decide_eq_false hn0]
    refine iteF ⟨_, rfl, _, rfl, ta, _, _, vm, rfl, rfl, ht.sq, rfl, _, _, rfl, x0, t0.most, hx, hm, fun z z1 z2 => ⟨_, _, rfl, rfl, _, rfl, ?_⟩⟩
    have hz0 : ¬ 0 < z := fun q => absurd (z1.mp q) (Rat.not_lt.mpr hhi)
    rw [decide_eq_false hz0]
    exact iteF ⟨_, _, rfl, e2⟩
  · rintro σ H' ⟨x4, x5, rfl, e⟩
    refine ⟨_, rfl, na, _, _, .ref nb, rfl, rfl, (h1.mono (.of e)).sq, rfl, nb, rfl, ⟨_, (h2.mono (.of e)).sq⟩, lc_fmT (K := K) (ys := ps) (R := fun _ v (b : Str) => v = V.bl true) (fun _ _ _ _ _ h => h) (p := fun z => decide (z ∉ [bb, be])) (f := id) (h2.mono (.of e)) (by simp) (by have := N.p10; omega) ?_ ?_⟩
    · intro i xv z H2 hxv hz e2 A Bq hA hBq
      rw [List.getElem?_map, hz] at hxv
      cases hxv
      have e02 := e.trans e2
      refine ⟨rfl, _, rfl, _, rfl, _, rfl, smallE (by simp), fun t ht => ⟨t, _, rfl, .inr (SqT.of upd_same), rfl, rfl, _, rfl, ?_⟩⟩
      have et : Ex H2 (upd H2 t (.tup [.str bb, .str be])) := Ex.new ht
      rw [show (if true = true then !inV (V.str z) [V.str bb, V.str be] else inV (V.str z) [V.str bb, V.str be]) = !decide (z ∈ [bb, be]) by rw [if_pos rfl]; exact congrArg (!·) (inV_str z [bb, be])]
      by_cases hin : z ∈ [bb, be]
      · rw [decide_eq_true hin]
        exact iteF (hBq (decide_eq_false fun h => h hin) _ et)
      · rw [decide_eq_false hin]
        have hz1 : z ≠ bb := fun q => hin (by simp [q])
        have hz2 : z ≠ be := fun q => hin (by simp [q])
        refine iteT ⟨_, rfl, _, rfl, _, rfl, _, _, _, rfl, ps, ts, fl, z, hnet.mono (.of (e02.trans et)), hst.ex tm_fr (e02.trans et), rfl, left_sz N S hB z, fun v H3 e3 h3' => ⟨smallE (by simp), fun o ho => ?_⟩⟩
        have eo : Ex H3 (upd H3 o (.tup [.int 0, .int 1])) := Ex.new ho
        rw [S.flow.keep z (List.mem_of_getElem? hz) hz1 hz2] at h3'
        refine ⟨_, _, dp_fr (h3'.ex eo), dp_lit (SqT.of upd_same), shaped2 _ _, shaped2 _ _, hA (decide_eq_true hin) _ _ (et.trans (e3.trans eo)) ?_⟩
        rw [eqv2]
        rfl
    intro p1 H1 zs hp1 e1 hz1 az1
    rw [List.map_id] at az1
    have ez := az1.eq_map (g := fun _ => V.bl true)
    subst ez
    refine ⟨p1, (ps.filter fun z => decide (z ∉ [bb, be])).map fun _ => true, rfl, SqL.of (by rw [hz1, List.map_map]; rfl), ?_⟩
    rw [show ((ps.filter fun z => decide (z ∉ [bb, be])).map fun _ => true).all id = true by simp]
    exact k _ (e.trans e1)
def sp__law_stream_by (K : PySem.W.Frag) : Sp := sp4 fun a b c d H Q => ∃ (bx : Addr) (ps : List Str) (ts : List (Tie Str)) (x y : Str) (n : Nat), a = .ref bx ∧ NetV K H b ps ts ∧ c = .str x ∧ d = .str y ∧ NetOk ps ts ∧ x ∈ ps ∧ y ∈ ps ∧ x ≠ y ∧ BoxV H bx n ∧ n < 60000 ∧
  ∀ v H' f, But bx H H' → BoxV H' bx (n + 3000) → LsV (FrV K) H' v f → StreamOk ts ps x y 534 f → (∃ p, v = .ref p ∧ p ≠ bx) → Q v H'
theorem LsV.but {β : Type} {R : Hp → V → β → Prop} (m : TM R) {H H' : Hp} {p bx : Addr} {ys : List β} (h : LsV R H (.ref p) ys) (hp : p ≠ bx) (b : But bx H H') (t : TX H H') : LsV R H' (.ref p) ys := by
  obtain ⟨a, vs, h1, h2, h3⟩ := h
  cases h1
  exact ⟨p, vs, rfl, b _ _ hp h2, h3.tm m t⟩
/-! _law_stream_by: slots 0:_law_box_here 1:_law_net 2:_law_begin 3:_law_end 4:_law_stream 5:_law_turn 6:_law_course 7:_law_parts 8:_law_share -/
abbrev N__law_stream_by : List Str := ["_law_box_here", "_law_net", "_law_begin", "_law_end", "_law_stream", "_law_turn", "_law_course", "_law_parts", "_law_share"]
theorem sc__law_stream_by : FnScope N__law_stream_by ["_law_box_here", "_law_net", "_law_begin", "_law_end"] (defScope s__law_stream_by) := ⟨rfl, rfl, rfl, by decide +kernel, rfl, by decide +kernel, by decide +kernel⟩
theorem ok__law_stream_by (T : Txt K mg) : DOk P w K mg base "_law_stream_by" ["_law_box_here", "_law_net", "_law_begin", "_law_end"] 4 (sp__law_stream_by K) := by
  have G__law_take := ok__law_take (P := P) (w := w) (base := base) T
  have G__law_put := ok__law_put (P := P) (w := w) (base := base) T
  have G__law_product := ok__law_product (P := P) (w := w) (base := base) T
  have G__law_much_along := ok__law_much_along (P := P) (w := w) (base := base) T
  have G__law_parts_on := ok__law_parts_on (P := P) (w := w) (base := base) T
  have G__law_course_by := ok__law_course_by (P := P) (w := w) (base := base) T
  have G__law_steps_of := ok__law_steps_of (P := P) (w := w) (base := base) T
  refine T.d__law_stream_by.ok sc__law_stream_by sp4_len (fun f cdv A outer s H vs Q E hr h => ?_)
  refine ⟨_, (pss_cons (ps_set (i := 4) sc__law_stream_by.nd rfl (Or.inl rfl) (pe_op op_rep (pe_lst (pa_cons (pe_tup (pa_cons pe_int (pa_cons pe_int pa_nil))) pa_nil)) (pe_callB (lenK K) (by rfl) T.n_len PySem.boot_len (pa_cons (pe_ix (ixT K) (pv 1) pe_int (fun _ _ => rfl)) pa_nil))))
        (pss_cons (ps_for PassesOwn.never rfl (pi_range1 (by rfl) T.n_range (pa_cons (pe_callD G__law_take (hr.mono (by decide)) (pa_cons (pv 0) (pa_cons pe_int pa_nil))) pa_nil)) (pg_name (i := 5) sc__law_stream_by.nd rfl (Or.inl rfl)) (pss_cons (ps_set (i := 6) sc__law_stream_by.nd rfl (Or.inl rfl) (pe_callD G__law_course_by (hr.mono (by decide)) (pa_cons (pv 0) (pa_cons (pe_callD G__law_steps_of (hr.mono (by decide)) (pa_cons (pv 1) (pa_cons (pv 4) pa_nil))) (pa_cons (pv 2) (pa_cons (pv 3) (pa_cons (pe_lst pa_nil) pa_nil)))))))
        (pss_one (ps_if (pt_cmpR op_notN (pv 6) pe_non (nomark _)) (pss_cons (ps_set (i := 7) sc__law_stream_by.nd rfl (Or.inl rfl) (pe_ix (ixT K) (pe_callD G__law_parts_on (hr.mono (by decide)) (pa_cons (pv 6) (pa_cons (pe_tup (pa_cons pe_int (pa_cons pe_int pa_nil))) pa_nil))) pe_int (fun _ _ => rfl)))
        (pss_cons (ps_set (i := 8) sc__law_stream_by.nd rfl (Or.inl rfl) (pe_ix (ixL K) (pe_lst (pa_cons (pe_tup (pa_cons pe_int (pa_cons pe_int pa_nil))) (pa_cons (pe_tup (pa_cons pe_int (pa_cons pe_int pa_nil))) (pa_cons (pe_tup (pa_cons pe_int (pa_cons pe_int pa_nil))) (pa_cons (pe_tup (pa_cons pe_int (pa_cons pe_int pa_nil))) pa_nil))))) (pe_callD G__law_take (hr.mono (by decide)) (pa_cons (pv 0) (pa_cons pe_int pa_nil))) (fun _ _ => rfl)))
        (pss_one (ps_set (i := 4) sc__law_stream_by.nd rfl (Or.inl rfl) (pe_callD G__law_put (hr.mono (by decide)) (pa_cons (pv 4) (pa_cons (pv 7) (pa_cons (pe_callD G__law_product (hr.mono (by decide)) (pa_cons (pe_callD G__law_much_along (hr.mono (by decide)) (pa_cons (pv 7) pa_nil)) (pa_cons (pv 8) pa_nil))) pa_nil)))))))) pss_nil))))
        (pss_one (ps_ret (pv 4))))), ?_⟩
  obtain ⟨_, vn, _, _, rfl, bx, ps, ts, x, y, n, rfl, hnet, rfl, rfl, N, hx, hy, hxy, hb, hn, k⟩ := h
  obtain ⟨na, nb, nc, tv, rfl, h1, h2, h3, h4⟩ := id hnet
  have ltv : tv.length = ts.length := h4.length
  have ht24 := N.t24
  refine ⟨smallE (by simp), fun q1 hq1 => ⟨smallE (by simp), fun q2 hq2 => ?_⟩⟩
  have e1 : Ex H (upd H q1 (.tup [.int 0, .int 1])) := Ex.new hq1
  have e2 : Ex (upd H q1 (.tup [.int 0, .int 1])) (upd (upd H q1 (.tup [.int 0, .int 1])) q2 (.lst [.ref q1])) := Ex.new hq2
  have f1 : FrV K (upd H q1 (.tup [.int 0, .int 1])) (.ref q1) 0 := fr_new 0 1 0 rfl rfl (Sz.zero.mono (by decide))
  have e12 := e1.trans e2
  refine ⟨_, rfl, na, _, _, .ref nc, rfl, rfl, (h1.mono (.of e12)).sq, rfl, nc, _, rfl, .inr (h3.mono (.of e12)).sq, q2, (tv.length : Int), _, rfl, rfl, upd_same, by omega, by omega, ?_, fun sp hsp => ?_⟩
  · rw [Int.toNat_natCast]
    exact smallE (by simp; omega)
  rw [Int.toNat_natCast, rep_flat]
  have e3 : Ex (upd (upd H q1 (.tup [.int 0, .int 1])) q2 (.lst [.ref q1])) (upd (upd (upd H q1 (.tup [.int 0, .int 1])) q2 (.lst [.ref q1])) sp (.lst (List.replicate tv.length (.ref q1)))) := Ex.new hsp
  have e03 := e12.trans e3
  have hL0 : LsV (FrV K) (upd (upd (upd H q1 (.tup [.int 0, .int 1])) q2 (.lst [.ref q1])) sp (.lst (List.replicate tv.length (.ref q1)))) (.ref sp) (List.replicate ts.length 0) := ⟨sp, _, rfl, upd_same, (show ∀ m, m = ts.length → All2 (FrV K (upd (upd (upd H q1 (.tup [.int 0, .int 1])) q2 (.lst [.ref q1])) sp (.lst (List.replicate tv.length (.ref q1))))) (List.replicate m (.ref q1)) (List.replicate ts.length 0) from fun m e => by subst e; exact All2.rep ((f1.ex e2).ex e3) _) _ ltv⟩
  have hspb : sp ≠ bx := (hb.ex e12).ne hsp
  generalize upd (upd (upd H q1 (.tup [.int 0, .int 1])) q2 (.lst [.ref q1])) sp (.lst (List.replicate tv.length (.ref q1))) = H3 at *
  refine ⟨_, rfl, _, _, rfl, bx, 5, n, rfl, rfl, by decide, by decide, hb.ex e03, by omega, fun r H4 hr4 b4 hb4 => ⟨(r : Int), rfl, by omega, by omega, ?_⟩⟩
  rw [Int.toNat_natCast]
  have b04 : But bx H H4 := (But.of e03).trans b4
  refine for_it (walk_range (lo := 0)) (fun i σ H' => ∃ (sp : Addr) (fl : List Rat) (x5 x6 x7 x8 : Option V), σ = [some (.ref bx), some (.ref na), some (.str x), some (.str y), some (.ref sp), x5, x6, x7, x8] ∧ But bx H H' ∧ BoxV H' bx (n + 1 + 700 * i) ∧ sp ≠ bx ∧ LsV (FrV K) H' (.ref sp) fl ∧ StreamOk ts ps x y (6 + 132 * i) fl)
    ⟨sp, _, none, none, none, none, rfl, b04, hb4, hspb, hL0.but tm_fr hspb b4 ((hb.ex e03).tx b4), zero_ok N⟩ (fun _ _ _ _ _ => trivial) ?_ ?_
  · rintro i v σ Ha Hb hi ⟨sp, fl, x5, x6, x7, x8, rfl, ba, hba, hsp', hL, S⟩ ⟨rfl, rfl⟩
    have ta := hb.tx ba
    have O := laneOk (f := fl) N
    refine ⟨_, rfl, _, rfl, _, rfl, _, _, rfl, ps, ts, fl, hnet.mono ta, hL, steps_sz N S (by omega), fun sa H2 sv hsa0 e2' hsa hsv => ?_⟩
    refine ⟨_, rfl, _, rfl, smallE (by simp), fun bo hbo => ?_⟩
    have eb : Ex H2 (upd H2 bo (.lst [])) := Ex.new hbo
    have e2b := e2'.trans eb
    refine ⟨_, _, _, _, _, rfl, bx, sa, bo, sv, stepsOf ts fl, x, y, ps, n + 1 + 700 * i, rfl, rfl, rfl, rfl, rfl, hba.ex e2b, by omega, hba.ne hsa0, eb _ _ hsa, hsv.tm tm_st (.of eb), steps48 N, upd_same, N.p10, hx, O.e, ?_, ?_⟩
    · intro H3 b3 hb3
      have b03 := (ba.ex e2b).trans b3
      refine ⟨_, rfl, rfl, _, rfl, ?_⟩
      exact iteF ⟨sp, fl, _, _, _, _, rfl, b03, hb3.mono (by omega), hsp', (hL.ex tm_fr e2b).but tm_fr hsp' b3 ((hba.ex e2b).tx b3), S.mono (by omega)⟩
    · intro p H3 vs c b3 hb3 hp hvs W
      have hbet : BetOk (stepsOf ts fl) x y (.way c) := W
      have h10 : c.length ≤ 10 := list_len_le N hbet
      have hL3 := (hL.ex tm_fr e2b).but tm_fr hsp' b3 ((hba.ex e2b).tx b3)
      have b03 := (ba.ex e2b).trans b3
      refine ⟨_, rfl, rfl, _, rfl, iteT ?_⟩
      refine ⟨_, rfl, smallE (by simp), fun o ho => ?_⟩
      have eo : Ex H3 (upd H3 o (.tup [.int 1, .int 1])) := Ex.new ho
      have fo : FrV K (upd H3 o (.tup [.int 1, .int 1])) (.ref o) 1 := fr_new 1 1 1 rfl rfl (Sz.one.mono (by decide))
      have hpz := partsOf_sz N hbet
      have hIs : ∀ q ∈ partsOf (.way c), IsStep ts fl q.1 := fun q hq => mem_stepsOf.mp (bet_mem hbet _ (by rw [← partsOf_fst]; exact List.mem_map.mpr ⟨q, hq, rfl⟩))
      refine ⟨_, _, rfl, c, 1, ⟨p, vs, rfl, eo _ _ hp, hvs.tm tm_st (.of eo)⟩, fo, by omega, fun q hq => ((hpz q hq).mul ((hIs q hq).lane N).2.2.2.2).mono (by decide), fun tq qp vv H5 pv e5 htq hqp hpv _ => ?_⟩
      refine ⟨tq, _, _, .ref qp, rfl, rfl, SqT.of htq, rfl, ?_⟩
      have hpv : All2 (PtV K H5) pv (partsOf (.way c)) := hpv
      have eo5 := eo.trans e5
      have hqpb : qp ≠ bx := by
        intro z
        obtain ⟨a1, a2, a3, q, _⟩ := (hb3.ex eo5)
        rw [z, q] at hqp
        have hl := congrArg (fun o => match o with | some (HO.lst xs) => xs | _ => []) hqp
        have hl : [V.int (a1 : Nat), V.int (a2 : Nat), V.int (a3 : Nat)] = pv := hl
        rw [← hl] at hpv
        cases hpp : partsOf (.way c) with
        | nil => rw [hpp] at hpv; exact nomatch hpv
        | cons u us =>
          rw [hpp] at hpv
          cases hpv with
          | cons r _ =>
            obtain ⟨_, _, _, r, _⟩ := r
            exact nomatch r
      refine ⟨smallE (by simp), fun d1 hd1 => ⟨smallE (by simp), fun d2 hd2 => ⟨smallE (by simp), fun d3 hd3 => ⟨smallE (by simp), fun d4 hd4 => ⟨smallE (by simp), fun sl hsl => ?_⟩⟩⟩⟩⟩
      have y1 := Ex.new (o := .tup [.int 1, .int 1]) hd1
      have y2 := Ex.new (o := .tup [.int 1, .int 1]) hd2
      have y3 := Ex.new (o := .tup [.int 1, .int 2]) hd3
      have y4 := Ex.new (o := .tup [.int 1, .int 3]) hd4
      have y5 := Ex.new (o := .lst [.ref d1, .ref d2, .ref d3, .ref d4]) hsl
      have hsl0 : (upd (upd (upd (upd (upd H5 d1 (.tup [.int 1, .int 1])) d2 (.tup [.int 1, .int 1])) d3 (.tup [.int 1, .int 2])) d4 (.tup [.int 1, .int 3])) sl (.lst [.ref d1, .ref d2, .ref d3, .ref d4])) sl = some (.lst [.ref d1, .ref d2, .ref d3, .ref d4]) := upd_same
      generalize hHl : upd (upd (upd (upd (upd H5 d1 (.tup [.int 1, .int 1])) d2 (.tup [.int 1, .int 1])) d3 (.tup [.int 1, .int 2])) d4 (.tup [.int 1, .int 3])) sl (.lst [.ref d1, .ref d2, .ref d3, .ref d4]) = Hl at y5 hsl0
      have hless : ∀ r : Nat, r < 4 → ∃ v q, [V.ref d1, .ref d2, .ref d3, .ref d4][r]? = some v ∧ FrV K Hl v q ∧ 0 < q ∧ q ≤ 1 ∧ q.den < 2 ^ 2 ∧ Sz 4 q := by
        intro r hr4
        match r, hr4 with
        | 0, _ => exact ⟨_, mkRat 1 1, rfl, (fr_new 1 1 (mkRat 1 1) (by decide +kernel) (by decide +kernel) (Sz.mono (a := 3) ⟨by decide +kernel, by decide +kernel⟩ (by decide))).ex (y2.trans (y3.trans (y4.trans y5))), by decide +kernel, by decide +kernel, by decide +kernel, by decide +kernel, by decide +kernel⟩
        | 1, _ => exact ⟨_, mkRat 1 1, rfl, (fr_new 1 1 (mkRat 1 1) (by decide +kernel) (by decide +kernel) (Sz.mono (a := 3) ⟨by decide +kernel, by decide +kernel⟩ (by decide))).ex (y3.trans (y4.trans y5)), by decide +kernel, by decide +kernel, by decide +kernel, by decide +kernel, by decide +kernel⟩
        | 2, _ => exact ⟨_, mkRat 1 2, rfl, (fr_new 1 2 (mkRat 1 2) (by decide +kernel) (by decide +kernel) (Sz.mono (a := 3) ⟨by decide +kernel, by decide +kernel⟩ (by decide))).ex (y4.trans y5), by decide +kernel, by decide +kernel, by decide +kernel, by decide +kernel, by decide +kernel⟩
        | 3, _ => exact ⟨_, mkRat 1 3, rfl, (fr_new 1 3 (mkRat 1 3) (by decide +kernel) (by decide +kernel) (Sz.mono (a := 3) ⟨by decide +kernel, by decide +kernel⟩ (by decide))).ex y5, by decide +kernel, by decide +kernel, by decide +kernel, by decide +kernel, by decide +kernel⟩
      have ecl := (y1.trans (y2.trans (y3.trans (y4.trans y5))))
      have hslb : sl ≠ bx := ((hb3.ex eo5).ex (y1.trans (y2.trans (y3.trans y4)))).ne hsl
      refine ⟨_, rfl, _, _, rfl, bx, 4, _, rfl, rfl, by decide, by decide, (hb3.ex eo5).ex ecl, by omega, fun r3 Hm hr3 bm hbm3 => ?_⟩
      obtain ⟨vl, ql, hvl, rl, q0, q1', qd, qz⟩ := hless r3 hr3
      have tl := ((hb3.ex eo5).ex ecl).tx bm
      refine ⟨sl, _, _, vl, rfl, rfl, SqL.of (bm _ _ hslb hsl0), atI_nat hvl, ?_⟩
      have hqm : Hm qp = some (.lst pv) := bm _ _ hqpb (ecl _ _ hqp)
      have hpvm : All2 (PtV K Hm) pv (partsOf (.way c)) := (hpv.tm tm_pt (.of ecl)).tm tm_pt tl
      have hLm := ((hL3.ex tm_fr eo5).ex tm_fr ecl).but tm_fr hsp' bm tl
      have hpp := parts_pos O.pos hbet
      have hne := bet_ne hxy hbet
      have hpl : (partsOf (.way c)).length ≤ 10 := by
        have := congrArg List.length (partsOf_fst (.way c))
        simp at this
        have h9 : (Bet.way c).steps.length ≤ 10 := h10
        omega
      refine ⟨_, rfl, _, rfl, _, rfl, _, rfl, partsOf (.way c), ⟨qp, pv, rfl, hqm, hpvm⟩, hne, by omega, fun q hq => ⟨hpp q hq, ((room_sz N S (hIs q hq)).div (hpz q hq) (hpp q hq)).mono (by omega)⟩, fun vm H7 m e7 hm hmem hmin => ?_⟩
      obtain ⟨qm, hqm', hqe⟩ := hmem
      obtain ⟨hF, hlt, hBo⟩ := better_ok N hxy S hbet (m := m) (share := ql) ⟨qm, hqm', hqe⟩ hmin q0 q1' qd
      have hmz : Sz (6 + 132 * i + 96) m := by
        rw [hqe]
        exact ((room_sz N S (hIs qm hqm')).div (hpz qm hqm') (hpp qm hqm')).mono (by omega)
      have hmqz : Sz (6 + 132 * i + 100) (m * ql) := (hmz.mul qz).mono (by omega)
      refine ⟨_, rfl, _, _, rfl, m, ql, hm, (rl.mono tl).ex e7, trivial, hmqz.mono (by omega), fun vmq H8 e8 hmq => ?_⟩
      have e78 := e7.trans e8
      have hnd : ((partsOf (.way c)).map (·.1.n)).Nodup := by
        have := bet_ties (fun s hs => (mem_stepsOf.mp hs).fits N.gpos) hbet
        rw [← partsOf_fst (.way c), List.map_map] at this
        exact this
      refine ⟨_, _, _, rfl, fl, partsOf (.way c), m * ql, hLm.ex tm_fr e78, ⟨qp, pv, rfl, e78 _ _ hqm, hpvm.tm tm_pt (.of e78)⟩, hmq, hnd, fun q hq => ?_, fun q hq => ?_, fun j v hj => (flow_sz N hF hj).mono (by omega), fun p9 H9 vs9 hp9 e9 hp99 hvs9 => ?_⟩
      · obtain ⟨t0, x0, _, hx0, _⟩ := hIs q hq
        exact ⟨x0, hx0⟩
      · have h1 := hmqz.mul (hpz q hq)
        exact ⟨h1.mono (by omega), (h1.mul ((hIs q hq).lane N).2.2.2.2).mono (by omega)⟩
      · have bfin := ((((b03.ex eo5).ex ecl).trans bm).ex e78).ex e9
        have hbf := (hbm3.ex e78).ex e9
        exact ⟨p9, _, _, _, _, _, rfl, bfin, hbf.mono (by omega), (hbm3.ex e78).ne hp9, ⟨p9, vs9, rfl, hp99, hvs9⟩, hF.mono (by omega)⟩
  · rintro σ H' ⟨sp, fl, x5, x6, x7, x8, rfl, ba, hba, hsp', hL, S⟩
    exact ⟨_, rfl, k _ _ fl ba (hba.mono (by omega)) hL (S.mono (by omega)) ⟨sp, rfl, hsp'⟩⟩
end
end GW
set_option Elab.async false
set_option linter.all false
set_option maxRecDepth 100000
set_option maxHeartbeats 4000000
/-! LJ: told_steps, is_course, shown -/
namespace GW
open PySem PySem.Spec PyProof.Rows L2 GM
theorem filter_key : ∀ {ss : List (Step Str)} {s : Step Str}, (ss.map fun s => (s.n, s.k)).Nodup → s ∈ ss → ss.filter (fun u => ((u.n : Int) == (s.n : Int)) && (u.k == s.k)) = [s]
  | [], s, _, h => nomatch h
  | u :: ss, s, hn, h => by
    obtain ⟨n1, n2⟩ := List.nodup_cons.mp hn
    have off : ∀ z : Step Str, z ∈ ss → (((u.n : Int) == (z.n : Int)) && (u.k == z.k)) = false := fun z hz => by
      rw [Bool.eq_false_iff]
      intro q
      have q : (u.n : Int) = z.n ∧ u.k = z.k := by simpa using q
      exact n1 (List.mem_map.mpr ⟨z, hz, by show (z.n, z.k) = (u.n, u.k); rw [q.2]; congr 1; omega⟩)
    rcases List.mem_cons.mp h with e | h
    · subst e
      rw [List.filter_cons, if_pos (by simp)]
      congr 1
      rw [List.filter_eq_nil_iff]
      intro z hz q
      have q : (z.n : Int) = s.n ∧ z.k = s.k := by simpa using q
      have := off z hz
      rw [← q.1, ← q.2] at this
      simp at this
    · rw [List.filter_cons, if_neg (by rw [off s h]; decide)]
      exact filter_key n2 h
section
variable {P : Program} {w : World} {K : PySem.W.Frag} {mg : Str → Option Value} {base : Heap}
theorem dp_pair {H : Hp} {a : Addr} {n : Int} {b : Bool} (h : SqT K H a [.int n, .bl b]) : Dp K H (.ref a) (.tuple [.int n, .bool b]) := .tup h (.cons (.int _) (.cons (.bl _) .nil))
theorem shapedP (n : Int) (b : Bool) : SeqAt.shaped (.tuple [.int n, .bool b]) = true := rfl
theorem eqvP (a c : Int) (b d : Bool) : PyData.eqv (.tuple [.int a, .bool b]) (.tuple [.int c, .bool d]) = (a == c && b == d) := by
  simp [PyData.eqv, PyData.eqvAll]
def sp__law_told_steps (K : PySem.W.Frag) : Sp := sp2 fun a b H Q => ∃ (ss c : List (Step Str)) (x y : Str), LsV (StV K) H a ss ∧ ss.length ≤ 1000 ∧ (ss.map fun s => (s.n, s.k)).Nodup ∧ LsV (PrV K) H b (c.map fun s => (s.n, s.k)) ∧ (∀ s ∈ c, s ∈ ss) ∧ Chain x c y ∧ c.length ≤ 600 ∧ RetLs (StV K) c H Q
/-! _law_told_steps: slots 0:_law_steps 1:_law_thing 2:_law_found 3:_law_one 4:_law_some 5:_law_step -/
abbrev N__law_told_steps : List Str := ["_law_steps", "_law_thing", "_law_found", "_law_one", "_law_some", "_law_step"]
theorem sc__law_told_steps : FnScope N__law_told_steps ["_law_steps", "_law_thing"] (defScope s__law_told_steps) := ⟨rfl, rfl, rfl, by decide +kernel, rfl, by decide +kernel, by decide +kernel⟩
theorem ok__law_told_steps (T : Txt K mg) : DOk P w K mg base "_law_told_steps" ["_law_steps", "_law_thing"] 1 (sp__law_told_steps K) := by
  refine T.d__law_told_steps.ok sc__law_told_steps sp2_len (fun f cdv A outer s H vs Q E hr h => ?_)
  refine ⟨_, (pss_cons (ps_if (pt_not (pt_val (pe_callB call_isi (by rfl) T.n_isinstance (by decide +kernel) (pa_cons (pv 1) (pa_cons (pe_bltn (v := .ty "list") (u := .type "list") (by rfl) T.n_list (by decide +kernel) rfl) pa_nil))))) (pss_one (ps_ret pe_non)) pss_nil)
        (pss_cons (ps_set (i := 2) sc__law_told_steps.nd rfl (Or.inl rfl) (pe_lst pa_nil))
        (pss_cons (ps_for PassesOwn.never rfl (piL K (pv 1)) (pg_name (i := 3) sc__law_told_steps.nd rfl (Or.inr rfl)) (pss_cons (ps_if (PW.pt (pw_or (pt_not (pt_val (pe_callB call_isi (by rfl) T.n_isinstance (by decide +kernel) (pa_cons (pv 3) (pa_cons (pe_bltn (v := .ty "tuple") (u := .type "tuple") (by rfl) T.n_tuple (by decide +kernel) rfl) pa_nil))))) (pw_or (pt_cmpR op_ne (pe_callB (lenK K) (by rfl) T.n_len PySem.boot_len (pa_cons (pv 3) pa_nil)) pe_int (nomark _)) (pw_or1 (pt_not (pt_val (pe_callB call_isi (by rfl) T.n_isinstance (by decide +kernel) (pa_cons (pe_ix (ixT K) (pv 3) pe_int (fun _ _ => rfl)) (pa_cons (pe_bltn (v := .ty "bool") (u := .type "bool") (by rfl) T.n_bool (by decide +kernel) rfl) pa_nil))))))))) (pss_one (ps_ret pe_non)) pss_nil)
        (pss_cons (ps_if (PW.pt (pw_or (pt_not (pt_val (pe_callB call_isi (by rfl) T.n_isinstance (by decide +kernel) (pa_cons (pe_ix (ixT K) (pv 3) pe_int (fun _ _ => rfl)) (pa_cons (pe_bltn (v := .ty "int") (u := .type "int") (by rfl) T.n_int (by decide +kernel) rfl) pa_nil))))) (pw_or1 (pt_val (pe_callB call_isi (by rfl) T.n_isinstance (by decide +kernel) (pa_cons (pe_ix (ixT K) (pv 3) pe_int (fun _ _ => rfl)) (pa_cons (pe_bltn (v := .ty "bool") (u := .type "bool") (by rfl) T.n_bool (by decide +kernel) rfl) pa_nil))))))) (pss_one (ps_ret pe_non)) pss_nil)
        (pss_cons (ps_setLc (i := 4) (own := [("_law_step", 5)]) (g := gName 5) (by rfl) sc__law_told_steps.nd rfl rfl (sw_true rfl rfl rfl (by decide +kernel)) (piL K (pv 0)) (blkOk_by (N := N__law_told_steps) (sc := defScope s__law_told_steps) (own := [("_law_step", 5)]) (by decide +kernel)) (fun _ _ _ _ _ => (pg_name (i := 5) sc__law_told_steps.nd rfl (Or.inl rfl))) (fun _ _ _ _ _ => (pts_one (pt_cmpR (opEqD K hr.units) (pe_slice (slT K) (pv 5) po_none (po_some pe_int)) (pv 3) (nomark _)))) (fun _ _ _ _ _ => (pv 5)))
        (pss_cons (ps_if (PW.pt (pw_or (pt_cmpR (op_eqE hr) (pv 4) (pe_lst pa_nil) (nomark _)) (pw_or1 (PW.pt (pw_and (pt_cmpR (op_neE hr) (pv 2) (pe_lst pa_nil) (nomark _)) (pw_and1 (pt_cmpR op_ne (pe_ix (ixT K) (pe_ix (ixL K) (pv 2) (pe_un un_neg pe_int) (fun _ _ => rfl)) pe_int (fun _ _ => rfl)) (pe_ix (ixT K) (pe_ix (ixL K) (pv 4) pe_int (fun _ _ => rfl)) pe_int (fun _ _ => rfl)) (nomark _)))))))) (pss_one (ps_ret pe_non)) pss_nil)
        (pss_one (ps_expr (pe_bm PySem.F.plainAttrs_list PySem.F.slot_list_append PySem.F.type_list_append mt_append (pv 2) (pa_cons (pe_ix (ixL K) (pv 4) pe_int (fun _ _ => rfl)) pa_nil)))))))))
        (pss_one (ps_ret (pv 2)))))), ?_⟩
  obtain ⟨_, _, rfl, ss, c, x, y, ⟨sa, sv, rfl, hsa, hsv⟩, hsl, hkn, ⟨a, pv, rfl, ha, hp⟩, hc, hch, hl, k⟩ := h
  have hp := hp.of_map
  refine ⟨_, rfl, _, _, _, _, true, rfl, .ty "list", .base (.lst ha), kit_ty (by decide +kernel), true, rfl, iteF ?_⟩
  refine ⟨smallE (by simp), fun fd hfd => ?_⟩
  have e0 : Ex H (upd H fd (.lst [])) := Ex.new hfd
  refine ⟨_, rfl, a, rfl, ⟨_, SqL.of (e0 _ _ ha)⟩, for_list (K := K) (a := a) (xs := pv) (fun i σ H' => ∃ acc x3 x4, σ = [some (.ref sa), some (.ref a), some (.ref fd), x3, x4, none] ∧ Ex H H' ∧ H' fd = some (.lst acc) ∧ All2 (StV K H') acc (c.take i))
    ⟨[], none, none, rfl, e0, upd_same, .nil⟩ (fun i σ H' _ ⟨_, _, _, _, e, _⟩ => SqL.of (e _ _ ha)) ?_ ?_⟩
  · rintro i v σ Ha hv ⟨acc, x3, x4, rfl, e, hfd', hacc⟩
    obtain ⟨s, hs, rs⟩ := hp.get hv
    obtain ⟨ta, rfl, hta⟩ := rs.mono (.of e)
    have hsm := hc s (List.mem_of_getElem? hs)
    have hil := (List.getElem?_eq_some_iff.mp hs).1
    have hlen : acc.length = i := by
      rw [hacc.length, List.length_take]
      have := (List.getElem?_eq_some_iff.mp hs).1
      omega
    refine ⟨_, rfl, _, _, _, _, true, rfl, .ty "tuple", tyx_tup hta.sq, kit_ty (by decide +kernel), true, rfl, iteF ?_⟩
    refine ⟨_, rfl, ta, _, rfl, .inr hta.sq, rfl, _, rfl, iteF ?_⟩
    refine ⟨_, rfl, ta, _, _, .bl s.k, rfl, rfl, hta.sq, rfl, _, _, _, _, true, rfl, .ty "bool", .base (.bl s.k), kit_ty (by decide +kernel), true, rfl, iteF ?_⟩
    refine ⟨_, rfl, ta, _, _, .int (s.n : Nat), rfl, rfl, hta.sq, rfl, _, _, _, _, true, rfl, .ty "int", .base (.int _), kit_ty (by decide +kernel), true, rfl, iteF ?_⟩
    refine ⟨_, rfl, ta, _, _, .int (s.n : Nat), rfl, rfl, hta.sq, rfl, _, _, _, _, false, rfl, .ty "bool", .base (.int _), kit_ty (by decide +kernel), false, rfl, iteF ?_⟩
    refine ⟨_, rfl, sa, rfl, ⟨_, SqL.of (e _ _ hsa)⟩, lc_fm (K := K) (ys := ss) (R := StV K) tm_st (p := fun u => ((u.n : Int) == (s.n : Int)) && (u.k == s.k)) (f := id) (e _ _ hsa) hsv.length (by omega) ?_ ?_⟩
    · intro j xv u H2 hx hu e2 A B hA hB
      have hS := (hsv.two hx hu).mono (.of (e.trans e2))
      obtain ⟨tb, vr, vg, rfl, htb, _, _⟩ := id hS
      refine ⟨rfl, _, rfl, _, rfl, tb, _, rfl, htb.sq, (by show ¬ (HT.sIx 6 0 none = 0 ∧ HT.sIx 6 6 (some 2) = 6); decide), fun p hp' => ?_⟩
      have ep : Ex H2 (upd H2 p (.tup (cutV [V.int (u.n : Nat), .bl u.k, .str u.b, .str u.e, vr, vg] none (some 2)))) := Ex.new hp'
      have hpt : SqT K (upd H2 p (.tup (cutV [V.int (u.n : Nat), .bl u.k, .str u.b, .str u.e, vr, vg] none (some 2)))) p [.int (u.n : Nat), .bl u.k] := SqT.of upd_same
      refine ⟨_, rfl, _, _, dp_pair hpt, dp_pair (hta.mono (.of (e2.trans ep))).sq, shapedP _ _, shapedP _ _, _, rfl, ?_⟩
      rw [eqvP]
      cases hb : (((u.n : Int) == (s.n : Int)) && (u.k == s.k)) with
      | true => exact iteT ⟨_, rfl, hA hb _ _ ep (hS.mono (.of ep))⟩
      | false => exact iteF (hB hb _ ep)
    intro D H2 zs hD e2 hDz az
    rw [List.map_id, filter_key hkn hsm] at az
    obtain ⟨v1, rfl, rv1⟩ : ∃ v, zs = [v] ∧ StV K H2 v s := by
      cases az with
      | cons r t => cases t; exact ⟨_, rfl, r⟩
    have hfd2 := e2 _ _ hfd'
    have hacc2 := hacc.tm tm_st (.of e2)
    refine ⟨_, rfl, smallE (by simp), fun o1 ho1 => ⟨D, o1, [v1], rfl, rfl, SqL.of ((Ex.new ho1) _ _ hDz), SqL.of upd_same, _, rfl, ?_⟩⟩
    have eo1 : Ex H2 (upd H2 o1 (.lst [])) := Ex.new ho1
    refine (show if false = true then _ else _ from iteF ?_)
    refine ⟨_, rfl, smallE (by simp), fun o2 ho2 => ⟨fd, o2, acc, rfl, rfl, SqL.of ((Ex.new ho2) _ _ (eo1 _ _ hfd2)), SqL.of upd_same, _, rfl, ?_⟩⟩
    have eo2 : Ex (upd H2 o1 (.lst [])) (upd (upd H2 o1 (.lst [])) o2 (.lst [])) := Ex.new ho2
    have e13 := eo1.trans eo2
    generalize upd (upd H2 o1 (.lst [])) o2 (.lst []) = H3 at *
    have hD3 := e13 _ _ hDz
    have hfd3 := e13 _ _ hfd2
    have hacc3 := hacc2.tm tm_st (.of e13)
    have rv3 := rv1.mono (.of e13)
    obtain ⟨tb, vr, vg, rfl, htb, _, _⟩ := id rv3
    have e03 := (e.trans e2).trans e13
    by_cases hae : acc = []
    · rw [show (acc.isEmpty != true) = false by rw [hae]; rfl]
      refine iteF (iteF ?_)
      refine ⟨_, rfl, .inl ⟨rfl, _, SqL.of hfd3⟩, _, rfl, D, _, _, .ref tb, rfl, rfl, SqL.of hD3, atI_nat (j := 0) rfl, fd, acc, _, rfl, rfl, hfd3, small (by omega), acc ++ [.ref tb], _, _, rfl, e03.upd_new hfd, upd_same, ?_⟩
      rw [take_snoc hs]
      exact (hacc3.tm tm_st (.wl hfd3)).snoc (rv3.mono (.wl hfd3))
    · rw [show (acc.isEmpty != true) = true by cases acc with
        | nil => exact absurd rfl hae
        | cons _ _ => rfl]
      have hne : 0 < acc.length := List.length_pos_iff.mpr hae
      obtain ⟨vl, hvl⟩ : ∃ v, acc.getLast? = some v := ⟨_, by rw [List.getLast?_eq_getElem?]; exact List.getElem?_eq_getElem (by omega)⟩
      obtain ⟨sl, hsl, rl⟩ : ∃ sl, (c.take i).getLast? = some sl ∧ StV K H3 vl sl := by
        rw [List.getLast?_eq_getElem?] at hvl
        obtain ⟨sl, h1, h2⟩ := hacc3.get hvl
        refine ⟨sl, ?_, h2⟩
        rw [List.getLast?_eq_getElem?, ← hacc3.length]
        exact h1
      have hlink : sl.e = s.b := by
        have hc' : Chain x (c.take i ++ c.drop i) y := by rw [List.take_append_drop]; exact hch
        obtain ⟨z, c1, c2⟩ := hc'.split
        have hlt := (List.getElem?_eq_some_iff.mp hs).1
        have ed : c.drop i = s :: c.drop (i + 1) := by
          rw [List.drop_eq_getElem_cons hlt]
          congr 1
          exact Option.some.inj ((List.getElem?_eq_getElem hlt).symm.trans hs)
        rw [ed] at c2
        have h1 := chain_last c1
        have hne2 : c.take i ≠ [] := fun q => by rw [q] at hsl; cases hsl
        have h2 : (x :: (c.take i).map (·.e)).getLast? = some sl.e := by
          cases htk : c.take i with
          | nil => exact absurd htk hne2
          | cons u us =>
            show (x :: u.e :: us.map (·.e)).getLast? = _
            rw [List.getLast?_cons_cons]
            show ((u :: us).map (·.e)).getLast? = _
            rw [← htk, List.getLast?_map, hsl]
            rfl
        rw [h1] at h2
        rw [← Option.some.inj h2]
        exact c2.1.symm
      obtain ⟨tl, vrl, vgl, rfl, htl, _, _⟩ := rl
      refine iteT ⟨_, rfl, 1, rfl, fd, _, _, .ref tl, rfl, rfl, SqL.of hfd3, atI_end hvl, tl, _, _, .str sl.e, rfl, rfl, htl.sq, rfl, _, rfl, D, _, _, .ref tb, rfl, rfl, SqL.of hD3, atI_nat (j := 0) rfl, tb, _, _, .str s.b, rfl, rfl, htb.sq, rfl, rfl, _, rfl, ?_⟩
      rw [show (!decide (V.str sl.e = V.str s.b)) = false by rw [hlink]; simp]
      refine iteF ?_
      refine ⟨_, rfl, .inl ⟨rfl, _, SqL.of hfd3⟩, _, rfl, D, _, _, .ref tb, rfl, rfl, SqL.of hD3, atI_nat (j := 0) rfl, fd, acc, _, rfl, rfl, hfd3, small (by omega), acc ++ [.ref tb], _, _, rfl, e03.upd_new hfd, upd_same, ?_⟩
      rw [take_snoc hs]
      exact (hacc3.tm tm_st (.wl hfd3)).snoc (rv3.mono (.wl hfd3))
  · rintro σ H' ⟨acc, x3, x4, rfl, e, hfd', hacc⟩
    rw [hp.length, List.take_length] at hacc
    exact ⟨_, rfl, k fd H' acc hfd e hfd' hacc⟩
def sp__law_is_course (K : PySem.W.Frag) : Sp := sp4 fun a b c d H Q => ∃ (ss : List (Step Str)) (x y : Str) (ba : Addr) (bars : List Str), LsV (StV K) H a ss ∧ b = .str x ∧ c = .str y ∧ d = .ref ba ∧ H ba = some (.lst (bars.map V.str)) ∧ Chain x ss y ∧ (x :: ss.map (·.e)).Nodup ∧ (∀ s ∈ ss, s.e ∉ bars) ∧ ss.length ≤ 900 ∧ ∀ H', Ex H H' → Q (.bl true) H'
/-! _law_is_course: slots 0:_law_course 1:_law_first 2:_law_end 3:_law_barred 4:_law_spots 5:_law_step 6:_law_spot -/
abbrev N__law_is_course : List Str := ["_law_course", "_law_first", "_law_end", "_law_barred", "_law_spots", "_law_step", "_law_spot"]
theorem sc__law_is_course : FnScope N__law_is_course ["_law_course", "_law_first", "_law_end", "_law_barred"] (defScope s__law_is_course) := ⟨rfl, rfl, rfl, by decide +kernel, rfl, by decide +kernel, by decide +kernel⟩
theorem ok__law_is_course (T : Txt K mg) : DOk P w K mg base "_law_is_course" ["_law_course", "_law_first", "_law_end", "_law_barred"] 1 (sp__law_is_course K) := by
  refine T.d__law_is_course.ok sc__law_is_course sp4_len (fun f cdv A outer s H vs Q E hr h => ?_)
  refine ⟨_, (pss_cons (ps_set (i := 4) sc__law_is_course.nd rfl (Or.inl rfl) (pe_op op_cat (pe_lst (pa_cons (pv 1) pa_nil)) (pe_lc (own := [("_law_step", 5)]) (g := gName 5) (tt := tYes) (by rfl) sc__law_is_course.nd (piL K (pv 0)) (blkOk_by (N := N__law_is_course) (sc := defScope s__law_is_course) (own := [("_law_step", 5)]) (by decide +kernel)) (fun _ _ _ _ _ => (pg_name (i := 5) sc__law_is_course.nd rfl (Or.inl rfl))) (fun _ _ _ _ _ => pts_nil) (fun _ _ _ _ _ => (pe_ix (ixT K) (pv 5) pe_int (fun _ _ => rfl))))))
        (pss_cons (ps_if (PW.pt (pw_or (PW.pt (pw_and (pt_cmpR (op_neE hr) (pv 0) (pe_lst pa_nil) (nomark _)) (pw_and1 (pt_cmpR op_ne (pe_ix (ixT K) (pe_ix (ixL K) (pv 0) pe_int (fun _ _ => rfl)) pe_int (fun _ _ => rfl)) (pv 1) (nomark _))))) (pw_or (pt_cmpR op_ne (pe_ix (ixL K) (pv 4) (pe_un un_neg pe_int) (fun _ _ => rfl)) (pv 2) (nomark _)) (pw_or1 (pt_cmpR op_ne (pe_lenSetS rfl (by rfl) T.n_len (by rfl) T.n_set (pv 4)) (pe_callB (lenK K) (by rfl) T.n_len PySem.boot_len (pa_cons (pv 4) pa_nil)) (nomark _)))))) (pss_one (ps_ret pe_bl)) pss_nil)
        (pss_one (ps_ret (pe_not (pe_callB (cr_any rfl) (by rfl) T.n_any (by decide +kernel) (pa_cons (pe_lc (own := [("_law_spot", 6)]) (g := gName 6) (tt := tYes) (by rfl) sc__law_is_course.nd (piL K (pe_slice (slL K) (pv 4) (po_some pe_int) po_none)) (blkOk_by (N := N__law_is_course) (sc := defScope s__law_is_course) (own := [("_law_spot", 6)]) (by decide +kernel)) (fun _ _ _ _ _ => (pg_name (i := 6) sc__law_is_course.nd rfl (Or.inl rfl))) (fun _ _ _ _ _ => pts_nil) (fun _ _ _ _ _ => (pe_cmpR (opIn K) (pv 6) (pv 3) rfl))) pa_nil))))))), ?_⟩
  obtain ⟨_, _, _, _, rfl, ss, x, y, ba, bars, ⟨a, sv, rfl, ha, hs⟩, rfl, rfl, rfl, hba, hc, hn, hbar, hl, k⟩ := h
  refine ⟨_, rfl, smallE (by simp), fun p1 hp1 => ?_⟩
  have e1 : Ex H (upd H p1 (.lst [.str x])) := Ex.new hp1
  refine ⟨_, rfl, a, rfl, ⟨_, SqL.of (e1 _ _ ha)⟩, lc_fm (K := K) (ys := ss) (R := fun _ v (s : Str) => v = V.str s) (fun _ _ _ _ _ h => h) (p := fun _ => true) (f := fun s => s.e) (e1 _ _ ha) hs.length (by omega) ?_ ?_⟩
  · intro i x y H2 hx hy e2
    obtain ⟨ta, vr, vg, rfl, ht, _, _⟩ := (hs.two hx hy).mono (.of (e1.trans e2))
    exact LcTurn.yes fun A hA => ⟨rfl, _, rfl, ta, _, _, .str y.e, rfl, rfl, ht.sq, rfl, hA _ _ (Ex.refl _) rfl⟩
  intro p2 H2 zs hp2 e2 hz az
  rw [filt] at az
  have ez := az.eq_map (g := V.str)
  subst ez
  have e12 := e1.trans e2
  refine ⟨p1, p2, _, _, rfl, rfl, e2 _ _ upd_same, hz, smallE (by simp; omega), fun p3 hp3 => ?_⟩
  have e3 : Ex H2 (upd H2 p3 (.lst ([V.str x] ++ (ss.map (·.e)).map V.str))) := Ex.new hp3
  have hp : upd H2 p3 (.lst ([V.str x] ++ (ss.map (·.e)).map V.str)) p3 = some (.lst ((x :: ss.map (·.e)).map V.str)) := upd_same
  have e13 := e12.trans e3
  generalize upd H2 p3 (.lst ([V.str x] ++ (ss.map (·.e)).map V.str)) = H3 at *
  have hl' : ss.length + 1 ≤ 1000 := by omega
  have ha3 := e13 _ _ ha
  refine ⟨_, rfl, smallE (by simp), fun o ho => ⟨a, o, sv, rfl, rfl, SqL.of ((Ex.new ho) _ _ ha3), SqL.of upd_same, _, rfl, ?_⟩⟩
  have eo : Ex H3 (upd H3 o (.lst [])) := Ex.new ho
  have hp4 := eo _ _ hp
  have ha4 := eo _ _ ha3
  have e14 := e13.trans eo
  have hs4 := hs.tm tm_st (.of e14)
  have hba4 := e14 _ _ hba
  generalize upd H3 o (.lst []) = H4 at *
  have fin2 : (!decide (V.int ((x :: ss.map (·.e)).length : Nat) = V.int (((x :: ss.map (·.e)).map V.str).length : Nat))) = false := by simp
  have fin1 : (!decide (V.str y = V.str y)) = false := by simp
  by_cases hse : sv = []
  · rw [show (sv.isEmpty != true) = false by rw [hse]; rfl]
    refine iteF (iteF ?_)
    refine ⟨_, rfl, 1, rfl, p3, _, _, .str y, rfl, rfl, SqL.of hp4, atI_map_end (chain_last hc), _, rfl, rfl, _, rfl, ?_⟩
    rw [fin1]
    refine iteF ⟨_, rfl, p3, _, rfl, SqL.of hp4, hn, by simpa using hl', _, rfl, p3, _, rfl, .inl (SqL.of hp4), rfl, _, rfl, ?_⟩
    rw [fin2]
    refine iteF ?_
    refine ⟨_, rfl, _, rfl, p3, _, rfl, SqL.of hp4, fun p5 hp5 => ?_⟩
    have ec : cutV ((x :: ss.map (·.e)).map V.str) (some (1 : Int)) none = (ss.map (·.e)).map V.str := cut_from _ 1
    rw [ec]
    have e5 : Ex H4 (upd H4 p5 (.lst ((ss.map (·.e)).map V.str))) := Ex.new hp5
    refine ⟨p5, rfl, ⟨_, SqL.of upd_same⟩, lc_fm (K := K) (ys := ss) (R := fun _ v (b : Step Str) => v = V.bl false) (fun _ _ _ _ _ h => h) (p := fun _ => true) (f := id) upd_same (by simp) (by omega) ?_ ?_⟩
    · intro i xv u H6 hx hu e6
      rw [List.getElem?_map, List.getElem?_map, hu] at hx
      cases hx
      refine LcTurn.yes fun A hA => ⟨rfl, _, rfl, _, rfl, ba, _, rfl, .inl (SqL.of ((e5.trans e6) _ _ hba4)), rfl, by simp [List.all_map, flatV], hA _ _ (Ex.refl _) ?_⟩
      rw [inV_str, decide_eq_false (hbar u (List.mem_of_getElem? hu))]
      rfl
    intro p6 H6 zs hp6 e6 hz6 az6
    rw [filt_id] at az6
    have ez := az6.eq_map (g := fun _ => V.bl false)
    subst ez
    refine ⟨p6, ss.map fun _ => false, rfl, SqL.of (by rw [hz6, List.map_map]; rfl), false, by rw [show (ss.map fun _ => false).any id = false by simp], ?_⟩
    exact k _ (e14.trans (e5.trans e6))
  · rw [show (sv.isEmpty != true) = true by cases sv with
      | nil => exact absurd rfl hse
      | cons _ _ => rfl]
    obtain ⟨s0, l0, rfl⟩ : ∃ s l, ss = s :: l := by
      cases ss with
      | nil => exact absurd hs.nil_right hse
      | cons s l => exact ⟨s, l, rfl⟩
    obtain ⟨v0, sv0, rfl, rs0⟩ : ∃ v l, sv = v :: l ∧ StV K H4 v s0 := by
      cases hs4 with
      | cons r t => exact ⟨_, _, rfl, r⟩
    obtain ⟨ta, vr, vg, rfl, ht, _, _⟩ := rs0
    refine iteT ⟨_, rfl, a, _, _, .ref ta, rfl, rfl, SqL.of ha4, atI_nat (j := 0) rfl, ta, _, _, .str s0.b, rfl, rfl, ht.sq, rfl, _, rfl, rfl, _, rfl, ?_⟩
    rw [show (!decide (V.str s0.b = V.str x)) = false by rw [hc.1]; simp]
    refine iteF ?_
    generalize s0 :: l0 = ss at *
    refine ⟨_, rfl, 1, rfl, p3, _, _, .str y, rfl, rfl, SqL.of hp4, atI_map_end (chain_last hc), _, rfl, rfl, _, rfl, ?_⟩
    rw [fin1]
    refine iteF ⟨_, rfl, p3, _, rfl, SqL.of hp4, hn, by simpa using hl', _, rfl, p3, _, rfl, .inl (SqL.of hp4), rfl, _, rfl, ?_⟩
    rw [fin2]
    refine iteF ?_
    refine ⟨_, rfl, _, rfl, p3, _, rfl, SqL.of hp4, fun p5 hp5 => ?_⟩
    have ec : cutV ((x :: ss.map (·.e)).map V.str) (some (1 : Int)) none = (ss.map (·.e)).map V.str := cut_from _ 1
    rw [ec]
    have e5 : Ex H4 (upd H4 p5 (.lst ((ss.map (·.e)).map V.str))) := Ex.new hp5
    refine ⟨p5, rfl, ⟨_, SqL.of upd_same⟩, lc_fm (K := K) (ys := ss) (R := fun _ v (b : Step Str) => v = V.bl false) (fun _ _ _ _ _ h => h) (p := fun _ => true) (f := id) upd_same (by simp) (by omega) ?_ ?_⟩
    · intro i xv u H6 hx hu e6
      rw [List.getElem?_map, List.getElem?_map, hu] at hx
      cases hx
      refine LcTurn.yes fun A hA => ⟨rfl, _, rfl, _, rfl, ba, _, rfl, .inl (SqL.of ((e5.trans e6) _ _ hba4)), rfl, by simp [List.all_map, flatV], hA _ _ (Ex.refl _) ?_⟩
      rw [inV_str, decide_eq_false (hbar u (List.mem_of_getElem? hu))]
      rfl
    intro p6 H6 zs hp6 e6 hz6 az6
    rw [filt_id] at az6
    have ez := az6.eq_map (g := fun _ => V.bl false)
    subst ez
    refine ⟨p6, ss.map fun _ => false, rfl, SqL.of (by rw [hz6, List.map_map]; rfl), false, by rw [show (ss.map fun _ => false).any id = false by simp], ?_⟩
    exact k _ (e14.trans (e5.trans e6))
end
end GW
set_option Elab.async false
set_option linter.all false
set_option maxRecDepth 100000
set_option maxHeartbeats 4000000
/-! LK: shown -/
namespace GW
open PySem PySem.Spec PyProof.Rows L2 GM
/-- a list of steps, laid anew -/
def CouV (K : PySem.W.Frag) (D : Addr) (H : Hp) (v : V) (c : List (Step Str)) : Prop := ∃ q vs, v = V.ref q ∧ q ≠ D ∧ H q = some (.lst vs) ∧ All2 (StV K H) vs c
theorem CouV.step {K : PySem.W.Frag} {D : Addr} {H H' : Hp} {v : V} {c : List (Step Str)} (h : CouV K D H v c) (b : But D H H') (t : TX H H') : CouV K D H' v c := by
  obtain ⟨q, vs, h1, h2, h3, h4⟩ := h
  exact ⟨q, vs, h1, h2, b _ _ h2 h3, h4.tm tm_st t⟩
section
variable {P : Program} {w : World} {K : PySem.W.Frag} {mg : Str → Option Value} {base : Heap}
/-- a comprehension over a tuple of lists of pairs, each told as its steps -/
theorem lc_told {a : Addr} {xs : List V} {g : TG} {te : TE} {vs : List Nat} {σ : L2.St} {H1 : Hp} {ys : List (List (Step Str))} (hx : Tp K H1 a xs) (hl : xs.length = ys.length) (hz : ys.length ≤ 100)
    (hs : ∀ (i : Nat) (x : V) y H, xs[i]? = some x → ys[i]? = some y → Ex H1 H → ∀ A : V → Hp → Prop, (∀ q H4 ws, H q = none → Ex H H4 → H4 q = some (.lst ws) → All2 (StV K H4) ws y → A (.ref q) H4) → g x (wipe σ vs) H fun σ2 H2 => wipe σ2 vs = wipe σ vs ∧ te σ2 H2 A)
    {Qd : Addr → Hp → Prop} (k : ∀ D H' zs, H1 D = none → Ex H1 H' → H' D = some (.lst zs) → All2 (CouV K D H') zs ys → Qd D H') : ∀ D, H1 D = none →
    ∃ W : Nat → Nat → Hp → Prop, (∃ m, W 0 m (upd H1 D (.lst []))) ∧ ∀ i m H, W i m H →
      ((Itt K a).stop i H ∧ Qd D H) ∨ ((Itt K a).go i H ∧ ∃ Nx : Hp → Prop, (∀ H', Nx H' → ∃ m', m' < m ∧ W (i + 1) m' H') ∧ ∀ x H', (Itt K a).yld i H x H' → g x (wipe σ vs) H' fun σ2 H2 => wipe σ2 vs = wipe σ vs ∧ tYes σ2 H2 fun b H3 =>
        if b = true then te σ2 H3 fun y H4 => ∃ acc, H4 D = some (.lst acc) ∧ acc.length < sizeLine ∧ Nx (upd H4 D (.lst (acc ++ [y]))) else Nx H3) := by
  intro D hD
  refine lc_it (walk_tup (K := K) (a := a) (xs := xs)) (fun i H => Ex H1 H ∧ ∃ acc, H D = some (.lst acc) ∧ All2 (CouV K D H) acc (ys.take i)) ⟨Ex.new hD, [], upd_same, .nil⟩ (fun i H _ q => (hx.mono (.of q.1)).sq) ?_ ?_
  · rintro i x H H' hi ⟨e, acc, h1, h2⟩ ⟨rfl, hxi⟩
    have hlt : i < ys.length := by rw [← hl]; exact hi
    have hy : ys[i]? = some ys[i] := List.getElem?_eq_getElem hlt
    refine hs i x _ H' hxi hy e _ fun q H4 ws hq e4 hq4 r => ⟨acc, e4 _ _ h1, small ?_, (e.trans e4).upd_new hD, acc ++ [.ref q], upd_same, ?_⟩
    · rw [h2.length, List.length_take]; omega
    · have tx : TX H4 (upd H4 D (.lst (acc ++ [.ref q]))) := .wl (e4 _ _ h1)
      have bt : But D H4 (upd H4 D (.lst (acc ++ [.ref q]))) := .wr
      have qD : q ≠ D := (ne_of_none h1 hq).symm
      rw [take_snoc hy]
      exact (h2.mono fun u y r => (r.step (.of e4) (.of e4)).step bt tx).snoc ⟨q, ws, rfl, qD, bt _ _ qD hq4, r.tm tm_st tx⟩
  · rintro H ⟨e, acc, h1, h2⟩
    rw [hl, List.take_length] at h2
    exact k D H acc hD e h1 h2
/-! _law_shown: slots 0:_law_net 1:_law_begin 2:_law_end 3:_law_stream 4:_law_thing 5:_law_steps 6:_law_some 7:_law_ring 8:_law_course 9:_law_places 10:_law_part 11:_law_step -/
abbrev N__law_shown : List Str := ["_law_net", "_law_begin", "_law_end", "_law_stream", "_law_thing", "_law_steps", "_law_some", "_law_ring", "_law_course", "_law_places", "_law_part", "_law_step"]
theorem sc__law_shown : FnScope N__law_shown ["_law_net", "_law_begin", "_law_end", "_law_stream", "_law_thing"] (defScope s__law_shown) := ⟨rfl, rfl, rfl, by decide +kernel, rfl, by decide +kernel, by decide +kernel⟩
theorem ok__law_shown (T : Txt K mg) : DOk P w K mg base "_law_shown" ["_law_net", "_law_begin", "_law_end", "_law_stream", "_law_thing"] 4 (sp_shows_bettering K) := by
  have G__law_is_course := ok__law_is_course (P := P) (w := w) (base := base) T
  have G__law_above := ok__law_above (P := P) (w := w) (base := base) T
  have G__law_parts_on := ok__law_parts_on (P := P) (w := w) (base := base) T
  have G__law_told_steps := ok__law_told_steps (P := P) (w := w) (base := base) T
  have G__law_steps_of := ok__law_steps_of (P := P) (w := w) (base := base) T
  refine T.d__law_shown.ok sc__law_shown sp5_len (fun f cdv A outer s H vs Q E hr h => ?_)
  refine ⟨_, (pss_cons (ps_if (PW.pt (pw_or (pt_not (pt_val (pe_callB call_isi (by rfl) T.n_isinstance (by decide +kernel) (pa_cons (pv 4) (pa_cons (pe_bltn (v := .ty "tuple") (u := .type "tuple") (by rfl) T.n_tuple (by decide +kernel) rfl) pa_nil))))) (pw_or (pt_not (pt_cmpR (opIn K) (pe_callB (lenK K) (by rfl) T.n_len PySem.boot_len (pa_cons (pv 4) pa_nil)) (pe_tup (pa_cons pe_int (pa_cons pe_int pa_nil))) rfl)) (pw_or1 (pt_cmpR op_ne (pe_ix (ixT K) (pv 4) pe_int (fun _ _ => rfl)) (pe_ix (ixL K) (pe_lst (pa_cons pe_str (pa_cons pe_str pa_nil))) (pe_op op_sub (pe_callB (lenK K) (by rfl) T.n_len PySem.boot_len (pa_cons (pv 4) pa_nil)) pe_int) (fun _ _ => rfl)) (nomark _)))))) (pss_one (ps_ret pe_bl)) pss_nil)
        (pss_cons (ps_set (i := 5) sc__law_shown.nd rfl (Or.inr rfl) (pe_callD G__law_steps_of (hr.mono (by decide)) (pa_cons (pv 0) (pa_cons (pv 3) pa_nil))))
        (pss_cons (ps_setLc (i := 6) (own := [("_law_part", 10)]) (g := gName 10) (tt := tYes) (by rfl) sc__law_shown.nd rfl rfl (sw_true rfl rfl rfl (by decide +kernel)) (piT K (pe_slice (slT K) (pv 4) (po_some pe_int) po_none)) (blkOk_by (N := N__law_shown) (sc := defScope s__law_shown) (own := [("_law_part", 10)]) (by decide +kernel)) (fun _ _ _ _ _ => (pg_name (i := 10) sc__law_shown.nd rfl (Or.inl rfl))) (fun _ _ _ _ _ => pts_nil) (fun _ _ _ _ _ => (pe_callD G__law_told_steps (hr.mono (by decide)) (pa_cons (pv 5) (pa_cons (pv 10) pa_nil)))))
        (pss_cons (ps_if (pt_cmpR (op_noneInL hr) pe_non (pv 6) rfl) (pss_one (ps_ret pe_bl)) pss_nil)
        (pss_cons (ps_if (pt_cmpR op_eq (pe_callB (lenK K) (by rfl) T.n_len PySem.boot_len (pa_cons (pv 4) pa_nil)) pe_int (nomark _)) (pss_one (ps_ret (pe_callD G__law_is_course (hr.mono (by decide)) (pa_cons (pe_ix (ixL K) (pv 6) pe_int (fun _ _ => rfl)) (pa_cons (pv 1) (pa_cons (pv 2) (pa_cons (pe_lst pa_nil) pa_nil))))))) pss_nil)
        (pss_cons (ps_asg (pv 6) (pg_unl rfl (pgs_cons (pg_name (i := 7) sc__law_shown.nd rfl (Or.inl rfl)) (pgs_cons (pg_name (i := 8) sc__law_shown.nd rfl (Or.inl rfl)) pgs_nil))))
        (pss_cons (ps_setLc (i := 9) (own := [("_law_step", 11)]) (g := gName 11) (tt := tYes) (by rfl) sc__law_shown.nd rfl rfl (sw_true rfl rfl rfl (by decide +kernel)) (piL K (pv 7)) (blkOk_by (N := N__law_shown) (sc := defScope s__law_shown) (own := [("_law_step", 11)]) (by decide +kernel)) (fun _ _ _ _ _ => (pg_name (i := 11) sc__law_shown.nd rfl (Or.inl rfl))) (fun _ _ _ _ _ => pts_nil) (fun _ _ _ _ _ => (pe_ix (ixT K) (pv 11) pe_int (fun _ _ => rfl))))
        (pss_cons (ps_if (PW.pt (pw_or (pt_cmpR op_lt (pe_callB (lenK K) (by rfl) T.n_len PySem.boot_len (pa_cons (pv 7) pa_nil)) pe_int (nomark _)) (pw_or (pt_cmpR op_ne (pe_ix (ixT K) (pe_ix (ixL K) (pv 7) (pe_un un_neg pe_int) (fun _ _ => rfl)) pe_int (fun _ _ => rfl)) (pe_ix (ixL K) (pv 9) pe_int (fun _ _ => rfl)) (nomark _)) (pw_or1 (pt_cmpR op_ne (pe_lenSetS rfl (by rfl) T.n_len (by rfl) T.n_set (pv 9)) (pe_callB (lenK K) (by rfl) T.n_len PySem.boot_len (pa_cons (pv 9) pa_nil)) (nomark _)))))) (pss_one (ps_ret pe_bl)) pss_nil)
        (pss_cons (ps_if (pt_cmpR op_le (pe_callD G__law_above (hr.mono (by decide)) (pa_cons (pe_ix (ixT K) (pe_callD G__law_parts_on (hr.mono (by decide)) (pa_cons (pv 7) (pa_cons (pe_tup (pa_cons pe_int (pa_cons pe_int pa_nil))) pa_nil))) pe_int (fun _ _ => rfl)) (pa_cons (pe_tup (pa_cons pe_int (pa_cons pe_int pa_nil))) pa_nil))) pe_int (nomark _)) (pss_one (ps_ret pe_bl)) pss_nil)
        (pss_one (ps_ret (pe_callD G__law_is_course (hr.mono (by decide)) (pa_cons (pv 8) (pa_cons (pe_ix (ixL K) (pv 9) pe_int (fun _ _ => rfl)) (pa_cons (pv 2) (pa_cons (pe_slice (slL K) (pv 9) (po_some pe_int) po_none) pa_nil)))))))))))))))), ?_⟩
  obtain ⟨_, _, _, _, t, rfl, ps, ts, x, y, fl, B, z, G, hb, ho, k⟩ := h
  obtain ⟨hnet, rfl, rfl, hst, N, hx, hy, hxy, S, hB⟩ := id G
  have h10 := list_len_le N ho
  have O := laneOk (f := fl) N
  have O6 : ∀ s ∈ stepsOf ts fl, Sz 6 s.gain := O.sz
  have h48 := steps48 (f := fl) N
  have hkn : ((stepsOf ts fl).map fun s => (s.n, s.k)).Nodup := stepsTo_keys ts fl _
  cases z with
  | way c =>
    obtain ⟨a, p, vs, rfl, ht, hp, hvs⟩ := id hb
    have ho : WayOk _ _ _ c := ho
    have h10 : c.length ≤ 10 := h10
    refine ⟨_, rfl, _, _, _, _, true, rfl, .ty "tuple", .base (.tup ht), kit_ty (by decide +kernel), true, rfl, iteF ?_⟩
    refine ⟨_, rfl, a, _, rfl, .inr (SqT.of ht), smallE (by simp), fun q hq => ?_⟩
    have e1 : Ex H (upd H q (.tup [.int 2, .int 3])) := Ex.new hq
    refine ⟨q, _, rfl, .inr (SqT.of upd_same), rfl, rfl, true, rfl, iteF ?_⟩
    refine ⟨_, rfl, a, _, _, .str "way", rfl, rfl, SqT.of (e1 _ _ ht), rfl, smallE (by simp), fun o ho' => ?_⟩
    have e2 : Ex (upd H q (.tup [.int 2, .int 3])) (upd (upd H q (.tup [.int 2, .int 3])) o (.lst [.str "way", .str "ring"])) := Ex.new ho'
    have e12 := e1.trans e2
    refine ⟨_, rfl, a, _, rfl, .inr (SqT.of (e12 _ _ ht)), _, _, rfl, rfl, o, _, _, .str "way", rfl, rfl, SqL.of upd_same, atI_nat (j := 0) rfl, rfl, false, by simp, iteF ?_⟩
    refine ⟨_, rfl, _, rfl, _, _, rfl, ps, ts, fl, hnet.mono (.of e12), hst.ex tm_fr e12, steps_sz N S (by omega), fun sa H3 sv hsa0 e3 hsa hsv => ?_⟩
    have e13 := e12.trans e3
    refine ⟨_, rfl, _, rfl, a, _, rfl, SqT.of (e13 _ _ ht), (by show ¬ (HT.sIx 2 0 (some 1) = 0 ∧ HT.sIx 2 2 none = 2); decide), fun u hu => ?_⟩
    have e4 : Ex H3 (upd H3 u (.tup (cutV [.str "way", .ref p] (some 1) none))) := Ex.new hu
    have hut : Tp K (upd H3 u (.tup (cutV [.str "way", .ref p] (some 1) none))) u [.ref p] := .of upd_same
    have e14 := e13.trans e4
    refine ⟨u, rfl, ⟨_, hut.sq⟩, lc_told (ys := [c]) hut rfl (by simp) ?_ ?_⟩
    · intro i xv yc H5 hxi hyi e5 A hA
      have h0 : i = 0 := by
        have := (List.getElem?_eq_some_iff.mp hyi).1
        simpa using this
      subst h0
      simp at hxi hyi
      subst hxi hyi
      have e15 := e14.trans e5
      exact ⟨rfl, _, rfl, _, rfl, _, _, rfl, stepsOf ts fl, c, x, y, ⟨sa, sv, rfl, (e4.trans e5) _ _ hsa, hsv.tm tm_st (.of (e4.trans e5))⟩, by omega, hkn, ⟨p, vs, rfl, e15 _ _ hp, hvs.tm tm_pr (.of e15)⟩, ho.mem, ho.ch, by omega, fun q H6 ws hq e6 hq6 hws => hA q H6 ws hq e6 hq6 hws⟩
    intro D H5 zs hD e5 hDz az
    obtain ⟨v1, rfl, q1, ws, rfl, hq1D, hq1, hws⟩ : ∃ v, zs = [v] ∧ CouV K D H5 v c := by
      cases az with
      | cons r t => cases t; exact ⟨_, rfl, r⟩
    have e15 := e14.trans e5
    refine ⟨_, rfl, D, _, rfl, rfl, SqL.of hDz, fun z hz => ?_, false, rfl, iteF ?_⟩
    · rw [List.mem_singleton.mp hz]
      exact ⟨q1, _, rfl, SqL.of hq1⟩
    refine ⟨_, rfl, a, _, rfl, .inr (SqT.of (e15 _ _ ht)), rfl, true, rfl, iteT ?_⟩
    refine ⟨_, rfl, D, _, _, .ref q1, rfl, rfl, SqL.of hDz, atI_nat (j := 0) rfl, _, rfl, _, rfl, smallE (by simp), fun bo hbo => ?_⟩
    have eb : Ex H5 (upd H5 bo (.lst [])) := Ex.new hbo
    exact ⟨_, _, _, _, rfl, c, x, y, bo, [], ⟨q1, ws, rfl, eb _ _ hq1, hws.tm tm_st (.of eb)⟩, rfl, rfl, rfl, upd_same, ho.ch, ho.nd, by simp, by omega, fun H6 e6 => k _ (e15.trans (eb.trans e6))⟩
  | ring r c =>
    obtain ⟨a, p, p', vs, ws0, rfl, ht, hp, hvs, hp', hws0⟩ := id hb
    obtain ⟨z0, ho⟩ : ∃ z0, RingOk _ _ r c z0 := ho
    have h10 : (r ++ c).length ≤ 10 := h10
    rw [List.length_append] at h10
    refine ⟨_, rfl, _, _, _, _, true, rfl, .ty "tuple", .base (.tup ht), kit_ty (by decide +kernel), true, rfl, iteF ?_⟩
    refine ⟨_, rfl, a, _, rfl, .inr (SqT.of ht), smallE (by simp), fun q hq => ?_⟩
    have e1 : Ex H (upd H q (.tup [.int 2, .int 3])) := Ex.new hq
    refine ⟨q, _, rfl, .inr (SqT.of upd_same), rfl, rfl, true, rfl, iteF ?_⟩
    refine ⟨_, rfl, a, _, _, .str "ring", rfl, rfl, SqT.of (e1 _ _ ht), rfl, smallE (by simp), fun o ho' => ?_⟩
    have e2 : Ex (upd H q (.tup [.int 2, .int 3])) (upd (upd H q (.tup [.int 2, .int 3])) o (.lst [.str "way", .str "ring"])) := Ex.new ho'
    have e12 := e1.trans e2
    refine ⟨_, rfl, a, _, rfl, .inr (SqT.of (e12 _ _ ht)), _, _, rfl, rfl, o, _, _, .str "ring", rfl, rfl, SqL.of upd_same, atI_nat (j := 1) rfl, rfl, false, by simp, iteF ?_⟩
    refine ⟨_, rfl, _, rfl, _, _, rfl, ps, ts, fl, hnet.mono (.of e12), hst.ex tm_fr e12, steps_sz N S (by omega), fun sa H3 sv hsa0 e3 hsa hsv => ?_⟩
    have e13 := e12.trans e3
    refine ⟨_, rfl, _, rfl, a, _, rfl, SqT.of (e13 _ _ ht), (by show ¬ (HT.sIx 3 0 (some 1) = 0 ∧ HT.sIx 3 3 none = 3); decide), fun u hu => ?_⟩
    have e4 : Ex H3 (upd H3 u (.tup (cutV [.str "ring", .ref p, .ref p'] (some 1) none))) := Ex.new hu
    have hut : Tp K (upd H3 u (.tup (cutV [.str "ring", .ref p, .ref p'] (some 1) none))) u [.ref p, .ref p'] := .of upd_same
    have e14 := e13.trans e4
    refine ⟨u, rfl, ⟨_, hut.sq⟩, lc_told (ys := [r, c]) hut rfl (by simp) ?_ ?_⟩
    · intro i xv yc H5 hxi hyi e5 A hA
      have e15 := e14.trans e5
      have h2 : i = 0 ∨ i = 1 := by
        have := (List.getElem?_eq_some_iff.mp hyi).1
        simp at this
        omega
      rcases h2 with h0 | h0
      · subst h0
        simp at hxi hyi
        subst hxi hyi
        exact ⟨rfl, _, rfl, _, rfl, _, _, rfl, stepsOf ts fl, r, z0, z0, ⟨sa, sv, rfl, (e4.trans e5) _ _ hsa, hsv.tm tm_st (.of (e4.trans e5))⟩, by omega, hkn, ⟨p, vs, rfl, e15 _ _ hp, hvs.tm tm_pr (.of e15)⟩, ho.memr, ho.chr, by omega, fun q H6 ws hq e6 hq6 hws => hA q H6 ws hq e6 hq6 hws⟩
      · subst h0
        simp at hxi hyi
        subst hxi hyi
        exact ⟨rfl, _, rfl, _, rfl, _, _, rfl, stepsOf ts fl, c, z0, y, ⟨sa, sv, rfl, (e4.trans e5) _ _ hsa, hsv.tm tm_st (.of (e4.trans e5))⟩, by omega, hkn, ⟨p', ws0, rfl, e15 _ _ hp', hws0.tm tm_pr (.of e15)⟩, ho.memc, ho.chc, by omega, fun q H6 ws hq e6 hq6 hws => hA q H6 ws hq e6 hq6 hws⟩
    intro D H5 zs hD e5 hDz az
    obtain ⟨v1, v2, rfl, ⟨q1, rv, rfl, hq1D, hq1, hrv⟩, ⟨q2, cv, rfl, hq2D, hq2, hcv⟩⟩ : ∃ v1 v2, zs = [v1, v2] ∧ CouV K D H5 v1 r ∧ CouV K D H5 v2 c := by
      cases az with
      | cons r1 t =>
        cases t with
        | cons r2 t => cases t; exact ⟨_, _, rfl, r1, r2⟩
    have e15 := e14.trans e5
    have lrv : rv.length = r.length := hrv.length
    refine ⟨_, rfl, D, _, rfl, rfl, SqL.of hDz, fun z hz => ?_, false, rfl, iteF ?_⟩
    · rcases List.mem_cons.mp hz with e | hz
      · subst e; exact ⟨q1, _, rfl, SqL.of hq1⟩
      · rw [List.mem_singleton.mp hz]; exact ⟨q2, _, rfl, SqL.of hq2⟩
    refine ⟨_, rfl, a, _, rfl, .inr (SqT.of (e15 _ _ ht)), rfl, false, rfl, iteF ?_⟩
    refine ⟨_, rfl, D, _, rfl, SqL.of hDz, rfl, _, _, rfl, _, _, rfl, rfl, ?_⟩
    -- places
    refine ⟨_, rfl, q1, rfl, ⟨_, SqL.of hq1⟩, lc_fm (K := K) (ys := r) (R := fun _ v (s : Str) => v = V.str s) (fun _ _ _ _ _ h => h) (p := fun _ => true) (f := fun s => s.b) hq1 hrv.length (by omega) ?_ ?_⟩
    · intro i xv u H6 hx hu e6
      obtain ⟨ta, vr, vg, rfl, hta, _, _⟩ := (hrv.two hx hu).mono (.of e6)
      exact LcTurn.yes fun A hA => ⟨rfl, _, rfl, ta, _, _, .str u.b, rfl, rfl, hta.sq, rfl, hA _ _ (Ex.refl _) rfl⟩
    intro pl H6 zs6 hpl e6 hz6 az6
    rw [filt] at az6
    have ez := az6.eq_map (g := V.str)
    subst ez
    have e16 := e15.trans e6
    have hrv6 := hrv.tm tm_st (.of e6)
    have hcv6 := hcv.tm tm_st (.of e6)
    have hq16 := e6 _ _ hq1
    have hq26 := e6 _ _ hq2
    have h2r := ho.two
    obtain ⟨s0, l0, hr0⟩ : ∃ s l, r = s :: l := by
      cases r with
      | nil => simp at h2r
      | cons s l => exact ⟨s, l, rfl⟩
    obtain ⟨sl, hsl⟩ : ∃ s, r.getLast? = some s := ⟨_, by rw [List.getLast?_eq_getElem?]; exact List.getElem?_eq_getElem (by omega)⟩
    have hse : sl.e = s0.b := by
      have q := chain_last ho.chr
      have hzb : s0.b = z0 := by have := ho.chr; rw [hr0] at this; exact this.1
      rw [hzb]
      have : (z0 :: r.map (·.e)).getLast? = some sl.e := by
        rw [hr0]
        show (z0 :: s0.e :: l0.map (·.e)).getLast? = _
        rw [List.getLast?_cons_cons]
        show ((s0 :: l0).map (·.e)).getLast? = _
        rw [← hr0, List.getLast?_map, hsl]
        rfl
      rw [q] at this
      exact (Option.some.inj this).symm
    obtain ⟨vl, hvl, rvl⟩ : ∃ v, rv.getLast? = some v ∧ StV K H6 v sl := by
      rw [List.getLast?_eq_getElem?] at hsl
      obtain ⟨v, h3, h4⟩ := hrv6.get' hsl
      refine ⟨v, ?_, h4⟩
      rw [List.getLast?_eq_getElem?, lrv]
      exact h3
    obtain ⟨tl, vrl, vgl, rfl, htl, _, _⟩ := rvl
    have hb0 : atI ((r.map fun s => s.b).map V.str) (0 : Int) = some (.str s0.b) := by
      rw [hr0]
      exact atI_nat (j := 0) rfl
    refine ⟨_, rfl, q1, _, rfl, .inl (SqL.of hq16), _, _, rfl, rfl, _, rfl, ?_⟩
    rw [decide_eq_false (show ¬ ((rv.length : Int) < 2) by rw [lrv]; omega)]
    refine iteF ⟨_, rfl, 1, rfl, q1, _, _, .ref tl, rfl, rfl, SqL.of hq16, atI_end hvl, tl, _, _, .str sl.e, rfl, rfl, htl.sq, rfl, _, rfl, pl, _, _, .str s0.b, rfl, rfl, SqL.of hz6, hb0, rfl, _, rfl, ?_⟩
    rw [show (!decide (V.str sl.e = V.str s0.b)) = false by rw [hse]; simp]
    refine iteF ⟨_, rfl, pl, _, rfl, SqL.of hz6, ho.ndr, by simp; omega, _, rfl, pl, _, rfl, .inl (SqL.of hz6), rfl, _, rfl, ?_⟩
    rw [show (!decide (V.int ((r.map fun s => s.b).length : Nat) = V.int (((r.map fun s => s.b).map V.str).length : Nat))) = false by simp]
    refine iteF ?_
    -- the ring's gain
    have hgz : Sz (6 * r.length + 1) (gainOf r) := gainOf_sz fun s hs => O6 s (ho.memr s hs)
    refine ⟨_, rfl, smallE (by simp), fun o1 ho1 => ?_⟩
    have eo1 : Ex H6 (upd H6 o1 (.tup [.int 1, .int 1])) := Ex.new ho1
    have fo1 : FrV K (upd H6 o1 (.tup [.int 1, .int 1])) (.ref o1) 1 := fr_new 1 1 1 rfl rfl (Sz.one.mono (by decide))
    refine ⟨_, _, rfl, r, 1, ⟨q1, rv, rfl, eo1 _ _ hq16, hrv6.tm tm_st (.of eo1)⟩, fo1, by omega, fun q hq => ?_, fun tq qp vv H7 pv e7 htq hqp hpv hvv => ?_⟩
    · have h1 := parts_sz (fun s hs => O6 s (ho.memr s hs)) Sz.one q hq
      exact (h1.mul (O6 q.1 (ho.memr _ (mem_parts_step hq)))).mono (by omega)
    rw [Rat.one_mul] at hvv
    refine ⟨tq, _, _, vv, rfl, rfl, SqT.of htq, rfl, smallE (by simp), fun o2 ho2 => ?_⟩
    have eo2 : Ex H7 (upd H7 o2 (.tup [.int 1, .int 1])) := Ex.new ho2
    have fo2 : FrV K (upd H7 o2 (.tup [.int 1, .int 1])) (.ref o2) 1 := fr_new 1 1 1 rfl rfl (Sz.one.mono (by decide))
    refine ⟨_, _, rfl, gainOf r, 1, hvv.ex eo2, fo2, fun z z1 z2 => ⟨_, _, rfl, rfl, _, rfl, ?_⟩⟩
    rw [decide_eq_false (show ¬ z ≤ 0 by have := z1.mpr ho.gain; omega)]
    refine iteF ?_
    have e68 := eo1.trans (e7.trans eo2)
    have e18 := e16.trans e68
    refine ⟨_, rfl, _, rfl, pl, _, _, .str s0.b, rfl, rfl, SqL.of (e68 _ _ hz6), hb0, _, rfl, _, rfl, _, rfl, pl, _, rfl, SqL.of (e68 _ _ hz6), fun bo hbo => ?_⟩
    have ec : cutV ((r.map fun s => s.b).map V.str) (some (1 : Int)) none = ((r.map fun s => s.b).drop 1).map V.str := by
      rw [List.map_drop]
      exact cut_from _ 1
    rw [ec]
    have eb : Ex (upd H7 o2 (.tup [.int 1, .int 1])) (upd (upd H7 o2 (.tup [.int 1, .int 1])) bo (.lst (((r.map fun s => s.b).drop 1).map V.str))) := Ex.new hbo
    have e6b := e68.trans eb
    have hz0b : s0.b = z0 := by have := ho.chr; rw [hr0] at this; exact this.1
    exact ⟨_, _, _, _, rfl, c, s0.b, y, bo, (r.map fun s => s.b).drop 1, ⟨q2, cv, rfl, e6b _ _ hq26, hcv6.tm tm_st (.of e6b)⟩, rfl, rfl, rfl, upd_same, by rw [hz0b]; exact ho.chc, by rw [hz0b]; exact ho.ndc, fun s hs hm => ho.off s hs (List.mem_of_mem_drop hm), by omega, fun H9 e9 => k _ (e16.trans (e6b.trans e9))⟩
end
end GW
set_option Elab.async false
set_option linter.all false
set_option maxRecDepth 100000
set_option maxHeartbeats 4000000
/-! LM: worths_of, none_more of the law -/
namespace GW
open PySem PySem.Spec PyProof.Rows L2 GM
/-- what is known, as a dictionary from places to fractions -/
def WtV (K : PySem.W.Frag) (H : Hp) (d : Addr) (W : Str → Option Rat) (n : Nat) : Prop := ∃ f, DicV H d f n ∧ ∀ x, (W x = none → f x = none) ∧ ∀ w, W x = some w → ∃ v, f x = some v ∧ FrV K H v w
theorem WtV.ex {K : PySem.W.Frag} {H H' : Hp} {d : Addr} {W : Str → Option Rat} {n : Nat} (h : WtV K H d W n) (e : Ex H H') : WtV K H' d W n := by
  obtain ⟨f, fd, fw⟩ := h
  exact ⟨f, fd.ex e, fun x => ⟨(fw x).1, fun w hw => by
    obtain ⟨v, h1, h2⟩ := (fw x).2 w hw
    exact ⟨v, h1, h2.ex e⟩⟩⟩
theorem WtV.put {K : PySem.W.Frag} {H : Hp} {d : Addr} {W : Str → Option Rat} {n : Nat} {vo : V} {q : Rat} (h : WtV K H d W n) (b : Str) (hf : FrV K H vo q) (hn : n ≤ 100000) :
    ∃ H', DPut H d (.str b) vo H' ∧ WtV K H' d (up W b (some q)) (n + 1) ∧ (∃ o, H' = upd H d o) ∧ TX H H' := by
  obtain ⟨f, fd, fw⟩ := h
  obtain ⟨H', h1, h2, h3, h4⟩ := fd.put hn b vo
  refine ⟨H', h1, ⟨_, h2, fun x => ?_⟩, h3, h4⟩
  by_cases c : x = b
  · subst c
    rw [up_same, if_pos rfl]
    exact ⟨(fun z => nomatch z), fun w hw => ⟨vo, rfl, by cases hw; exact hf.mono h4⟩⟩
  · rw [up_ne _ _ c, if_neg c]
    exact ⟨(fw x).1, fun w hw => by
      obtain ⟨v, h5, h6⟩ := (fw x).2 w hw
      exact ⟨v, h5, h6.mono h4⟩⟩
theorem WtV.at {K : PySem.W.Frag} {H : Hp} {d : Addr} {W : Str → Option Rat} {n : Nat} (h : WtV K H d W n) : ∃ kvs, H d = some (.dK kvs) := by
  obtain ⟨f, fd, fw⟩ := h
  exact fd.at
section
variable {P : Program} {w : World} {K : PySem.W.Frag} {mg : Str → Option Value} {base : Heap}
def sp__law_worths_of (K : PySem.W.Frag) : Sp := sp3 fun a b c H Q => ∃ (ps : List Str) (ts : List (Tie Str)) (f : List Rat) (x y : Str) (B : Nat) (R : Str → Prop) (h : Str → Rat), NetV K H a ps ts ∧ LsV (FrV K) H b f ∧ c = .str y ∧ NetOk ps ts ∧ StreamOk ts ps x y B f ∧ B ≤ 3600 ∧ Stuck ts f x y R h ∧
  ∀ d H' W n, H d = none → Ex H H' → WtV K H' d W n → Kn (stepsOf ts f) y W → (∀ s ∈ stepsOf ts f, ∀ w, W s.e = some w → ∃ v, W s.b = some v ∧ s.gain * w ≤ v) → Q (.ref d) H'
/-! _law_worths_of: slots 0:_law_net 1:_law_stream 2:_law_end 3:_law_steps 4:_law_known 5:_law_turn 6:_law_grown 7:_law_step 8:_law_one -/
abbrev N__law_worths_of : List Str := ["_law_net", "_law_stream", "_law_end", "_law_steps", "_law_known", "_law_turn", "_law_grown", "_law_step", "_law_one"]
theorem sc__law_worths_of : FnScope N__law_worths_of ["_law_net", "_law_stream", "_law_end"] (defScope s__law_worths_of) := ⟨rfl, rfl, rfl, by decide +kernel, rfl, by decide +kernel, by decide +kernel⟩
theorem ok__law_worths_of (T : Txt K mg) : DOk P w K mg base "_law_worths_of" ["_law_net", "_law_stream", "_law_end"] 4 (sp__law_worths_of K) := by
  have G__law_above := ok__law_above (P := P) (w := w) (base := base) T
  have G__law_product := ok__law_product (P := P) (w := w) (base := base) T
  have G__law_steps_of := ok__law_steps_of (P := P) (w := w) (base := base) T
  refine T.d__law_worths_of.ok sc__law_worths_of sp3_len (fun f cdv A outer s H vs Q E hr h => ?_)
  refine ⟨_, (pss_cons (ps_par (i := 3) (j := 4) (by rfl) sc__law_worths_of.nd rfl rfl (by decide) rfl rfl (pa_cons (pe_callD G__law_steps_of (hr.mono (by decide)) (pa_cons (pv 0) (pa_cons (pv 1) pa_nil))) (pa_cons (pe_disp (pps_cons (pv 2) (pe_tup (pa_cons pe_int (pa_cons pe_int pa_nil))) pps_nil) (by rfl) (by rfl) (fun z => by cases z) (by decide)) pa_nil)) (by rfl))
        (pss_cons (ps_for PassesOwn.never rfl (pi_range1 (by rfl) T.n_range (pa_cons (pe_op op_add (pe_callB (lenK K) (by rfl) T.n_len PySem.boot_len (pa_cons (pe_ix (ixT K) (pv 0) pe_int (fun _ _ => rfl)) pa_nil)) pe_int) pa_nil)) (pg_name (i := 5) sc__law_worths_of.nd rfl (Or.inl rfl)) (pss_cons (ps_set (i := 6) sc__law_worths_of.nd rfl (Or.inl rfl) pe_bl)
        (pss_one (ps_for PassesOwn.never rfl (piL K (pv 3)) (pg_name (i := 7) sc__law_worths_of.nd rfl (Or.inl rfl)) (pss_one (ps_if (pt_cmp (pc_din (hu_of hr) (pe_ix (ixT K) (pv 7) pe_int (fun _ _ => rfl)) (pv 4))) (pss_cons (ps_set (i := 8) sc__law_worths_of.nd rfl (Or.inl rfl) (pe_callD G__law_product (hr.mono (by decide)) (pa_cons (pe_ix (ixT K) (pv 7) pe_int (fun _ _ => rfl)) (pa_cons (pe_dget (hu_of hr) (pv 4) (pe_ix (ixT K) (pv 7) pe_int (fun _ _ => rfl)) (fun _ _ => rfl)) pa_nil))))
        (pss_one (ps_if (PW.pt (pw_or (pt_cmp (pc_dnotin (hu_of hr) (pe_ix (ixT K) (pv 7) pe_int (fun _ _ => rfl)) (pv 4))) (pw_or1 (pt_cmpR op_gt (pe_callD G__law_above (hr.mono (by decide)) (pa_cons (pv 8) (pa_cons (pe_dget (hu_of hr) (pv 4) (pe_ix (ixT K) (pv 7) pe_int (fun _ _ => rfl)) (fun _ _ => rfl)) pa_nil))) pe_int (nomark _))))) (pss_one (ps_asg (pe_tup (pa_cons (pv 8) (pa_cons pe_bl pa_nil))) (pgT K 2 rfl (pgs_cons (pg_sub (pv 4) (pe_ix (ixT K) (pv 7) pe_int (fun _ _ => rfl)) (set_dict (hu_of hr))) (pgs_cons (pg_name (i := 6) sc__law_worths_of.nd rfl (Or.inl rfl)) pgs_nil))))) pss_nil))) pss_nil))))))
        (pss_one (ps_ret (pe_ifExp (pt_val (pv 6)) pe_non (pv 4)))))), ?_⟩
  obtain ⟨_, fv, _, rfl, ps, ts, fl, bb, be, B, R, hh, hnet, hst, rfl, N, S, hB, Sk, k⟩ := h
  have O := laneOk (f := fl) N
  have O6 : ∀ s ∈ stepsOf ts fl, Sz 6 s.gain := O.sz
  have h48 := steps48 (f := fl) N
  have cm : Calm (stepsOf ts fl) be := Sk.calm fun s hs => O.pos s (mem_stepsOf.mpr hs)
  obtain ⟨na, nb, nc, tv, rfl, h1, h2, h3, h4⟩ := id hnet
  refine ⟨_, rfl, _, rfl, _, _, rfl, ps, ts, fl, hnet, hst, steps_sz N S (by omega), fun sa H1 sv hsa0 e1 hsa hsv => ?_⟩
  refine fun p hp => ⟨_, rfl, smallE (by simp), fun q hq => ?_⟩
  have hpq : p ≠ q := ne_of_none (upd_same (H := H1)) hq
  refine ⟨by rw [L2.upd_ne hpq]; exact upd_same, [(Sum.inr be, .ref q)], rfl, by simp, ?_⟩
  have e12 : Ex H1 (upd (upd (upd H1 p (.dK [])) q (.tup [.int 1, .int 1])) p (.dK (mergeK [] [(Sum.inr be, V.ref q)]))) := ((Ex.new hp).trans (Ex.new hq)).upd_new hp
  have fq : FrV K (upd (upd (upd H1 p (.dK [])) q (.tup [.int 1, .int 1])) p (.dK (mergeK [] [(Sum.inr be, V.ref q)]))) (.ref q) 1 := by
    have : FrV K (upd (upd H1 p (.dK [])) q (.tup [.int 1, .int 1])) (.ref q) 1 := fr_new 1 1 1 rfl rfl (Sz.one.mono (by decide))
    exact this.mono (.wd (by rw [L2.upd_ne hpq]; exact upd_same))
  have dq : WtV K (upd (upd (upd H1 p (.dK [])) q (.tup [.int 1, .int 1])) p (.dK (mergeK [] [(Sum.inr be, V.ref q)]))) p (fun x => if x = be then some 1 else none) 1 := by
    refine ⟨fun x => if x = be then some (.ref q) else none, ⟨_, upd_same, by simp [mergeK, putK], fun x => ?_⟩, fun x => ?_⟩
    · by_cases c : x = be
      · subst c
        simp [mergeK, putK, valV]
      · simp [mergeK, putK, valV, c]
        exact fun q => absurd q.symm c
    · by_cases c : x = be
      · dsimp only
        rw [if_pos c, if_pos c]
        exact ⟨(fun z => nomatch z), fun w hw => ⟨_, rfl, by cases hw; exact fq⟩⟩
      · dsimp only
        rw [if_neg c, if_neg c]
        exact ⟨fun _ => rfl, fun w hw => nomatch hw⟩
  generalize upd (upd (upd H1 p (.dK [])) q (.tup [.int 1, .int 1])) p (.dK (mergeK [] [(Sum.inr be, V.ref q)])) = H2 at *
  have hsa2 := e12 _ _ hsa
  have hsv2 := hsv.tm tm_st (.of e12)
  have lsv : sv.length = (stepsOf ts fl).length := hsv.length
  have e02 := e1.trans e12
  have e02p : Ex H H2 := e02
  have pH : H p = none := e1.back hp
  have n48 : (stepsOf ts fl).length ≤ 48 := h48
  have n10 := N.p10
  refine ⟨_, _, rfl, ?_⟩
  refine ⟨_, rfl, na, _, _, .ref nb, rfl, rfl, (h1.mono (.of e02)).sq, rfl, nb, _, rfl, .inr (h2.mono (.of e02)).sq, _, _, rfl, rfl, ((ps.length + 1 : Nat) : Int), ?_, by omega, by omega, ?_⟩
  · rw [List.length_map]; rfl
  rw [Int.toNat_natCast]
  refine for_it (walk_range (lo := 0)) (fun i σ H' => ∃ (x5 x6 x7 x8 : Option V) (W : Str → Option Rat), σ = [some (.ref na), some fv, some (.str be), some (.ref sa), some (.ref p), x5, x6, x7, x8] ∧ Ex H H' ∧ H' sa = some (.lst sv) ∧ All2 (StV K H') sv (stepsOf ts fl) ∧ WtV K H' p W (1 + 48 * i) ∧ Kn (stepsOf ts fl) be W ∧ Lower (stepsOf ts fl) be i W ∧ (ps.length + 1 ≤ i → x6 = some (.bl false)))
    ⟨none, none, none, none, _, rfl, e02p, hsa2, hsv2, dq, Kn.start _ _, Lower.start (if_pos rfl), fun q => by omega⟩ (fun _ _ _ _ _ => trivial) ?_ ?_
  · rintro i y σ H3 _ hi ⟨x5, x6, x7, x8, W, rfl, e3, s3, a3, d3, k3, l3, g3⟩ ⟨rfl, rfl⟩
    refine ⟨_, rfl, sa, rfl, ⟨_, SqL.of s3⟩, for_it walk_list (fun j σ H' => ∃ (g : Bool) (x7 x8 : Option V) (W : Str → Option Rat), σ = [some (.ref na), some fv, some (.str be), some (.ref sa), some (.ref p), some (.int (0 + (i : Nat))), some (.bl g), x7, x8] ∧ Ex H H' ∧ H' sa = some (.lst sv) ∧ All2 (StV K H') sv (stepsOf ts fl) ∧ WtV K H' p W (1 + 48 * i + j) ∧ Kn (stepsOf ts fl) be W ∧ Low (stepsOf ts fl) be i j W ∧ (ps.length ≤ i → g = false))
      ⟨false, _, _, W, rfl, e3, s3, a3, d3, k3, ⟨l3, fun q s hq => by omega⟩, fun _ => rfl⟩ (fun j σ H' _ ⟨_, _, _, _, _, _, s4, _⟩ => SqL.of s4) ?_ ?_⟩
    · rintro j y σ _ H4 hj ⟨g, x7, x8, W, rfl, e4, s4, a4, d4, k4, l4, g4⟩ ⟨rfl, hy⟩
      obtain ⟨s0, hs0, rs0⟩ := a4.get hy
      obtain ⟨ta, vr, vg, rfl, ht, hvr, hvg⟩ := id rs0
      have hsL := List.mem_of_getElem? hs0
      obtain ⟨f, fd, fw⟩ := id d4
      have eS : (s0.gain : Rat) = s0.gain := rfl
      refine ⟨_, rfl, ta, _, _, .str s0.e, rfl, rfl, ht.sq, rfl, _, rfl, p, _, rfl, fd.get s0.e, _, rfl, ?_⟩
      cases hWe : W s0.e with
      | none =>
        rw [(fw s0.e).1 hWe]
        refine iteF ⟨_, _, _, W, rfl, e4, s4, a4, ⟨f, fd.le (by omega), fw⟩, k4, l4.step (Le.refl W) hs0 (O.pos s0 hsL) (fun w hw => by rw [hWe] at hw; cases hw), g4⟩
      | some we =>
        obtain ⟨ve, hve, fre⟩ := (fw s0.e).2 we hWe
        have hz := k4.sz O6 O.pos O.e n10 hWe
        have sz : Sz 4000 (s0.gain * we) := ((O6 s0 hsL).mul hz.2).mono (by omega)
        have dg : DGet H4 p (.str s0.e) (some ve) := hve ▸ fd.get s0.e
        rw [hve]
        refine iteT ⟨_, rfl, ta, _, _, vg, rfl, rfl, ht.sq, rfl, _, rfl, _, rfl, ta, _, _, .str s0.e, rfl, rfl, ht.sq, rfl, p, ve, rfl, dg, _, _, rfl, s0.gain, we, hvg, fre, trivial, sz, fun vo H5 e5 fo => ?_⟩
        have fd5 := fd.ex e5
        have e15 := e4.trans e5
        have hs5 := e5 _ _ s4
        have ha5 := a4.tm tm_st (.of e5)
        refine ⟨_, rfl, ta, _, _, .str s0.b, rfl, rfl, (ht.mono (.of e5)).sq, rfl, _, rfl, p, _, rfl, fd5.get s0.b, _, rfl, ?_⟩
        have d5 : WtV K H5 p W (1 + 48 * i + j) := d4.ex e5
        -- how it goes on, where it grows
        have go : ∀ u, H5 u = none → (∀ v, W s0.b = some v → v < s0.gain * we) → ∃ H7, DPut (upd H5 u (.tup [vo, .bl true])) p (.str s0.b) vo H7 ∧ Ex H H7 ∧ H7 sa = some (.lst sv) ∧ All2 (StV K H7) sv (stepsOf ts fl) ∧ WtV K H7 p (up W s0.b (some (s0.gain * we))) (1 + 48 * i + (j + 1)) ∧
            Kn (stepsOf ts fl) be (up W s0.b (some (s0.gain * we))) ∧ Low (stepsOf ts fl) be i (j + 1) (up W s0.b (some (s0.gain * we))) ∧ (ps.length ≤ i → False) := fun u hu hg => by
          have eu : Ex H5 (upd H5 u (.tup [vo, .bl true])) := Ex.new hu
          obtain ⟨H7, p7, d7, ⟨o7, rfl⟩, tx7⟩ := (d5.ex eu).put s0.b (fo.ex eu) (by omega)
          obtain ⟨kvs, hk⟩ := (d5.ex eu).at
          have nsp : sa ≠ p := ne_of (eu _ _ hs5) hk (by intro z; cases z)
          refine ⟨_, p7, (e15.trans eu).upd_new pH, by rw [L2.upd_ne nsp]; exact eu _ _ hs5, ha5.tm tm_st ((TX.of eu).trans tx7), d7, k4.grow cm O.pos hsL hWe hg, l4.step (le_up hg) hs0 (O.pos s0 hsL) fun w hw => ?_, fun q => ?_⟩
          · rw [hWe] at hw
            cases hw
            exact ⟨_, up_same _ _ _, Rat.le_refl⟩
          · obtain ⟨v, h1, h2⟩ := k4.still cm O.pos (fun s hs => ⟨O.b s hs, O.e s hs⟩) l4.1 (by omega) hsL hWe
            exact absurd (hg v h1) (Rat.not_lt.mpr h2)
        cases hWb : W s0.b with
        | none =>
          rw [(fw s0.b).1 hWb]
          refine iteT ⟨_, rfl, smallE (by simp), fun u hu => ?_⟩
          obtain ⟨H7, p7, e7, s7, a7, d7, k7, l7, g7⟩ := go u hu fun v hv => by rw [hWb] at hv; cases hv
          have htu : SqT K (upd H5 u (.tup [vo, .bl true])) ta _ := (ht.mono (.of (e5.trans (Ex.new hu)))).sq
          refine ⟨u, _, rfl, SqT.of upd_same, rfl, _, _, rfl, _, rfl, _, rfl, ta, _, _, .str s0.b, rfl, rfl, htu, rfl, p, H7, rfl, p7, _, _, rfl, rfl, ?_⟩
          exact ⟨true, _, _, _, rfl, e7, s7, a7, d7, k7, l7, fun q => (g7 q).elim⟩
        | some wb =>
          obtain ⟨vb, hvb, frb⟩ := (fw s0.b).2 wb hWb
          have db : DGet H5 p (.str s0.b) (some vb) := hvb ▸ fd5.get s0.b
          rw [hvb]
          refine iteF ⟨_, rfl, _, rfl, _, rfl, ta, _, _, .str s0.b, rfl, rfl, (ht.mono (.of e5)).sq, rfl, p, vb, rfl, db, ?_⟩
          refine ⟨_, _, rfl, s0.gain * we, wb, fo, frb.ex e5, fun z z1 z2 => ⟨_, _, rfl, rfl, _, rfl, ite2 (fun hz => ?_) (fun hz => ?_)⟩⟩
          · have hgt : wb < s0.gain * we := z1.mp (of_decide_eq_true hz)
            refine ⟨_, rfl, smallE (by simp), fun u hu => ?_⟩
            obtain ⟨H7, p7, e7, s7, a7, d7, k7, l7, g7⟩ := go u hu fun v hv => by rw [hWb] at hv; cases hv; exact hgt
            have htu : SqT K (upd H5 u (.tup [vo, .bl true])) ta _ := (ht.mono (.of (e5.trans (Ex.new hu)))).sq
            refine ⟨u, _, rfl, SqT.of upd_same, rfl, _, _, rfl, _, rfl, _, rfl, ta, _, _, .str s0.b, rfl, rfl, htu, rfl, p, H7, rfl, p7, _, _, rfl, rfl, ?_⟩
            exact ⟨true, _, _, _, rfl, e7, s7, a7, d7, k7, l7, fun q => (g7 q).elim⟩
          · have hle : s0.gain * we ≤ wb := Rat.not_lt.mp fun q => hz (decide_eq_true (z1.mpr q))
            exact ⟨g, _, _, W, rfl, e15, hs5, ha5, let ⟨f, fd, fw⟩ := d5; ⟨f, fd.le (by omega), fw⟩, k4, l4.step (Le.refl W) hs0 (O.pos s0 hsL) (fun w hw => by rw [hWe] at hw; cases hw; exact ⟨wb, hWb, hle⟩), g4⟩
    · rintro σ H4 ⟨g, x7, x8, W, rfl, e4, s4, a4, d4, k4, l4, g4⟩
      rw [lsv] at l4 d4
      refine ⟨_, _, _, _, W, rfl, e4, s4, a4, ?_, k4, l4.round, fun q => by rw [g4 (by omega)]⟩
      obtain ⟨f, fd, fw⟩ := d4
      exact ⟨f, fd.le (by omega), fw⟩
  · rintro σ H4 ⟨x5, x6, x7, x8, W, rfl, e4, s4, a4, d4, k4, l4, g4⟩
    rw [g4 (by omega)]
    refine ⟨_, rfl, _, rfl, iteF ⟨_, rfl, k p H4 W _ pH e4 d4 k4 fun s hs w hw => k4.still cm O.pos (fun s hs => ⟨O.b s hs, O.e s hs⟩) l4 (by omega) hs hw⟩⟩
theorem WtV.getD {K : PySem.W.Frag} {H H' : Hp} {d u : Addr} {W : Str → Option Rat} {n : Nat} (h : WtV K H d W n) (x : Str) (e : Ex H H') (fu : FrV K H' (.ref u) 0) : ∃ o, DGet H' d (.str x) o ∧ FrV K H' (o.getD (.ref u)) ((W x).getD 0) := by
  obtain ⟨f, fd, fw⟩ := h
  refine ⟨f x, (fd.ex e).get x, ?_⟩
  cases hx : W x with
  | none => rw [(fw x).1 hx]; exact fu
  | some w =>
    obtain ⟨v, h1, h2⟩ := (fw x).2 w hx
    rw [h1]
    exact h2.ex e
def sp__law_none_more (K : PySem.W.Frag) : Sp := sp4 fun a b c d H Q => ∃ (ps : List Str) (ts : List (Tie Str)) (f : List Rat) (x y : Str) (B : Nat) (R : Str → Prop) (h : Str → Rat), NetV K H a ps ts ∧ LsV (FrV K) H b f ∧ c = .str x ∧ d = .str y ∧ NetOk ps ts ∧ y ∈ ps ∧ StreamOk ts ps x y B f ∧ B ≤ 3600 ∧ Stuck ts f x y R h ∧ ∀ H', Ex H H' → Q (.bl true) H'
/-! _law_none_more: slots 0:_law_net 1:_law_stream 2:_law_begin 3:_law_end 4:_law_known 5:_law_total 6:_law_goes 7:_law_one 8:_law_other 9:_law_top 10:_law_gain 11:_law_price 12:_law_more -/
abbrev N__law_none_more : List Str := ["_law_net", "_law_stream", "_law_begin", "_law_end", "_law_known", "_law_total", "_law_goes", "_law_one", "_law_other", "_law_top", "_law_gain", "_law_price", "_law_more"]
theorem sc__law_none_more : FnScope N__law_none_more ["_law_net", "_law_stream", "_law_begin", "_law_end"] (defScope s__law_none_more) := ⟨rfl, rfl, rfl, by decide +kernel, rfl, by decide +kernel, by decide +kernel⟩
theorem ok__law_none_more (T : Txt K mg) : DOk P w K mg base "_law_none_more" ["_law_net", "_law_stream", "_law_begin", "_law_end"] 5 (sp__law_none_more K) := by
  have G__law_left_at := ok__law_left_at (P := P) (w := w) (base := base) T
  have G__law_sum := ok__law_sum (P := P) (w := w) (base := base) T
  have G__law_product := ok__law_product (P := P) (w := w) (base := base) T
  have G__law_minus := ok__law_minus (P := P) (w := w) (base := base) T
  have G__law_worths_of := ok__law_worths_of (P := P) (w := w) (base := base) T
  refine T.d__law_none_more.ok sc__law_none_more sp4_len (fun f cdv A outer s H vs Q E hr h => ?_)
  refine ⟨_, (pss_cons (ps_set (i := 4) sc__law_none_more.nd rfl (Or.inl rfl) (pe_callD G__law_worths_of (hr.mono (by decide)) (pa_cons (pv 0) (pa_cons (pv 1) (pa_cons (pv 3) pa_nil)))))
        (pss_cons (ps_if (PW.pt (pw_or (pt_cmpR op_isN (pv 4) pe_non (nomark _)) (pw_or1 (pt_cmp (pc_din (hu_of hr) (pv 2) (pv 4)))))) (pss_one (ps_ret pe_bl)) pss_nil)
        (pss_cons (ps_set (i := 5) sc__law_none_more.nd rfl (Or.inl rfl) (pe_tup (pa_cons pe_int (pa_cons pe_int pa_nil))))
        (pss_cons (ps_for PassesOwn.never rfl (pi_zipLT (by rfl) T.n_zip (pa_cons (pv 1) (pa_cons (pe_ix (ixT K) (pv 0) pe_int (fun _ _ => rfl)) pa_nil))) (pgT K 2 rfl (pgs_cons (pg_name (i := 6) sc__law_none_more.nd rfl (Or.inl rfl)) (pgs_cons (pgT K 5 rfl (pgs_cons (pg_name (i := 7) sc__law_none_more.nd rfl (Or.inl rfl)) (pgs_cons (pg_name (i := 8) sc__law_none_more.nd rfl (Or.inl rfl)) (pgs_cons (pg_name (i := 9) sc__law_none_more.nd rfl (Or.inl rfl)) (pgs_cons (pg_name (i := 10) sc__law_none_more.nd rfl (Or.inl rfl)) (pgs_cons (pg_name (i := 11) sc__law_none_more.nd rfl (Or.inl rfl)) pgs_nil)))))) pgs_nil))) (pss_cons (ps_set (i := 12) sc__law_none_more.nd rfl (Or.inl rfl) (pe_callD G__law_minus (hr.mono (by decide)) (pa_cons (pe_callD G__law_product (hr.mono (by decide)) (pa_cons (pv 10) (pa_cons (pe_dget2 (hu_of hr) (pv 4) (pv 8) (pe_tup (pa_cons pe_int (pa_cons pe_int pa_nil))) ⟨rfl, rfl, rfl, rfl⟩) pa_nil))) (pa_cons (pe_dget2 (hu_of hr) (pv 4) (pv 7) (pe_tup (pa_cons pe_int (pa_cons pe_int pa_nil))) ⟨rfl, rfl, rfl, rfl⟩) pa_nil))))
        (Evl.pss_cut (ps_if (pt_cmpR op_gt (pe_ix (ixT K) (pv 12) pe_int (fun _ _ => rfl)) pe_int (nomark _)) (pss_one (ps_set (i := 5) sc__law_none_more.nd rfl (Or.inl rfl) (pe_callD G__law_sum (hr.mono (by decide)) (pa_cons (pv 5) (pa_cons (pe_callD G__law_product (hr.mono (by decide)) (pa_cons (pv 9) (pa_cons (pv 12) pa_nil))) pa_nil))))) pss_nil)
        (pss_one (ps_if (PW.pt (pw_or (PW.pt (pw_and (pt_cmpR op_gt (pe_ix (ixT K) (pv 12) pe_int (fun _ _ => rfl)) pe_int (nomark _)) (pw_and1 (pt_cmpR (opNeD K hr.units) (pv 6) (pv 9) (nomark _))))) (pw_or1 (PW.pt (pw_and (pt_cmpR op_lt (pe_ix (ixT K) (pv 12) pe_int (fun _ _ => rfl)) pe_int (nomark _)) (pw_and1 (pt_cmpR (opNeD K hr.units) (pv 6) (pe_tup (pa_cons pe_int (pa_cons pe_int pa_nil))) (nomark _)))))))) (pss_one (ps_ret pe_bl)) pss_nil)))))
        (pss_one (ps_ret (pe_and (pe_cmpR (opEqD K hr.units) (pe_dget (hu_of hr) (pv 4) (pv 3) (fun _ _ => rfl)) (pe_tup (pa_cons pe_int (pa_cons pe_int pa_nil))) (nomark _)) (pe_one (pe_cmpR (opEqD K hr.units) (pv 5) (pe_callD G__law_left_at (hr.mono (by decide)) (pa_cons (pv 0) (pa_cons (pv 1) (pa_cons (pv 3) pa_nil)))) (nomark _)))))))))), ?_⟩
  obtain ⟨_, fv, _, _, rfl, ps, ts, fl, bb, be, B, R, hh, hnet, hst, rfl, rfl, N, hy, S, hB, Sk, k⟩ := h
  obtain ⟨na, nb, nc, tv, rfl, h1, h2, h3, h4⟩ := id hnet
  refine ⟨_, rfl, _, rfl, _, rfl, _, _, _, rfl, ps, ts, fl, bb, be, B, R, hh, hnet, hst, rfl, N, S, hB, Sk, fun d H1 W n hd e1 dW Kn' stab => ?_⟩
  have dnone : W bb = none := Kn'.off Sk fun s hs => (laneOk (f := fl) N).pos s (mem_stepsOf.mpr hs)
  have O := laneOk (f := fl) N
  have n10 := N.p10
  have hW : ∀ x w, W x = some w → 0 < w ∧ Sz 61 w := fun x w h => Kn'.sz O.sz O.pos O.e n10 h
  have S2 := Kn'.stuck dnone (fun x w h => (hW x w h).1) stab
  have SL0 := S2.slack S.flow N.gpos
  have SL : Slack (fun x => (W x).getD 0) ts fl := by
    refine Eq.mp (congrArg (fun w => Slack w ts fl) (funext fun x => ?_)) SL0
    cases hx : W x with
    | none => rw [if_neg (fun q => q rfl)]; rfl
    | some w => rw [if_pos (fun q => nomatch q)]; rfl
  obtain ⟨sa, sv, rfl, h5, h6⟩ := id hst
  obtain ⟨f, fd, fw⟩ := id dW
  refine ⟨_, rfl, rfl, _, rfl, iteF ?_⟩
  refine ⟨_, rfl, _, rfl, d, _, rfl, fd.get bb, _, rfl, ?_⟩
  rw [(fw bb).1 dnone]
  refine iteF ⟨smallE (by simp), fun z0 hz0 => ?_⟩
  have e0 : Ex H1 (upd H1 z0 (.tup [.int 0, .int 1])) := Ex.new hz0
  have f0 : FrV K (upd H1 z0 (.tup [.int 0, .int 1])) (.ref z0) 0 := fr_new 0 1 0 rfl rfl (Sz.zero.mono (by decide))
  have e10 := e1.trans e0
  have lsv : sv.length = fl.length := h6.length
  have ltv : tv.length = ts.length := h4.length
  have lfl : fl.length = ts.length := S.flow.len
  have lm : min sv.length tv.length = ts.length := by rw [lsv, ltv, lfl, Nat.min_self]
  refine ⟨_, rfl, _, rfl, na, _, _, .ref nc, rfl, rfl, (h1.mono (.of e10)).sq, rfl, sa, nc, sv, tv, rfl, SqL.of (e10 _ _ h5), (h3.mono (.of e10)).sq, ?_⟩
  have hwq : ∀ x, Sz 61 ((W x).getD 0) := fun x => by
    cases hx : W x with
    | none => exact Sz.zero.mono (by decide)
    | some w => exact (hW x w hx).2
  have fu0 : ∀ {Hx : Hp} {u : Addr}, Hx u = none → FrV K (upd Hx u (.tup [.int 0, .int 1])) (.ref u) 0 := fun hu => fr_new 0 1 0 rfl rfl (Sz.zero.mono (by decide))
  refine for_it walk_T (fun i σ H' => ∃ v x6 x7 x8 x9 x10 x11 x12, σ = [some (.ref na), some (.ref sa), some (.str bb), some (.str be), some (.ref d), some v, x6, x7, x8, x9, x10, x11, x12] ∧ Ex H1 H' ∧ FrV K H' v (wsum (fun x => (W x).getD 0) (ts.take i) (fl.take i)) ∧ Sz (156 * i + 1) (wsum (fun x => (W x).getD 0) (ts.take i) (fl.take i)))
    ⟨_, none, none, none, none, none, none, none, rfl, e0, f0, Sz.zero.mono (by decide)⟩ (fun i σ H' _ ⟨_, _, _, _, _, _, _, _, _, e, _⟩ => ⟨SqL.of ((e1.trans e) _ _ h5), (h3.mono (.of (e1.trans e))).sq⟩) ?_ ?_
  · rintro i y σ H' H2 hi ⟨v, x6, x7, x8, x9, x10, x11, x12, rfl, e, hv, hvz⟩ ⟨T, _, rfl, hT, rfl, xv, tv', hxv, htv, rfl⟩
    have e2' : Ex H' (upd H' T (.tup [xv, tv'])) := Ex.new hT
    have e2 := e.trans e2'
    have e12 := e1.trans e2
    obtain ⟨t0, ht0, rt0⟩ := h4.get htv
    obtain ⟨x0, hx0, rx0⟩ := h6.get hxv
    obtain ⟨ta, vm, vg, vp, qp, rfl, ht, hm, hg, hpr⟩ := rt0.mono (.of e12)
    have hx := rx0.ex e12
    have hstep : wsum (fun x => (W x).getD 0) (ts.take (i + 1)) (fl.take (i + 1)) = wsum (fun x => (W x).getD 0) (ts.take i) (fl.take i) + x0 * (t0.gain * (W t0.e).getD 0 - (W t0.b).getD 0) := wsum_take (fun x => (W x).getD 0) ht0 hx0
    obtain ⟨sl1, sl2⟩ := SL i t0 x0 ht0 hx0
    replace sl1 : 0 < t0.gain * (W t0.e).getD 0 - (W t0.b).getD 0 → x0 = t0.most := sl1
    replace sl2 : t0.gain * (W t0.e).getD 0 - (W t0.b).getD 0 < 0 → x0 = 0 := sl2
    have htm := List.mem_of_getElem? ht0
    have hgz := N.gsz t0 htm
    have hi24 : i < 24 := by have := N.t24; have := (List.getElem?_eq_some_iff.mp ht0).1; omega
    have zp : Sz 67 (t0.gain * (W t0.e).getD 0) := (hgz.mul (hwq _)).mono (by omega)
    have zm : Sz 129 (t0.gain * (W t0.e).getD 0 - (W t0.b).getD 0) := (zp.sub (hwq _)).mono (by omega)
    have zt : Sz 26 t0.most := ((N.mden t0 htm).sz (b := 6) (by decide) (by decide) (v := 20) (N.mhi t0 htm) (Rat.le_trans (by decide +kernel) (N.mlo t0 htm))).mono (by omega)
    refine ⟨T, _, rfl, SqT.of upd_same, rfl, _, _, rfl, _, _, rfl, ta, _, rfl, ht.sq, rfl, _, _, rfl, _, _, rfl, _, _, rfl, _, _, rfl, _, _, rfl, rfl, rfl, ?_⟩
    have hv2 := hv.ex e2'
    generalize upd H' T (.tup [xv, .ref ta]) = H2 at *
    have go : ∀ (u : Addr) (Hx : Hp) (x : Str), Ex H2 Hx → Hx u = none → ∃ o, DGet (upd Hx u (.tup [.int 0, .int 1])) d (.str x) o ∧ FrV K (upd Hx u (.tup [.int 0, .int 1])) (o.getD (.ref u)) ((W x).getD 0) := fun u Hx x ex hu => dW.getD x ((e2.trans ex).trans (Ex.new hu)) (fu0 hu)
    have isd : ∀ Hx, Ex H2 Hx → IsD Hx d := fun Hx ex => (fd.ex (e2.trans ex)).isD
    refine ⟨_, rfl, _, rfl, d, rfl, isd _ (Ex.refl _), _, rfl, smallE (by simp), fun u1 hu1 => ?_⟩
    obtain ⟨o1, dg1, fg1⟩ := go u1 _ t0.e (Ex.refl _) hu1
    have eu1 : Ex H2 (upd H2 u1 (.tup [.int 0, .int 1])) := Ex.new hu1
    refine ⟨o1, dg1, _, _, rfl, t0.gain, (W t0.e).getD 0, hg.ex eu1, fg1, trivial, zp.mono (by omega), fun v1 H3 e3 hv1 => ?_⟩
    have e23 := eu1.trans e3
    refine ⟨_, rfl, d, rfl, isd _ e23, _, rfl, smallE (by simp), fun u2 hu2 => ?_⟩
    obtain ⟨o2, dg2, fg2⟩ := go u2 _ t0.b e23 hu2
    have eu2 : Ex H3 (upd H3 u2 (.tup [.int 0, .int 1])) := Ex.new hu2
    refine ⟨o2, dg2, _, _, rfl, t0.gain * (W t0.e).getD 0, (W t0.b).getD 0, hv1.ex eu2, fg2, trivial, zm.mono (by omega), fun v2 H4 e4 hv2' => ?_⟩
    have e24 := (e23.trans eu2).trans e4
    have hvA := hv2.ex e24
    replace hv2' : FrV K H4 v2 (t0.gain * (W t0.e).getD 0 - (W t0.b).getD 0) := hv2'
    generalize hM : t0.gain * (W t0.e).getD 0 - (W t0.b).getD 0 = M at *
    obtain ⟨am, rfl, ham, _⟩ := id hv2'
    refine ⟨fun σ H' => ∃ v, σ = [some (.ref na), some (.ref sa), some (.str bb), some (.str be), some (.ref d), some v, some xv, some (.str t0.b), some (.str t0.e), some vm, some vg, some vp, some (.ref am)] ∧ Ex H4 H' ∧ FrV K H' v (wsum (fun x => (W x).getD 0) (ts.take (i + 1)) (fl.take (i + 1))) ∧ Sz (156 * (i + 1) + 1) (wsum (fun x => (W x).getD 0) (ts.take (i + 1)) (fl.take (i + 1))), ?_, ?_⟩
    · refine ⟨_, rfl, am, _, _, .int M.num, rfl, rfl, ham.sq, rfl, _, _, rfl, rfl, _, rfl, ite2 (fun hb => ?_) (fun hb => ?_)⟩
      · have hpos : 0 < M := num_pos_iff.mp (of_decide_eq_true hb)
        have hx0m := sl1 hpos
        have ztm : Sz 155 (t0.most * M) := (zt.mul zm).mono (by omega)
        have ztot : Sz (156 * (i + 1) + 1) (wsum (fun x => (W x).getD 0) (ts.take i) (fl.take i) + t0.most * M) := (hvz.add ztm).mono (by omega)
        refine ⟨_, rfl, _, rfl, _, rfl, _, _, rfl, t0.most, M, hm.ex e24, hv2', trivial, ztm.mono (by omega), fun v3 H5 e5 hv3 => ?_⟩
        refine ⟨_, _, rfl, _, _, hvA.ex e5, hv3, trivial, ztot.mono (by omega), fun v4 H6 e6 hv4 => ⟨v4, rfl, e5.trans e6, ?_, ?_⟩⟩
        · rw [hstep, hx0m]; exact hv4
        · rw [hstep, hx0m]; exact ztot
      · have hnp : ¬ 0 < M := fun q => hb (decide_eq_true (num_pos_iff.mpr q))
        have hz : x0 * M = 0 := by
          by_cases c : M < 0
          · rw [sl2 c, Rat.zero_mul]
          · rw [Rat.le_antisymm (Rat.not_lt.mp hnp) (Rat.not_lt.mp c), Rat.mul_zero]
        rw [hstep, hz, Rat.add_zero]
        exact ⟨v, rfl, Ex.refl _, hvA, hvz.mono (by omega)⟩
    · rintro σ H5 ⟨v5, rfl, e5, hv5, hz5⟩
      have hx5 := hx.ex (e24.trans e5)
      have hm5 := hm.ex (e24.trans e5)
      have ham5 := (hv2'.ex e5)
      obtain ⟨am', hq, ham5, _⟩ := id ham5
      cases hq
      refine ⟨_, rfl, am, _, _, .int M.num, rfl, rfl, ham5.sq, rfl, _, _, rfl, rfl, _, rfl, ?_⟩
      have inv : ∀ H6, Ex H5 H6 → ∃ v x6 x7 x8 x9 x10 x11 x12, [some (.ref na), some (.ref sa), some (.str bb), some (.str be), some (.ref d), some v5, some xv, some (.str t0.b), some (.str t0.e), some vm, some vg, some vp, some (.ref am)] = [some (V.ref na), some (.ref sa), some (.str bb), some (.str be), some (.ref d), some v, x6, x7, x8, x9, x10, x11, x12] ∧ Ex H1 H6 ∧ FrV K H6 v (wsum (fun x => (W x).getD 0) (ts.take (i + 1)) (fl.take (i + 1))) ∧ Sz (156 * (i + 1) + 1) (wsum (fun x => (W x).getD 0) (ts.take (i + 1)) (fl.take (i + 1))) :=
        fun H6 e6 => ⟨v5, _, _, _, _, _, _, _, rfl, (e2.trans (e24.trans e5)).trans e6, hv5.ex e6, hz5⟩
      by_cases hpos : 0 < M
      · have hxm := sl1 hpos
        rw [decide_eq_true (num_pos_iff.mpr hpos)]
        refine iteT ⟨_, rfl, _, rfl, _, _, dp_fr hx5, dp_fr hm5, shaped2 _ _, shaped2 _ _, _, rfl, ?_⟩
        rw [eqv2, hxm]
        rw [show (!((t0.most.num == t0.most.num) && (((t0.most.den : Nat) : Int) == (t0.most.den : Nat)))) = false by simp]
        refine iteF ⟨_, rfl, am, _, _, .int M.num, rfl, rfl, ham5.sq, rfl, _, _, rfl, rfl, _, rfl, ?_⟩
        rw [decide_eq_false (show ¬ M.num < 0 from fun q => absurd (num_neg_iff.mp q) (Rat.not_lt.mpr (Rat.le_of_lt hpos)))]
        exact iteF (iteF (inv _ (Ex.refl _)))
      · rw [decide_eq_false (show ¬ 0 < M.num from fun q => hpos (num_pos_iff.mp q))]
        refine iteF (iteF ⟨_, rfl, am, _, _, .int M.num, rfl, rfl, ham5.sq, rfl, _, _, rfl, rfl, _, rfl, ?_⟩)
        by_cases hneg : M < 0
        · have hxm := sl2 hneg
          rw [decide_eq_true (num_neg_iff.mpr hneg)]
          refine iteT ⟨_, rfl, smallE (by simp), fun u hu => ⟨_, _, dp_fr (hx5.ex (Ex.new hu)), dp_lit (SqT.of upd_same), shaped2 _ _, shaped2 _ _, _, rfl, ?_⟩⟩
          rw [eqv2, hxm]
          exact iteF (inv _ (Ex.new hu))
        · rw [decide_eq_false (show ¬ M.num < 0 from fun q => hneg (num_neg_iff.mp q))]
          exact iteF (iteF (inv _ (Ex.refl _)))
  · rintro σ H5 ⟨v, x6, x7, x8, x9, x10, x11, x12, rfl, e, hv, hvz⟩
    have e15 := e1.trans e
    rw [lm, List.take_length, ← lfl, List.take_length] at hv
    have hk1 := Kn'.one
    have hfl := wsum_flow S.flow (fun x => (W x).getD 0) N.nd hy (fun t ht => ⟨(N.ends t ht).1, (N.ends t ht).2.1⟩) (by show (W bb).getD 0 = 0; rw [dnone]; rfl)
    replace hfl : wsum (fun x => (W x).getD 0) ts fl = (W be).getD 0 * left ts fl be := hfl
    rw [hk1, show (some (1 : Rat)).getD 0 = 1 from rfl, Rat.one_mul] at hfl
    rw [hfl] at hv
    obtain ⟨v1, hv1, fr1⟩ := (fw be).2 1 hk1
    have dg : DGet H5 d (.str be) (some v1) := hv1 ▸ (fd.ex e).get be
    refine ⟨_, rfl, _, rfl, d, v1, rfl, dg, smallE (by simp), fun u hu => ?_⟩
    have eu : Ex H5 (upd H5 u (.tup [.int 1, .int 1])) := Ex.new hu
    refine ⟨_, _, dp_fr (fr1.ex (e.trans eu)), dp_lit (SqT.of upd_same), shaped2 _ _, shaped2 _ _, _, rfl, ?_⟩
    rw [eqv2, show (((1 : Rat).num == 1) && (((1 : Rat).den : Int) == 1)) = true from rfl]
    refine iteT ⟨_, rfl, _, rfl, _, rfl, _, rfl, _, _, _, rfl, ps, ts, fl, be, hnet.mono (.of (e15.trans eu)), hst.ex tm_fr (e15.trans eu), rfl, left_sz N S (by omega) be, fun v2 H6 e6 h6' => ?_⟩
    refine ⟨_, _, dp_fr (hv.ex (eu.trans e6)), dp_fr h6', shaped2 _ _, shaped2 _ _, ?_⟩
    rw [eqv2]
    rw [show ((left ts fl be).num == (left ts fl be).num && (((left ts fl be).den : Nat) : Int) == ((left ts fl be).den : Nat)) = true by simp]
    exact k _ ((e15.trans eu).trans e6)
end
end GW
set_option Elab.async false
set_option linter.all false
set_option maxRecDepth 100000
set_option maxHeartbeats 4000000
/-! LN: right, law -/
namespace GW
open PySem PySem.Spec PyProof.Rows L2 GM
theorem both_sz {ps : List Str} {ts : List (Tie Str)} {b e : Str} {f f' : List Rat} {B i : Nat} {x y : Rat} (N : NetOk ps ts) (D : Both B f f') (F : Flow ts ps b e f) (F' : Flow ts ps b e f') (hx : f[i]? = some x) (hy : f'[i]? = some y) : Sz (B + 21) (x + y) := by
  obtain ⟨d, d0, dB, d42, h1, h2⟩ := D
  have hl := (List.getElem?_eq_some_iff.mp hx).1
  have ht : ts[i]? = some (ts[i]'(by rw [← F.len]; exact hl)) := List.getElem?_eq_getElem _
  have m1 := Rat.le_trans (F.hi _ _ _ ht hx) (N.mhi _ (List.mem_of_getElem? ht))
  have m2 := Rat.le_trans (F'.hi _ _ _ ht hy) (N.mhi _ (List.mem_of_getElem? ht))
  have l1 := F.lo _ _ hx
  have l2 := F'.lo _ _ hy
  have w : Wh d (x + y) := (h1 _ _ hx).add (h2 _ _ hy)
  have p : (2 : Rat) ^ 20 + 2 ^ 20 ≤ 2 ^ 21 := by decide +kernel
  have p0 : (0 : Rat) ≤ 2 ^ 21 := by decide +kernel
  exact w.sz d0 dB (v := 21) (by grind) (by grind)
/-- nothing is more than where nothing more comes -/
theorem stuck_no {ps : List Str} {ts : List (Tie Str)} {b e : Str} {f f' : List Rat} (N : NetOk ps ts) (F : Flow ts ps b e f) (F' : Flow ts ps b e f') (he : e ∈ ps) (h : left ts f e < left ts f' e) : ¬ ∃ R h, Stuck ts f b e R h := by
  rintro ⟨R, hh, S⟩
  exact absurd h (Rat.not_lt.mpr (S.best F F' N.gpos N.nd he fun t ht => ⟨(N.ends t ht).1, (N.ends t ht).2.1⟩))
section
variable {P : Program} {w : World} {K : PySem.W.Frag} {mg : Str → Option Value} {base : Heap}
def sp__law_right (K : PySem.W.Frag) : Sp := sp4 fun a b c d H Q => ∃ (bx : Addr) (ps : List Str) (ts : List (Tie Str)) (x y : Str) (n : Nat), a = .ref bx ∧ NetV K H b ps ts ∧ c = .str x ∧ d = .str y ∧ NetOk ps ts ∧ x ∈ ps ∧ y ∈ ps ∧ x ≠ y ∧ BoxV H bx n ∧ n < 60000 ∧
  ∀ H', But bx H H' → BoxV H' bx (n + 3000) → Q (.bl true) H'
/-! _law_right: slots 0:_law_box_here 1:_law_net 2:_law_begin 3:_law_end 4:_law_stream 5:_law_turn 6:_law_thing 7:_law_made 8:_law_half 9:_law_one 10:_law_other -/
abbrev N__law_right : List Str := ["_law_box_here", "_law_net", "_law_begin", "_law_end", "_law_stream", "_law_turn", "_law_thing", "_law_made", "_law_half", "_law_one", "_law_other"]
theorem sc__law_right : FnScope N__law_right ["_law_box_here", "_law_net", "_law_begin", "_law_end"] (defScope s__law_right) := ⟨rfl, rfl, rfl, by decide +kernel, rfl, by decide +kernel, by decide +kernel⟩
theorem ok__law_right (T : Txt K mg) : DOk P w K mg base "_law_right" ["_law_box_here", "_law_net", "_law_begin", "_law_end"] 8 (sp__law_right K) := by
  have G_bettering := ok_bettering (P := P) (w := w) (base := base) T
  have G__law_product := ok__law_product (P := P) (w := w) (base := base) T
  have G__law_sum := ok__law_sum (P := P) (w := w) (base := base) T
  have G__law_above := ok__law_above (P := P) (w := w) (base := base) T
  have G__law_left_at := ok__law_left_at (P := P) (w := w) (base := base) T
  have G__law_keeps := ok__law_keeps (P := P) (w := w) (base := base) T
  have G_bettered := ok_bettered (P := P) (w := w) (base := base) T
  have G_shows_bettering := ok_shows_bettering (P := P) (w := w) (base := base) T
  have G__law_shown := ok__law_shown (P := P) (w := w) (base := base) T
  have G__law_none_more := ok__law_none_more (P := P) (w := w) (base := base) T
  have G__law_stream_by := ok__law_stream_by (P := P) (w := w) (base := base) T
  refine T.d__law_right.ok sc__law_right sp4_len (fun f cdv A outer s H vs Q E hr h => ?_)
  refine ⟨_, (pss_cons (ps_set (i := 4) sc__law_right.nd rfl (Or.inl rfl) (pe_callD G__law_stream_by (hr.mono (by decide)) (pa_cons (pv 0) (pa_cons (pv 1) (pa_cons (pv 2) (pa_cons (pv 3) pa_nil))))))
        (pss_cons (ps_for PassesOwn.never rfl (pi_range1 (by rfl) T.n_range (pa_cons pe_int pa_nil)) (pg_name (i := 5) sc__law_right.nd rfl (Or.inl rfl)) (pss_cons (ps_set (i := 6) sc__law_right.nd rfl (Or.inl rfl) (pe_callD G_bettering (hr.mono (by decide)) (pa_cons (pv 1) (pa_cons (pv 2) (pa_cons (pv 3) (pa_cons (pv 4) pa_nil))))))
        (pss_cons (ps_if (pt_cmpR op_isN (pv 6) pe_non (nomark _)) (pss_one (ps_ret (pe_callD G__law_none_more (hr.mono (by decide)) (pa_cons (pv 1) (pa_cons (pv 4) (pa_cons (pv 2) (pa_cons (pv 3) pa_nil))))))) pss_nil)
        (pss_cons (ps_if (PW.pt (pw_or (pt_not (pt_val (pe_callD G__law_shown (hr.mono (by decide)) (pa_cons (pv 1) (pa_cons (pv 2) (pa_cons (pv 3) (pa_cons (pv 4) (pa_cons (pv 6) pa_nil)))))))) (pw_or1 (pt_not (pt_val (pe_callD G_shows_bettering (hr.mono (by decide)) (pa_cons (pv 1) (pa_cons (pv 2) (pa_cons (pv 3) (pa_cons (pv 4) (pa_cons (pv 6) pa_nil))))))))))) (pss_one (ps_ret pe_bl)) pss_nil)
        (pss_cons (ps_set (i := 7) sc__law_right.nd rfl (Or.inl rfl) (pe_callD G_bettered (hr.mono (by decide)) (pa_cons (pv 1) (pa_cons (pv 2) (pa_cons (pv 3) (pa_cons (pv 4) (pa_cons (pv 6) pa_nil)))))))
        (pss_cons (ps_if (pt_not (pt_val (pe_callD G__law_keeps (hr.mono (by decide)) (pa_cons (pv 1) (pa_cons (pv 7) (pa_cons (pv 2) (pa_cons (pv 3) pa_nil))))))) (pss_one (ps_ret pe_bl)) pss_nil)
        (pss_cons (ps_if (pt_cmpR op_le (pe_callD G__law_above (hr.mono (by decide)) (pa_cons (pe_callD G__law_left_at (hr.mono (by decide)) (pa_cons (pv 1) (pa_cons (pv 7) (pa_cons (pv 3) pa_nil)))) (pa_cons (pe_callD G__law_left_at (hr.mono (by decide)) (pa_cons (pv 1) (pa_cons (pv 4) (pa_cons (pv 3) pa_nil)))) pa_nil))) pe_int (nomark _)) (pss_one (ps_ret pe_bl)) pss_nil)
        (pss_cons (ps_setLc (i := 8) (own := [("_law_one", 9), ("_law_other", 10)]) (tt := tYes) (by rfl) sc__law_right.nd rfl rfl (sw_true rfl rfl rfl (by decide +kernel)) (pi_zip (by rfl) T.n_zip (pa_cons (pv 4) (pa_cons (pv 7) pa_nil))) (blkOk_by (N := N__law_right) (sc := defScope s__law_right) (own := [("_law_one", 9), ("_law_other", 10)]) (by decide +kernel)) (fun _ _ _ _ _ => (pgT K 2 rfl (pgs_cons (pg_name (i := 9) sc__law_right.nd rfl (Or.inl rfl)) (pgs_cons (pg_name (i := 10) sc__law_right.nd rfl (Or.inl rfl)) pgs_nil)))) (fun _ _ _ _ _ => pts_nil) (fun _ _ _ _ _ => (pe_callD G__law_product (hr.mono (by decide)) (pa_cons (pe_callD G__law_sum (hr.mono (by decide)) (pa_cons (pv 9) (pa_cons (pv 10) pa_nil))) (pa_cons (pe_tup (pa_cons pe_int (pa_cons pe_int pa_nil))) pa_nil)))))
        (pss_cons (ps_if (PW.pt (pw_or (pt_cmpR op_isN (pe_callD G_bettering (hr.mono (by decide)) (pa_cons (pv 1) (pa_cons (pv 2) (pa_cons (pv 3) (pa_cons (pv 8) pa_nil))))) pe_non (nomark _)) (pw_or1 (pt_cmpR op_isN (pe_callD G_bettering (hr.mono (by decide)) (pa_cons (pv 1) (pa_cons (pv 2) (pa_cons (pv 3) (pa_cons (pv 4) pa_nil))))) pe_non (nomark _))))) (pss_one (ps_ret pe_bl)) pss_nil)
        (pss_one (ps_set (i := 4) sc__law_right.nd rfl (Or.inl rfl) (pv 7))))))))))))
        (pss_one (ps_ret pe_bl)))), ?_⟩
  obtain ⟨_, nv, _, _, rfl, bx, ps, ts, bb, be, n, rfl, hnet0, rfl, rfl, N, hx, hy, hxy, hb, hn, k⟩ := h
  refine ⟨_, rfl, _, rfl, _, rfl, _, rfl, _, _, _, _, rfl, bx, ps, ts, bb, be, n, rfl, hnet0, rfl, rfl, N, hx, hy, hxy, hb, hn, fun v0 H0 f0 b0 hb0 hst0 S0 _ => ?_⟩
  have hnet := hnet0.mono (hb.tx b0)
  refine ⟨16, rfl, by omega, by omega, ?_⟩
  refine for_it (walk_range (lo := 0) (n := 16)) (fun i σ H' => ∃ (v x5 x6 x7 x8 : _) (f : List Rat), σ = [some (.ref bx), some nv, some (.str bb), some (.str be), some v, x5, x6, x7, x8, none, none] ∧ Ex H0 H' ∧ LsV (FrV K) H' v f ∧ StreamOk ts ps bb be (534 + 132 * i) f)
    ⟨v0, none, none, none, none, f0, rfl, Ex.refl _, hst0, S0⟩ (fun _ _ _ _ _ => trivial) ?_ ?_
  · rintro i y σ _ H1 hi ⟨v, x5, x6, x7, x8, f, rfl, e1, hst, S⟩ ⟨rfl, rfl⟩
    have fin : ∀ H', Ex H0 H' → Q (.bl true) H' := fun H' e => k H' (b0.trans (.of e)) (hb0.ex e)
    have G1 : Given K H1 nv (.str bb) (.str be) v ps ts bb be f (534 + 132 * i) := ⟨hnet.mono (.of e1), rfl, rfl, hst, N, hx, hy, hxy, S, by omega⟩
    refine ⟨_, rfl, _, rfl, _, rfl, _, rfl, _, _, _, _, rfl, ps, ts, bb, be, f, _, G1, fun hs H2 e2 => ?_, fun t H2 z e2 hz hok htn => ?_⟩
    · obtain ⟨R, hh, Sk⟩ := hs
      refine ⟨_, rfl, rfl, _, rfl, iteT ?_⟩
      exact ⟨_, rfl, _, rfl, _, rfl, _, rfl, _, _, _, _, rfl, ps, ts, f, bb, be, _, R, hh, hnet.mono (.of (e1.trans e2)), hst.ex tm_fr e2, rfl, rfl, N, hy, S, by omega, Sk, fun H3 e3 => fin H3 ((e1.trans e2).trans e3)⟩
    · refine ⟨_, rfl, rfl, _, rfl, ?_⟩
      rw [decide_eq_false htn]
      refine iteF ?_
      have G2 := G1.ex e2
      refine ⟨_, rfl, _, rfl, _, rfl, _, rfl, _, rfl, _, _, _, _, _, rfl, ps, ts, bb, be, f, _, z, G2, hz, hok, fun H3 e3 => ?_⟩
      have e13 := e1.trans e2
      have hz3 := BetV.ex hz e3
      refine ⟨true, rfl, iteF ⟨_, rfl, _, rfl, _, rfl, _, rfl, _, rfl, _, _, _, _, _, rfl, ps, ts, bb, be, f, _, z, G2.ex e3, hz3, hok, fun H4 e4 => ⟨true, rfl, iteF ?_⟩⟩⟩
      refine ⟨_, rfl, _, rfl, _, rfl, _, rfl, _, rfl, _, _, _, _, _, rfl, ps, ts, bb, be, f, _, z, (G2.ex e3).ex e4, BetV.ex hz3 e4, hok, fun p H5 vs f' hp e5 hvs hall S5 more both => ?_⟩
      have e25 := (e2.trans e3).trans (e4.trans e5)
      have e15 := e1.trans e25
      have hst5 : LsV (FrV K) H5 v f := hst.ex tm_fr e25
      have hmade : LsV (FrV K) H5 (.ref p) f' := ⟨p, vs, rfl, hvs, hall⟩
      have hnet5 := hnet.mono (.of e15)
      refine ⟨_, rfl, _, rfl, _, rfl, _, rfl, _, _, _, _, rfl, ps, ts, bb, be, f', _, hnet5, hmade, rfl, rfl, N, S5, by omega, fun H6 e6 => ⟨true, rfl, iteF ?_⟩⟩
      refine ⟨_, rfl, _, rfl, _, rfl, _, _, _, rfl, ps, ts, f', be, hnet5.mono (.of e6), hmade.ex tm_fr e6, rfl, left_sz N S5 (by omega) be, fun v7 H7 e7 h7 => ?_⟩
      refine ⟨_, rfl, _, rfl, _, rfl, _, _, _, rfl, ps, ts, f, be, hnet5.mono (.of (e6.trans e7)), hst5.ex tm_fr (e6.trans e7), rfl, left_sz N S (by omega) be, fun v8 H8 e8 h8 => ?_⟩
      refine ⟨_, _, rfl, _, _, h7.ex e8, h8, fun s s1 s2 => ⟨_, _, rfl, rfl, _, rfl, ?_⟩⟩
      rw [decide_eq_false (show ¬ s ≤ 0 by have := s1.mpr more; omega)]
      refine iteF ?_
      have e58 := e6.trans (e7.trans e8)
      have hst8 := hst5.ex tm_fr e58
      have hmade8 := hmade.ex tm_fr e58
      have S9 := half_ok S.flow S5.flow both
      obtain ⟨sa, sv, rfl, h5, h6⟩ := id hst8
      have hvs8 := e58 _ _ hvs
      have hall8 := hall.tm tm_fr (.of e58)
      have lh : (half f f').length = min sv.length vs.length := by
        unfold half
        rw [List.length_zipWith, h6.length, hall.length]
      have lh24 : (half f f').length ≤ 24 := by
        have := S9.flow.len
        have := N.t24
        omega
      refine ⟨_, rfl, _, rfl, sa, p, sv, vs, rfl, SqL.of h5, SqL.of hvs8, lc_fmW (ys := half f f') (lh ▸ walk_zp (K := K) (a := sa) (b := p) (xs := sv) (ys := vs)) (R := FrV K) tm_fr (p := fun _ => true) (f := id) (fun H e => ⟨SqL.of (e _ _ h5), SqL.of (e _ _ hvs8)⟩) (by omega) ?_ ?_⟩
      · rintro j y x H9 H10 hj e9 ⟨Tu, v1, v2, rfl, hTu, rfl, hv1, hv2⟩
        have e10 : Ex H9 (upd H9 Tu (.tup [v1, v2])) := Ex.new hTu
        obtain ⟨a, b, ha, hb', rfl⟩ := half_at hj
        have r1 := (h6.two hv1 ha).ex (e9.trans e10)
        have r2 := (hall8.two hv2 hb').ex (e9.trans e10)
        have zab := both_sz N both S.flow S5.flow ha hb'
        have z12 : Sz 2 (1 / 2 : Rat) := by constructor <;> decide +kernel
        refine ⟨e10, LcTurn.yes fun A hA => ⟨Tu, _, rfl, SqT.of upd_same, rfl, _, _, rfl, _, _, rfl, rfl, rfl, _, rfl, _, rfl, _, _, rfl, a, b, r1, r2, trivial, zab.mono (by omega), fun v3 H11 e11 h11 => ⟨smallE (by simp), fun u hu => ?_⟩⟩⟩
        have fu : FrV K (upd H11 u (.tup [.int 1, .int 2])) (.ref u) (1 / 2) := fr_new 1 2 (1 / 2) (by decide +kernel) (by decide +kernel) (z12.mono (by decide))
        exact ⟨_, _, rfl, a + b, 1 / 2, h11.ex (Ex.new hu), fu, trivial, (zab.mul z12).mono (by omega), fun v4 H12 e12 h12 => hA _ _ ((e11.trans (Ex.new hu)).trans e12) h12⟩
      · intro hp9 H9 zs hD e9 hz9 az9
        rw [List.filter_eq_self.mpr (fun _ _ => rfl), List.map_id] at az9
        have e19 := (e15.trans e58).trans e9
        have hhalf : LsV (FrV K) H9 (.ref hp9) (half f f') := ⟨hp9, zs, rfl, hz9, az9⟩
        have hlt : left ts (half f f') be < left ts f' be := by
          rw [left_half be S.flow.len S5.flow.len]
          grind
        have Gh : Given K H9 nv (.str bb) (.str be) (.ref hp9) ps ts bb be (half f f') _ := ⟨hnet.mono (.of e19), rfl, rfl, hhalf, N, hx, hy, hxy, S9, by omega⟩
        refine ⟨_, rfl, _, rfl, _, rfl, _, rfl, _, _, _, _, rfl, ps, ts, bb, be, half f f', _, Gh, fun hs => absurd hs (stuck_no N S9.flow S5.flow hy hlt), fun t2 H10 z2 e10 hz2 hok2 ht2 => ?_⟩
        refine ⟨rfl, _, rfl, ?_⟩
        rw [decide_eq_false ht2]
        have hst10 := hst.ex tm_fr ((e25.trans e58).trans (e9.trans e10))
        have Gs : Given K H10 nv (.str bb) (.str be) (.ref sa) ps ts bb be f _ := ⟨hnet.mono (.of (e19.trans e10)), rfl, rfl, hst10, N, hx, hy, hxy, S, by omega⟩
        refine iteF ⟨_, rfl, _, rfl, _, rfl, _, rfl, _, _, _, _, rfl, ps, ts, bb, be, f, _, Gs, fun hs => absurd hs (stuck_no N S.flow S5.flow hy more), fun t3 H11 z3 e11 hz3 hok3 ht3 => ?_⟩
        refine ⟨rfl, _, rfl, ?_⟩
        rw [decide_eq_false ht3]
        refine iteF ⟨_, rfl, ?_⟩
        exact ⟨_, _, _, _, _, f', rfl, (e19.trans e10).trans e11, hmade.ex tm_fr ((e58.trans e9).trans (e10.trans e11)), S5.mono (by omega)⟩
  · rintro σ H1 ⟨v, x5, x6, x7, x8, f, rfl, e1, hst, S⟩
    exact k H1 (b0.trans (.of e1)) (hb0.ex e1)
def spLaw (K : PySem.W.Frag) : Sp := sp1 fun a H Q => ∃ (sa : Addr) (cs : List Int), a = .ref sa ∧ SqL K H sa (cs.map V.int) ∧ (∀ H', Ex H H' → SqL K H' sa (cs.map V.int)) ∧ cs.length ≤ 63 ∧ ∀ H', Q (.bl true) H'
/-! law: slots 0:_law_script 1:_law_cells 2:_law_k 3:_law_box_here 4:_law_turn 5:_law_net 6:_law_begin 7:_law_end -/
abbrev N_law : List Str := ["_law_script", "_law_cells", "_law_k", "_law_box_here", "_law_turn", "_law_net", "_law_begin", "_law_end"]
theorem sc_law : FnScope N_law ["_law_script"] (defScope s_law) := ⟨rfl, rfl, rfl, by decide +kernel, rfl, by decide +kernel, by decide +kernel⟩
theorem ok_law (T : Txt K mg) {f : Addr} {fd : FuncData} (F : Fun K "law" "law" s_law f fd) : FnOk P w K mg base CX0 9 f fd ["_law_script"] (spLaw K) := by
  have G__law_right := ok__law_right (P := P) (w := w) (base := base) T
  have G__law_ends_by := ok__law_ends_by (P := P) (w := w) (base := base) T
  have G__law_net_by := ok__law_net_by (P := P) (w := w) (base := base) T
  have G__law_box := ok__law_box (P := P) (w := w) (base := base) T
  have G__law_folded := ok__law_folded (P := P) (w := w) (base := base) T
  refine F.ok sc_law sp1_len (fun cdv A outer s H vs Q E hr h => ?_)
  refine ⟨_, (pss_cons (ps_set (i := 1) sc_law.nd rfl (Or.inl rfl) (pe_callD G__law_folded (hr.mono (by decide)) (pa_cons (pv 0) (pa_cons pe_int pa_nil))))
        (pss_cons (ps_for PassesOwn.never rfl (pi_range1 (by rfl) T.n_range (pa_cons (pe_callB (call_max2 rfl) (by rfl) T.n_max (by decide +kernel) (pa_cons pe_int (pa_cons (pe_callB (lenK K) (by rfl) T.n_len PySem.boot_len (pa_cons (pv 1) pa_nil)) pa_nil))) pa_nil)) (pg_name (i := 2) sc_law.nd rfl (Or.inl rfl)) (pss_cons (ps_set (i := 3) sc_law.nd rfl (Or.inl rfl) (pe_callD G__law_box (hr.mono (by decide)) (pa_cons (pv 1) (pa_cons (pv 2) pa_nil))))
        (pss_one (ps_for PassesOwn.never rfl (pi_range1 (by rfl) T.n_range (pa_cons pe_int pa_nil)) (pg_name (i := 4) sc_law.nd rfl (Or.inl rfl)) (pss_cons (ps_set (i := 5) sc_law.nd rfl (Or.inl rfl) (pe_callD G__law_net_by (hr.mono (by decide)) (pa_cons (pv 3) (pa_cons pe_int (pa_cons pe_int pa_nil)))))
        (pss_cons (ps_asg (pe_callD G__law_ends_by (hr.mono (by decide)) (pa_cons (pv 3) (pa_cons (pv 5) pa_nil))) (pgT K 2 rfl (pgs_cons (pg_name (i := 6) sc_law.nd rfl (Or.inl rfl)) (pgs_cons (pg_name (i := 7) sc_law.nd rfl (Or.inl rfl)) pgs_nil))))
        (pss_one (ps_if (pt_not (pt_val (pe_callD G__law_right (hr.mono (by decide)) (pa_cons (pv 3) (pa_cons (pv 5) (pa_cons (pv 6) (pa_cons (pv 7) pa_nil))))))) (pss_one (ps_ret pe_bl)) pss_nil))))))))
        (pss_one (ps_ret pe_bl)))), ?_⟩
  obtain ⟨_, rfl, sa, cs, rfl, hs, hsE, hl, k⟩ := h
  refine ⟨_, rfl, _, _, rfl, sa, cs, rfl, rfl, hs, hsE, by omega, fun p H1 ds hp e1 hds ld => ?_⟩
  refine ⟨_, rfl, p, _, rfl, .inl (SqL.of hds), _, _, rfl, 2, ?_, by omega, by omega, ?_⟩
  · rw [if_neg (by rw [List.length_map]; omega)]
  refine for_it (walk_range (lo := 0) (n := 2)) (fun i σ H' => ∃ x2 x3 x4 x5 x6 x7, σ = [some (.ref sa), some (.ref p), x2, x3, x4, x5, x6, x7] ∧ H' p = some (.lst (ds.map V.int)))
    ⟨none, none, none, none, none, none, rfl, hds⟩ (fun _ _ _ _ _ => trivial) ?_ ?_
  · rintro i y σ _ H2 hi ⟨x2, x3, x4, x5, x6, x7, rfl, hp2⟩ ⟨rfl, rfl⟩
    refine ⟨_, rfl, _, rfl, _, _, rfl, p, ds, i, rfl, congrArg V.int (by omega), SqL.of hp2, by omega, fun bx H3 hbx e3 hb3 => ?_⟩
    have hpb : p ≠ bx := ne_of_none hp2 hbx
    have hp3 := e3 _ _ hp2
    refine ⟨2, rfl, by omega, by omega, ?_⟩
    refine for_it (walk_range (lo := 0) (n := 2)) (fun j σ H' => ∃ x4 x5 x6 x7, σ = [some (.ref sa), some (.ref p), some (.int (0 + (i : Nat))), some (.ref bx), x4, x5, x6, x7] ∧ H' p = some (.lst (ds.map V.int)) ∧ BoxV H' bx (5000 * j))
      ⟨_, _, _, _, rfl, hp3, hb3⟩ (fun _ _ _ _ _ => trivial) ?_ ?_
    · rintro j y σ _ H4 hj ⟨x4, x5, x6, x7, rfl, hp4, hb4⟩ ⟨rfl, rfl⟩
      refine ⟨_, rfl, _, _, _, rfl, bx, 5000 * j, rfl, rfl, rfl, hb4, by omega, fun v H5 ps ts b5 hb5 hnet N => ?_⟩
      refine ⟨_, rfl, _, rfl, _, _, rfl, bx, ps, ts, 5000 * j + 1000, rfl, hnet, N.nd, N.p2, N.p10, hb5, by omega, fun t H6 x y b6 hb6 ht hx hy hxy => ?_⟩
      refine ⟨t, _, rfl, SqT.of ht, rfl, _, _, rfl, _, _, rfl, rfl, ?_⟩
      refine ⟨_, rfl, _, rfl, _, rfl, _, rfl, _, _, _, _, rfl, bx, ps, ts, x, y, 5000 * j + 1000 + 2, rfl, hnet.mono (hb5.tx b6), rfl, rfl, N, hx, hy, hxy, hb6, by omega, fun H7 b7 hb7 => ⟨true, rfl, iteF ?_⟩⟩
      exact ⟨_, _, _, _, rfl, ((b5.trans b6).trans b7) _ _ hpb hp4, hb7.mono (by omega)⟩
    · rintro σ H4 ⟨x4, x5, x6, x7, rfl, hp4, hb4⟩
      exact ⟨_, _, _, _, _, _, rfl, hp4⟩
  · rintro σ H2 ⟨x2, x3, x4, x5, x6, x7, rfl, hp2⟩
    exact k H2
end
end GW
/-! ### the end: what the top has written, the head -/
namespace GW
open PySem PySem.Spec PyProof.Rows L2 GM
theorem SqL.keep {K : PySem.W.Frag} {H H' : Hp} {a : Addr} {xs : List V} (h : SqL K H a xs) (e : Ex H H') : SqL K H' a xs := by
  rcases h with (h | ⟨o, h⟩) | h
  · exact .inl (.inl (e _ _ h))
  · exact .inl (.inr ⟨o, e _ _ h⟩)
  · exact .inr h
theorem df_mk {K : PySem.W.Frag} {h : Heap} {mg : Str → Option Value} {x : Str} {st : Stmt} {ps : List Str} {f : Addr} {oc : Value} {od an : Option Addr} {osl : Array (Option Value)} {kV doc pm cdv ct : Value} (X : K.In h) (G : h.Ns mainGlobals mg)
    (a : PySem.W.nsIn K mainGlobals x = some (some (.ref f))) (l : K.lookup f = some ⟨oc, od, .func (PySem.W.fnOf x x (defArgs st) (defBody st) (defScope st) .none kV doc pm an cdv ct), osl⟩)
    (c : PySem.W.codeIn K cdv x = true) (k : PySem.W.keepIn K (.ref f) = true)
    (b : ∀ (kV doc pm : Value) (an : Option Addr) (cdv ct : Value) (us : List Value), us.length = ps.length → bindArgs (PySem.W.fnOf x x (defArgs st) (defBody st) (defScope st) .none kV doc pm an cdv ct) ⟨us, []⟩ = pure (ps.zip us)) : Df K mg x st ps :=
  ⟨f, _, fun_mk l c k, PySem.W.mg_of X G a, (fun_mk l c k).binds b⟩
theorem one_mk {K : PySem.W.Frag} {h : Heap} {mg : Str → Option Value} {x : Str} {f : Addr} {od : Option Addr} {osl : Array (Option Value)} {t1 t2 : Tok} {n : Nat} (X : K.In h) (G : h.Ns mainGlobals mg)
    (a : PySem.W.nsIn K mainGlobals x = some (some (.ref f))) (l : K.lookup f = some ⟨.type "tuple", od, .seq #[.int 1 t1, .int 1 t2] n, osl⟩) : ∃ a, mg x = some (.ref a) ∧ ∀ H : Hp, SqT K H a [.int 1, .int 1] :=
  ⟨f, PySem.W.mg_of X G a, fun _ => .inr ⟨_, _, _, l, rfl, rfl, smallE (by simp), .cons ⟨_, rfl⟩ (.cons ⟨_, rfl⟩ .nil)⟩⟩
theorem all_mk {l : PySem.W.OpenLaw} {w : World} {K : PySem.W.Frag} {h : Heap} {mg : Str → Option Value} {fa : Addr} (X : K.In h) (G : h.Ns mainGlobals mg) (hfa : mg "law" = some (.ref fa))
    {f0 : Addr} {od0 an0 : Option Addr} {sl0 : Array (Option Value)} {oc0 kV0 dc0 pm0 cd0 ct0 : Value} (a0 : PySem.W.nsIn K mainGlobals "is_number" = some (some (.ref f0))) (l0 : K.lookup f0 = some ⟨oc0, od0, .func (PySem.W.fnOf "is_number" "is_number" (defArgs s_is_number) (defBody s_is_number) (defScope s_is_number) .none kV0 dc0 pm0 an0 cd0 ct0), sl0⟩) (c0 : PySem.W.codeIn K cd0 "is_number" = true) (k0 : PySem.W.keepIn K (.ref f0) = true)
    {f1 : Addr} {od1 an1 : Option Addr} {sl1 : Array (Option Value)} {oc1 kV1 dc1 pm1 cd1 ct1 : Value} (a1 : PySem.W.nsIn K mainGlobals "divisor_of" = some (some (.ref f1))) (l1 : K.lookup f1 = some ⟨oc1, od1, .func (PySem.W.fnOf "divisor_of" "divisor_of" (defArgs s_divisor_of) (defBody s_divisor_of) (defScope s_divisor_of) .none kV1 dc1 pm1 an1 cd1 ct1), sl1⟩) (c1 : PySem.W.codeIn K cd1 "divisor_of" = true) (k1 : PySem.W.keepIn K (.ref f1) = true)
    {f2 : Addr} {od2 an2 : Option Addr} {sl2 : Array (Option Value)} {oc2 kV2 dc2 pm2 cd2 ct2 : Value} (a2 : PySem.W.nsIn K mainGlobals "fraction" = some (some (.ref f2))) (l2 : K.lookup f2 = some ⟨oc2, od2, .func (PySem.W.fnOf "fraction" "fraction" (defArgs s_fraction) (defBody s_fraction) (defScope s_fraction) .none kV2 dc2 pm2 an2 cd2 ct2), sl2⟩) (c2 : PySem.W.codeIn K cd2 "fraction" = true) (k2 : PySem.W.keepIn K (.ref f2) = true)
    {f3 : Addr} {od3 an3 : Option Addr} {sl3 : Array (Option Value)} {oc3 kV3 dc3 pm3 cd3 ct3 : Value} (a3 : PySem.W.nsIn K mainGlobals "added" = some (some (.ref f3))) (l3 : K.lookup f3 = some ⟨oc3, od3, .func (PySem.W.fnOf "added" "added" (defArgs s_added) (defBody s_added) (defScope s_added) .none kV3 dc3 pm3 an3 cd3 ct3), sl3⟩) (c3 : PySem.W.codeIn K cd3 "added" = true) (k3 : PySem.W.keepIn K (.ref f3) = true)
    {f4 : Addr} {od4 an4 : Option Addr} {sl4 : Array (Option Value)} {oc4 kV4 dc4 pm4 cd4 ct4 : Value} (a4 : PySem.W.nsIn K mainGlobals "taken" = some (some (.ref f4))) (l4 : K.lookup f4 = some ⟨oc4, od4, .func (PySem.W.fnOf "taken" "taken" (defArgs s_taken) (defBody s_taken) (defScope s_taken) .none kV4 dc4 pm4 an4 cd4 ct4), sl4⟩) (c4 : PySem.W.codeIn K cd4 "taken" = true) (k4 : PySem.W.keepIn K (.ref f4) = true)
    {f5 : Addr} {od5 an5 : Option Addr} {sl5 : Array (Option Value)} {oc5 kV5 dc5 pm5 cd5 ct5 : Value} (a5 : PySem.W.nsIn K mainGlobals "times" = some (some (.ref f5))) (l5 : K.lookup f5 = some ⟨oc5, od5, .func (PySem.W.fnOf "times" "times" (defArgs s_times) (defBody s_times) (defScope s_times) .none kV5 dc5 pm5 an5 cd5 ct5), sl5⟩) (c5 : PySem.W.codeIn K cd5 "times" = true) (k5 : PySem.W.keepIn K (.ref f5) = true)
    {f6 : Addr} {od6 an6 : Option Addr} {sl6 : Array (Option Value)} {oc6 kV6 dc6 pm6 cd6 ct6 : Value} (a6 : PySem.W.nsIn K mainGlobals "over" = some (some (.ref f6))) (l6 : K.lookup f6 = some ⟨oc6, od6, .func (PySem.W.fnOf "over" "over" (defArgs s_over) (defBody s_over) (defScope s_over) .none kV6 dc6 pm6 an6 cd6 ct6), sl6⟩) (c6 : PySem.W.codeIn K cd6 "over" = true) (k6 : PySem.W.keepIn K (.ref f6) = true)
    {f7 : Addr} {od7 an7 : Option Addr} {sl7 : Array (Option Value)} {oc7 kV7 dc7 pm7 cd7 ct7 : Value} (a7 : PySem.W.nsIn K mainGlobals "compared" = some (some (.ref f7))) (l7 : K.lookup f7 = some ⟨oc7, od7, .func (PySem.W.fnOf "compared" "compared" (defArgs s_compared) (defBody s_compared) (defScope s_compared) .none kV7 dc7 pm7 an7 cd7 ct7), sl7⟩) (c7 : PySem.W.codeIn K cd7 "compared" = true) (k7 : PySem.W.keepIn K (.ref f7) = true)
    {f8 : Addr} {od8 an8 : Option Addr} {sl8 : Array (Option Value)} {oc8 kV8 dc8 pm8 cd8 ct8 : Value} (a8 : PySem.W.nsIn K mainGlobals "least" = some (some (.ref f8))) (l8 : K.lookup f8 = some ⟨oc8, od8, .func (PySem.W.fnOf "least" "least" (defArgs s_least) (defBody s_least) (defScope s_least) .none kV8 dc8 pm8 an8 cd8 ct8), sl8⟩) (c8 : PySem.W.codeIn K cd8 "least" = true) (k8 : PySem.W.keepIn K (.ref f8) = true)
    {f9 : Addr} {od9 an9 : Option Addr} {sl9 : Array (Option Value)} {oc9 kV9 dc9 pm9 cd9 ct9 : Value} (a9 : PySem.W.nsIn K mainGlobals "steps_of_tie" = some (some (.ref f9))) (l9 : K.lookup f9 = some ⟨oc9, od9, .func (PySem.W.fnOf "steps_of_tie" "steps_of_tie" (defArgs s_steps_of_tie) (defBody s_steps_of_tie) (defScope s_steps_of_tie) .none kV9 dc9 pm9 an9 cd9 ct9), sl9⟩) (c9 : PySem.W.codeIn K cd9 "steps_of_tie" = true) (k9 : PySem.W.keepIn K (.ref f9) = true)
    {f10 : Addr} {od10 an10 : Option Addr} {sl10 : Array (Option Value)} {oc10 kV10 dc10 pm10 cd10 ct10 : Value} (a10 : PySem.W.nsIn K mainGlobals "left_steps" = some (some (.ref f10))) (l10 : K.lookup f10 = some ⟨oc10, od10, .func (PySem.W.fnOf "left_steps" "left_steps" (defArgs s_left_steps) (defBody s_left_steps) (defScope s_left_steps) .none kV10 dc10 pm10 an10 cd10 ct10), sl10⟩) (c10 : PySem.W.codeIn K cd10 "left_steps" = true) (k10 : PySem.W.keepIn K (.ref f10) = true)
    {f11 : Addr} {od11 an11 : Option Addr} {sl11 : Array (Option Value)} {oc11 kV11 dc11 pm11 cd11 ct11 : Value} (a11 : PySem.W.nsIn K mainGlobals "grow_once" = some (some (.ref f11))) (l11 : K.lookup f11 = some ⟨oc11, od11, .func (PySem.W.fnOf "grow_once" "grow_once" (defArgs s_grow_once) (defBody s_grow_once) (defScope s_grow_once) .none kV11 dc11 pm11 an11 cd11 ct11), sl11⟩) (c11 : PySem.W.codeIn K cd11 "grow_once" = true) (k11 : PySem.W.keepIn K (.ref f11) = true)
    {f12 : Addr} {od12 an12 : Option Addr} {sl12 : Array (Option Value)} {oc12 kV12 dc12 pm12 cd12 ct12 : Value} (a12 : PySem.W.nsIn K mainGlobals "ring_among" = some (some (.ref f12))) (l12 : K.lookup f12 = some ⟨oc12, od12, .func (PySem.W.fnOf "ring_among" "ring_among" (defArgs s_ring_among) (defBody s_ring_among) (defScope s_ring_among) .none kV12 dc12 pm12 an12 cd12 ct12), sl12⟩) (c12 : PySem.W.codeIn K cd12 "ring_among" = true) (k12 : PySem.W.keepIn K (.ref f12) = true)
    {f13 : Addr} {od13 an13 : Option Addr} {sl13 : Array (Option Value)} {oc13 kV13 dc13 pm13 cd13 ct13 : Value} (a13 : PySem.W.nsIn K mainGlobals "worths_or_ring" = some (some (.ref f13))) (l13 : K.lookup f13 = some ⟨oc13, od13, .func (PySem.W.fnOf "worths_or_ring" "worths_or_ring" (defArgs s_worths_or_ring) (defBody s_worths_or_ring) (defScope s_worths_or_ring) .none kV13 dc13 pm13 an13 cd13 ct13), sl13⟩) (c13 : PySem.W.codeIn K cd13 "worths_or_ring" = true) (k13 : PySem.W.keepIn K (.ref f13) = true)
    {f14 : Addr} {od14 an14 : Option Addr} {sl14 : Array (Option Value)} {oc14 kV14 dc14 pm14 cd14 ct14 : Value} (a14 : PySem.W.nsIn K mainGlobals "steps_to" = some (some (.ref f14))) (l14 : K.lookup f14 = some ⟨oc14, od14, .func (PySem.W.fnOf "steps_to" "steps_to" (defArgs s_steps_to) (defBody s_steps_to) (defScope s_steps_to) .none kV14 dc14 pm14 an14 cd14 ct14), sl14⟩) (c14 : PySem.W.codeIn K cd14 "steps_to" = true) (k14 : PySem.W.keepIn K (.ref f14) = true)
    {f15 : Addr} {od15 an15 : Option Addr} {sl15 : Array (Option Value)} {oc15 kV15 dc15 pm15 cd15 ct15 : Value} (a15 : PySem.W.nsIn K mainGlobals "course_from" = some (some (.ref f15))) (l15 : K.lookup f15 = some ⟨oc15, od15, .func (PySem.W.fnOf "course_from" "course_from" (defArgs s_course_from) (defBody s_course_from) (defScope s_course_from) .none kV15 dc15 pm15 an15 cd15 ct15), sl15⟩) (c15 : PySem.W.codeIn K cd15 "course_from" = true) (k15 : PySem.W.keepIn K (.ref f15) = true)
    {f16 : Addr} {od16 an16 : Option Addr} {sl16 : Array (Option Value)} {oc16 kV16 dc16 pm16 cd16 ct16 : Value} (a16 : PySem.W.nsIn K mainGlobals "pairs_of" = some (some (.ref f16))) (l16 : K.lookup f16 = some ⟨oc16, od16, .func (PySem.W.fnOf "pairs_of" "pairs_of" (defArgs s_pairs_of) (defBody s_pairs_of) (defScope s_pairs_of) .none kV16 dc16 pm16 an16 cd16 ct16), sl16⟩) (c16 : PySem.W.codeIn K cd16 "pairs_of" = true) (k16 : PySem.W.keepIn K (.ref f16) = true)
    {f17 : Addr} {od17 an17 : Option Addr} {sl17 : Array (Option Value)} {oc17 kV17 dc17 pm17 cd17 ct17 : Value} (a17 : PySem.W.nsIn K mainGlobals "ring_bettering" = some (some (.ref f17))) (l17 : K.lookup f17 = some ⟨oc17, od17, .func (PySem.W.fnOf "ring_bettering" "ring_bettering" (defArgs s_ring_bettering) (defBody s_ring_bettering) (defScope s_ring_bettering) .none kV17 dc17 pm17 an17 cd17 ct17), sl17⟩) (c17 : PySem.W.codeIn K cd17 "ring_bettering" = true) (k17 : PySem.W.keepIn K (.ref f17) = true)
    {f18 : Addr} {od18 an18 : Option Addr} {sl18 : Array (Option Value)} {oc18 kV18 dc18 pm18 cd18 ct18 : Value} (a18 : PySem.W.nsIn K mainGlobals "bettering" = some (some (.ref f18))) (l18 : K.lookup f18 = some ⟨oc18, od18, .func (PySem.W.fnOf "bettering" "bettering" (defArgs s_bettering) (defBody s_bettering) (defScope s_bettering) .none kV18 dc18 pm18 an18 cd18 ct18), sl18⟩) (c18 : PySem.W.codeIn K cd18 "bettering" = true) (k18 : PySem.W.keepIn K (.ref f18) = true)
    {f19 : Addr} {od19 an19 : Option Addr} {sl19 : Array (Option Value)} {oc19 kV19 dc19 pm19 cd19 ct19 : Value} (a19 : PySem.W.nsIn K mainGlobals "is_pair" = some (some (.ref f19))) (l19 : K.lookup f19 = some ⟨oc19, od19, .func (PySem.W.fnOf "is_pair" "is_pair" (defArgs s_is_pair) (defBody s_is_pair) (defScope s_is_pair) .none kV19 dc19 pm19 an19 cd19 ct19), sl19⟩) (c19 : PySem.W.codeIn K cd19 "is_pair" = true) (k19 : PySem.W.keepIn K (.ref f19) = true)
    {f20 : Addr} {od20 an20 : Option Addr} {sl20 : Array (Option Value)} {oc20 kV20 dc20 pm20 cd20 ct20 : Value} (a20 : PySem.W.nsIn K mainGlobals "steps_told" = some (some (.ref f20))) (l20 : K.lookup f20 = some ⟨oc20, od20, .func (PySem.W.fnOf "steps_told" "steps_told" (defArgs s_steps_told) (defBody s_steps_told) (defScope s_steps_told) .none kV20 dc20 pm20 an20 cd20 ct20), sl20⟩) (c20 : PySem.W.codeIn K cd20 "steps_told" = true) (k20 : PySem.W.keepIn K (.ref f20) = true)
    {f21 : Addr} {od21 an21 : Option Addr} {sl21 : Array (Option Value)} {oc21 kV21 dc21 pm21 cd21 ct21 : Value} (a21 : PySem.W.nsIn K mainGlobals "is_course" = some (some (.ref f21))) (l21 : K.lookup f21 = some ⟨oc21, od21, .func (PySem.W.fnOf "is_course" "is_course" (defArgs s_is_course) (defBody s_is_course) (defScope s_is_course) .none kV21 dc21 pm21 an21 cd21 ct21), sl21⟩) (c21 : PySem.W.codeIn K cd21 "is_course" = true) (k21 : PySem.W.keepIn K (.ref f21) = true)
    {f22 : Addr} {od22 an22 : Option Addr} {sl22 : Array (Option Value)} {oc22 kV22 dc22 pm22 cd22 ct22 : Value} (a22 : PySem.W.nsIn K mainGlobals "gain_along" = some (some (.ref f22))) (l22 : K.lookup f22 = some ⟨oc22, od22, .func (PySem.W.fnOf "gain_along" "gain_along" (defArgs s_gain_along) (defBody s_gain_along) (defScope s_gain_along) .none kV22 dc22 pm22 an22 cd22 ct22), sl22⟩) (c22 : PySem.W.codeIn K cd22 "gain_along" = true) (k22 : PySem.W.keepIn K (.ref f22) = true)
    {f23 : Addr} {od23 an23 : Option Addr} {sl23 : Array (Option Value)} {oc23 kV23 dc23 pm23 cd23 ct23 : Value} (a23 : PySem.W.nsIn K mainGlobals "is_ring" = some (some (.ref f23))) (l23 : K.lookup f23 = some ⟨oc23, od23, .func (PySem.W.fnOf "is_ring" "is_ring" (defArgs s_is_ring) (defBody s_is_ring) (defScope s_is_ring) .none kV23 dc23 pm23 an23 cd23 ct23), sl23⟩) (c23 : PySem.W.codeIn K cd23 "is_ring" = true) (k23 : PySem.W.keepIn K (.ref f23) = true)
    {f24 : Addr} {od24 an24 : Option Addr} {sl24 : Array (Option Value)} {oc24 kV24 dc24 pm24 cd24 ct24 : Value} (a24 : PySem.W.nsIn K mainGlobals "shows_ring" = some (some (.ref f24))) (l24 : K.lookup f24 = some ⟨oc24, od24, .func (PySem.W.fnOf "shows_ring" "shows_ring" (defArgs s_shows_ring) (defBody s_shows_ring) (defScope s_shows_ring) .none kV24 dc24 pm24 an24 cd24 ct24), sl24⟩) (c24 : PySem.W.codeIn K cd24 "shows_ring" = true) (k24 : PySem.W.keepIn K (.ref f24) = true)
    {f25 : Addr} {od25 an25 : Option Addr} {sl25 : Array (Option Value)} {oc25 kV25 dc25 pm25 cd25 ct25 : Value} (a25 : PySem.W.nsIn K mainGlobals "shows_bettering" = some (some (.ref f25))) (l25 : K.lookup f25 = some ⟨oc25, od25, .func (PySem.W.fnOf "shows_bettering" "shows_bettering" (defArgs s_shows_bettering) (defBody s_shows_bettering) (defScope s_shows_bettering) .none kV25 dc25 pm25 an25 cd25 ct25), sl25⟩) (c25 : PySem.W.codeIn K cd25 "shows_bettering" = true) (k25 : PySem.W.keepIn K (.ref f25) = true)
    {f26 : Addr} {od26 an26 : Option Addr} {sl26 : Array (Option Value)} {oc26 kV26 dc26 pm26 cd26 ct26 : Value} (a26 : PySem.W.nsIn K mainGlobals "parts_along" = some (some (.ref f26))) (l26 : K.lookup f26 = some ⟨oc26, od26, .func (PySem.W.fnOf "parts_along" "parts_along" (defArgs s_parts_along) (defBody s_parts_along) (defScope s_parts_along) .none kV26 dc26 pm26 an26 cd26 ct26), sl26⟩) (c26 : PySem.W.codeIn K cd26 "parts_along" = true) (k26 : PySem.W.keepIn K (.ref f26) = true)
    {f27 : Addr} {od27 an27 : Option Addr} {sl27 : Array (Option Value)} {oc27 kV27 dc27 pm27 cd27 ct27 : Value} (a27 : PySem.W.nsIn K mainGlobals "parts_of" = some (some (.ref f27))) (l27 : K.lookup f27 = some ⟨oc27, od27, .func (PySem.W.fnOf "parts_of" "parts_of" (defArgs s_parts_of) (defBody s_parts_of) (defScope s_parts_of) .none kV27 dc27 pm27 an27 cd27 ct27), sl27⟩) (c27 : PySem.W.codeIn K cd27 "parts_of" = true) (k27 : PySem.W.keepIn K (.ref f27) = true)
    {f28 : Addr} {od28 an28 : Option Addr} {sl28 : Array (Option Value)} {oc28 kV28 dc28 pm28 cd28 ct28 : Value} (a28 : PySem.W.nsIn K mainGlobals "bettered" = some (some (.ref f28))) (l28 : K.lookup f28 = some ⟨oc28, od28, .func (PySem.W.fnOf "bettered" "bettered" (defArgs s_bettered) (defBody s_bettered) (defScope s_bettered) .none kV28 dc28 pm28 an28 cd28 ct28), sl28⟩) (c28 : PySem.W.codeIn K cd28 "bettered" = true) (k28 : PySem.W.keepIn K (.ref f28) = true)
    {f29 : Addr} {od29 an29 : Option Addr} {sl29 : Array (Option Value)} {oc29 kV29 dc29 pm29 cd29 ct29 : Value} (a29 : PySem.W.nsIn K mainGlobals "_law_box" = some (some (.ref f29))) (l29 : K.lookup f29 = some ⟨oc29, od29, .func (PySem.W.fnOf "_law_box" "_law_box" (defArgs s__law_box) (defBody s__law_box) (defScope s__law_box) .none kV29 dc29 pm29 an29 cd29 ct29), sl29⟩) (c29 : PySem.W.codeIn K cd29 "_law_box" = true) (k29 : PySem.W.keepIn K (.ref f29) = true)
    {f30 : Addr} {od30 an30 : Option Addr} {sl30 : Array (Option Value)} {oc30 kV30 dc30 pm30 cd30 ct30 : Value} (a30 : PySem.W.nsIn K mainGlobals "_law_take" = some (some (.ref f30))) (l30 : K.lookup f30 = some ⟨oc30, od30, .func (PySem.W.fnOf "_law_take" "_law_take" (defArgs s__law_take) (defBody s__law_take) (defScope s__law_take) .none kV30 dc30 pm30 an30 cd30 ct30), sl30⟩) (c30 : PySem.W.codeIn K cd30 "_law_take" = true) (k30 : PySem.W.keepIn K (.ref f30) = true)
    {f31 : Addr} {od31 an31 : Option Addr} {sl31 : Array (Option Value)} {oc31 kV31 dc31 pm31 cd31 ct31 : Value} (a31 : PySem.W.nsIn K mainGlobals "_law_folded" = some (some (.ref f31))) (l31 : K.lookup f31 = some ⟨oc31, od31, .func (PySem.W.fnOf "_law_folded" "_law_folded" (defArgs s__law_folded) (defBody s__law_folded) (defScope s__law_folded) .none kV31 dc31 pm31 an31 cd31 ct31), sl31⟩) (c31 : PySem.W.codeIn K cd31 "_law_folded" = true) (k31 : PySem.W.keepIn K (.ref f31) = true)
    {f32 : Addr} {od32 an32 : Option Addr} {sl32 : Array (Option Value)} {oc32 kV32 dc32 pm32 cd32 ct32 : Value} (a32 : PySem.W.nsIn K mainGlobals "_law_frac" = some (some (.ref f32))) (l32 : K.lookup f32 = some ⟨oc32, od32, .func (PySem.W.fnOf "_law_frac" "_law_frac" (defArgs s__law_frac) (defBody s__law_frac) (defScope s__law_frac) .none kV32 dc32 pm32 an32 cd32 ct32), sl32⟩) (c32 : PySem.W.codeIn K cd32 "_law_frac" = true) (k32 : PySem.W.keepIn K (.ref f32) = true)
    {f33 : Addr} {od33 an33 : Option Addr} {sl33 : Array (Option Value)} {oc33 kV33 dc33 pm33 cd33 ct33 : Value} (a33 : PySem.W.nsIn K mainGlobals "_law_sum" = some (some (.ref f33))) (l33 : K.lookup f33 = some ⟨oc33, od33, .func (PySem.W.fnOf "_law_sum" "_law_sum" (defArgs s__law_sum) (defBody s__law_sum) (defScope s__law_sum) .none kV33 dc33 pm33 an33 cd33 ct33), sl33⟩) (c33 : PySem.W.codeIn K cd33 "_law_sum" = true) (k33 : PySem.W.keepIn K (.ref f33) = true)
    {f34 : Addr} {od34 an34 : Option Addr} {sl34 : Array (Option Value)} {oc34 kV34 dc34 pm34 cd34 ct34 : Value} (a34 : PySem.W.nsIn K mainGlobals "_law_product" = some (some (.ref f34))) (l34 : K.lookup f34 = some ⟨oc34, od34, .func (PySem.W.fnOf "_law_product" "_law_product" (defArgs s__law_product) (defBody s__law_product) (defScope s__law_product) .none kV34 dc34 pm34 an34 cd34 ct34), sl34⟩) (c34 : PySem.W.codeIn K cd34 "_law_product" = true) (k34 : PySem.W.keepIn K (.ref f34) = true)
    {f35 : Addr} {od35 an35 : Option Addr} {sl35 : Array (Option Value)} {oc35 kV35 dc35 pm35 cd35 ct35 : Value} (a35 : PySem.W.nsIn K mainGlobals "_law_minus" = some (some (.ref f35))) (l35 : K.lookup f35 = some ⟨oc35, od35, .func (PySem.W.fnOf "_law_minus" "_law_minus" (defArgs s__law_minus) (defBody s__law_minus) (defScope s__law_minus) .none kV35 dc35 pm35 an35 cd35 ct35), sl35⟩) (c35 : PySem.W.codeIn K cd35 "_law_minus" = true) (k35 : PySem.W.keepIn K (.ref f35) = true)
    {f36 : Addr} {od36 an36 : Option Addr} {sl36 : Array (Option Value)} {oc36 kV36 dc36 pm36 cd36 ct36 : Value} (a36 : PySem.W.nsIn K mainGlobals "_law_over" = some (some (.ref f36))) (l36 : K.lookup f36 = some ⟨oc36, od36, .func (PySem.W.fnOf "_law_over" "_law_over" (defArgs s__law_over) (defBody s__law_over) (defScope s__law_over) .none kV36 dc36 pm36 an36 cd36 ct36), sl36⟩) (c36 : PySem.W.codeIn K cd36 "_law_over" = true) (k36 : PySem.W.keepIn K (.ref f36) = true)
    {f37 : Addr} {od37 an37 : Option Addr} {sl37 : Array (Option Value)} {oc37 kV37 dc37 pm37 cd37 ct37 : Value} (a37 : PySem.W.nsIn K mainGlobals "_law_above" = some (some (.ref f37))) (l37 : K.lookup f37 = some ⟨oc37, od37, .func (PySem.W.fnOf "_law_above" "_law_above" (defArgs s__law_above) (defBody s__law_above) (defScope s__law_above) .none kV37 dc37 pm37 an37 cd37 ct37), sl37⟩) (c37 : PySem.W.codeIn K cd37 "_law_above" = true) (k37 : PySem.W.keepIn K (.ref f37) = true)
    {f38 : Addr} {od38 an38 : Option Addr} {sl38 : Array (Option Value)} {oc38 kV38 dc38 pm38 cd38 ct38 : Value} (a38 : PySem.W.nsIn K mainGlobals "_law_names_by" = some (some (.ref f38))) (l38 : K.lookup f38 = some ⟨oc38, od38, .func (PySem.W.fnOf "_law_names_by" "_law_names_by" (defArgs s__law_names_by) (defBody s__law_names_by) (defScope s__law_names_by) .none kV38 dc38 pm38 an38 cd38 ct38), sl38⟩) (c38 : PySem.W.codeIn K cd38 "_law_names_by" = true) (k38 : PySem.W.keepIn K (.ref f38) = true)
    {f39 : Addr} {od39 an39 : Option Addr} {sl39 : Array (Option Value)} {oc39 kV39 dc39 pm39 cd39 ct39 : Value} (a39 : PySem.W.nsIn K mainGlobals "_law_any_gain" = some (some (.ref f39))) (l39 : K.lookup f39 = some ⟨oc39, od39, .func (PySem.W.fnOf "_law_any_gain" "_law_any_gain" (defArgs s__law_any_gain) (defBody s__law_any_gain) (defScope s__law_any_gain) .none kV39 dc39 pm39 an39 cd39 ct39), sl39⟩) (c39 : PySem.W.codeIn K cd39 "_law_any_gain" = true) (k39 : PySem.W.keepIn K (.ref f39) = true)
    {f40 : Addr} {od40 an40 : Option Addr} {sl40 : Array (Option Value)} {oc40 kV40 dc40 pm40 cd40 ct40 : Value} (a40 : PySem.W.nsIn K mainGlobals "_law_any_much" = some (some (.ref f40))) (l40 : K.lookup f40 = some ⟨oc40, od40, .func (PySem.W.fnOf "_law_any_much" "_law_any_much" (defArgs s__law_any_much) (defBody s__law_any_much) (defScope s__law_any_much) .none kV40 dc40 pm40 an40 cd40 ct40), sl40⟩) (c40 : PySem.W.codeIn K cd40 "_law_any_much" = true) (k40 : PySem.W.keepIn K (.ref f40) = true)
    {f41 : Addr} {od41 an41 : Option Addr} {sl41 : Array (Option Value)} {oc41 kV41 dc41 pm41 cd41 ct41 : Value} (a41 : PySem.W.nsIn K mainGlobals "_law_any_price" = some (some (.ref f41))) (l41 : K.lookup f41 = some ⟨oc41, od41, .func (PySem.W.fnOf "_law_any_price" "_law_any_price" (defArgs s__law_any_price) (defBody s__law_any_price) (defScope s__law_any_price) .none kV41 dc41 pm41 an41 cd41 ct41), sl41⟩) (c41 : PySem.W.codeIn K cd41 "_law_any_price" = true) (k41 : PySem.W.keepIn K (.ref f41) = true)
    {f42 : Addr} {od42 an42 : Option Addr} {sl42 : Array (Option Value)} {oc42 kV42 dc42 pm42 cd42 ct42 : Value} (a42 : PySem.W.nsIn K mainGlobals "_law_planted" = some (some (.ref f42))) (l42 : K.lookup f42 = some ⟨oc42, od42, .func (PySem.W.fnOf "_law_planted" "_law_planted" (defArgs s__law_planted) (defBody s__law_planted) (defScope s__law_planted) .none kV42 dc42 pm42 an42 cd42 ct42), sl42⟩) (c42 : PySem.W.codeIn K cd42 "_law_planted" = true) (k42 : PySem.W.keepIn K (.ref f42) = true)
    {f43 : Addr} {od43 an43 : Option Addr} {sl43 : Array (Option Value)} {oc43 kV43 dc43 pm43 cd43 ct43 : Value} (a43 : PySem.W.nsIn K mainGlobals "_law_net_by" = some (some (.ref f43))) (l43 : K.lookup f43 = some ⟨oc43, od43, .func (PySem.W.fnOf "_law_net_by" "_law_net_by" (defArgs s__law_net_by) (defBody s__law_net_by) (defScope s__law_net_by) .none kV43 dc43 pm43 an43 cd43 ct43), sl43⟩) (c43 : PySem.W.codeIn K cd43 "_law_net_by" = true) (k43 : PySem.W.keepIn K (.ref f43) = true)
    {f44 : Addr} {od44 an44 : Option Addr} {sl44 : Array (Option Value)} {oc44 kV44 dc44 pm44 cd44 ct44 : Value} (a44 : PySem.W.nsIn K mainGlobals "_law_steps_of" = some (some (.ref f44))) (l44 : K.lookup f44 = some ⟨oc44, od44, .func (PySem.W.fnOf "_law_steps_of" "_law_steps_of" (defArgs s__law_steps_of) (defBody s__law_steps_of) (defScope s__law_steps_of) .none kV44 dc44 pm44 an44 cd44 ct44), sl44⟩) (c44 : PySem.W.codeIn K cd44 "_law_steps_of" = true) (k44 : PySem.W.keepIn K (.ref f44) = true)
    {f45 : Addr} {od45 an45 : Option Addr} {sl45 : Array (Option Value)} {oc45 kV45 dc45 pm45 cd45 ct45 : Value} (a45 : PySem.W.nsIn K mainGlobals "_law_course_by" = some (some (.ref f45))) (l45 : K.lookup f45 = some ⟨oc45, od45, .func (PySem.W.fnOf "_law_course_by" "_law_course_by" (defArgs s__law_course_by) (defBody s__law_course_by) (defScope s__law_course_by) .none kV45 dc45 pm45 an45 cd45 ct45), sl45⟩) (c45 : PySem.W.codeIn K cd45 "_law_course_by" = true) (k45 : PySem.W.keepIn K (.ref f45) = true)
    {f46 : Addr} {od46 an46 : Option Addr} {sl46 : Array (Option Value)} {oc46 kV46 dc46 pm46 cd46 ct46 : Value} (a46 : PySem.W.nsIn K mainGlobals "_law_parts_on" = some (some (.ref f46))) (l46 : K.lookup f46 = some ⟨oc46, od46, .func (PySem.W.fnOf "_law_parts_on" "_law_parts_on" (defArgs s__law_parts_on) (defBody s__law_parts_on) (defScope s__law_parts_on) .none kV46 dc46 pm46 an46 cd46 ct46), sl46⟩) (c46 : PySem.W.codeIn K cd46 "_law_parts_on" = true) (k46 : PySem.W.keepIn K (.ref f46) = true)
    {f47 : Addr} {od47 an47 : Option Addr} {sl47 : Array (Option Value)} {oc47 kV47 dc47 pm47 cd47 ct47 : Value} (a47 : PySem.W.nsIn K mainGlobals "_law_put" = some (some (.ref f47))) (l47 : K.lookup f47 = some ⟨oc47, od47, .func (PySem.W.fnOf "_law_put" "_law_put" (defArgs s__law_put) (defBody s__law_put) (defScope s__law_put) .none kV47 dc47 pm47 an47 cd47 ct47), sl47⟩) (c47 : PySem.W.codeIn K cd47 "_law_put" = true) (k47 : PySem.W.keepIn K (.ref f47) = true)
    {f48 : Addr} {od48 an48 : Option Addr} {sl48 : Array (Option Value)} {oc48 kV48 dc48 pm48 cd48 ct48 : Value} (a48 : PySem.W.nsIn K mainGlobals "_law_much_along" = some (some (.ref f48))) (l48 : K.lookup f48 = some ⟨oc48, od48, .func (PySem.W.fnOf "_law_much_along" "_law_much_along" (defArgs s__law_much_along) (defBody s__law_much_along) (defScope s__law_much_along) .none kV48 dc48 pm48 an48 cd48 ct48), sl48⟩) (c48 : PySem.W.codeIn K cd48 "_law_much_along" = true) (k48 : PySem.W.keepIn K (.ref f48) = true)
    {f49 : Addr} {od49 an49 : Option Addr} {sl49 : Array (Option Value)} {oc49 kV49 dc49 pm49 cd49 ct49 : Value} (a49 : PySem.W.nsIn K mainGlobals "_law_left_at" = some (some (.ref f49))) (l49 : K.lookup f49 = some ⟨oc49, od49, .func (PySem.W.fnOf "_law_left_at" "_law_left_at" (defArgs s__law_left_at) (defBody s__law_left_at) (defScope s__law_left_at) .none kV49 dc49 pm49 an49 cd49 ct49), sl49⟩) (c49 : PySem.W.codeIn K cd49 "_law_left_at" = true) (k49 : PySem.W.keepIn K (.ref f49) = true)
    {f50 : Addr} {od50 an50 : Option Addr} {sl50 : Array (Option Value)} {oc50 kV50 dc50 pm50 cd50 ct50 : Value} (a50 : PySem.W.nsIn K mainGlobals "_law_keeps" = some (some (.ref f50))) (l50 : K.lookup f50 = some ⟨oc50, od50, .func (PySem.W.fnOf "_law_keeps" "_law_keeps" (defArgs s__law_keeps) (defBody s__law_keeps) (defScope s__law_keeps) .none kV50 dc50 pm50 an50 cd50 ct50), sl50⟩) (c50 : PySem.W.codeIn K cd50 "_law_keeps" = true) (k50 : PySem.W.keepIn K (.ref f50) = true)
    {f51 : Addr} {od51 an51 : Option Addr} {sl51 : Array (Option Value)} {oc51 kV51 dc51 pm51 cd51 ct51 : Value} (a51 : PySem.W.nsIn K mainGlobals "_law_stream_by" = some (some (.ref f51))) (l51 : K.lookup f51 = some ⟨oc51, od51, .func (PySem.W.fnOf "_law_stream_by" "_law_stream_by" (defArgs s__law_stream_by) (defBody s__law_stream_by) (defScope s__law_stream_by) .none kV51 dc51 pm51 an51 cd51 ct51), sl51⟩) (c51 : PySem.W.codeIn K cd51 "_law_stream_by" = true) (k51 : PySem.W.keepIn K (.ref f51) = true)
    {f52 : Addr} {od52 an52 : Option Addr} {sl52 : Array (Option Value)} {oc52 kV52 dc52 pm52 cd52 ct52 : Value} (a52 : PySem.W.nsIn K mainGlobals "_law_ends_by" = some (some (.ref f52))) (l52 : K.lookup f52 = some ⟨oc52, od52, .func (PySem.W.fnOf "_law_ends_by" "_law_ends_by" (defArgs s__law_ends_by) (defBody s__law_ends_by) (defScope s__law_ends_by) .none kV52 dc52 pm52 an52 cd52 ct52), sl52⟩) (c52 : PySem.W.codeIn K cd52 "_law_ends_by" = true) (k52 : PySem.W.keepIn K (.ref f52) = true)
    {f53 : Addr} {od53 an53 : Option Addr} {sl53 : Array (Option Value)} {oc53 kV53 dc53 pm53 cd53 ct53 : Value} (a53 : PySem.W.nsIn K mainGlobals "_law_told_steps" = some (some (.ref f53))) (l53 : K.lookup f53 = some ⟨oc53, od53, .func (PySem.W.fnOf "_law_told_steps" "_law_told_steps" (defArgs s__law_told_steps) (defBody s__law_told_steps) (defScope s__law_told_steps) .none kV53 dc53 pm53 an53 cd53 ct53), sl53⟩) (c53 : PySem.W.codeIn K cd53 "_law_told_steps" = true) (k53 : PySem.W.keepIn K (.ref f53) = true)
    {f54 : Addr} {od54 an54 : Option Addr} {sl54 : Array (Option Value)} {oc54 kV54 dc54 pm54 cd54 ct54 : Value} (a54 : PySem.W.nsIn K mainGlobals "_law_is_course" = some (some (.ref f54))) (l54 : K.lookup f54 = some ⟨oc54, od54, .func (PySem.W.fnOf "_law_is_course" "_law_is_course" (defArgs s__law_is_course) (defBody s__law_is_course) (defScope s__law_is_course) .none kV54 dc54 pm54 an54 cd54 ct54), sl54⟩) (c54 : PySem.W.codeIn K cd54 "_law_is_course" = true) (k54 : PySem.W.keepIn K (.ref f54) = true)
    {f55 : Addr} {od55 an55 : Option Addr} {sl55 : Array (Option Value)} {oc55 kV55 dc55 pm55 cd55 ct55 : Value} (a55 : PySem.W.nsIn K mainGlobals "_law_shown" = some (some (.ref f55))) (l55 : K.lookup f55 = some ⟨oc55, od55, .func (PySem.W.fnOf "_law_shown" "_law_shown" (defArgs s__law_shown) (defBody s__law_shown) (defScope s__law_shown) .none kV55 dc55 pm55 an55 cd55 ct55), sl55⟩) (c55 : PySem.W.codeIn K cd55 "_law_shown" = true) (k55 : PySem.W.keepIn K (.ref f55) = true)
    {f56 : Addr} {od56 an56 : Option Addr} {sl56 : Array (Option Value)} {oc56 kV56 dc56 pm56 cd56 ct56 : Value} (a56 : PySem.W.nsIn K mainGlobals "_law_worths_of" = some (some (.ref f56))) (l56 : K.lookup f56 = some ⟨oc56, od56, .func (PySem.W.fnOf "_law_worths_of" "_law_worths_of" (defArgs s__law_worths_of) (defBody s__law_worths_of) (defScope s__law_worths_of) .none kV56 dc56 pm56 an56 cd56 ct56), sl56⟩) (c56 : PySem.W.codeIn K cd56 "_law_worths_of" = true) (k56 : PySem.W.keepIn K (.ref f56) = true)
    {f57 : Addr} {od57 an57 : Option Addr} {sl57 : Array (Option Value)} {oc57 kV57 dc57 pm57 cd57 ct57 : Value} (a57 : PySem.W.nsIn K mainGlobals "_law_none_more" = some (some (.ref f57))) (l57 : K.lookup f57 = some ⟨oc57, od57, .func (PySem.W.fnOf "_law_none_more" "_law_none_more" (defArgs s__law_none_more) (defBody s__law_none_more) (defScope s__law_none_more) .none kV57 dc57 pm57 an57 cd57 ct57), sl57⟩) (c57 : PySem.W.codeIn K cd57 "_law_none_more" = true) (k57 : PySem.W.keepIn K (.ref f57) = true)
    {f58 : Addr} {od58 an58 : Option Addr} {sl58 : Array (Option Value)} {oc58 kV58 dc58 pm58 cd58 ct58 : Value} (a58 : PySem.W.nsIn K mainGlobals "_law_right" = some (some (.ref f58))) (l58 : K.lookup f58 = some ⟨oc58, od58, .func (PySem.W.fnOf "_law_right" "_law_right" (defArgs s__law_right) (defBody s__law_right) (defScope s__law_right) .none kV58 dc58 pm58 an58 cd58 ct58), sl58⟩) (c58 : PySem.W.codeIn K cd58 "_law_right" = true) (k58 : PySem.W.keepIn K (.ref f58) = true)
    {f59 : Addr} {od59 an59 : Option Addr} {sl59 : Array (Option Value)} {oc59 kV59 dc59 pm59 cd59 ct59 : Value} (a59 : PySem.W.nsIn K mainGlobals "law" = some (some (.ref f59))) (l59 : K.lookup f59 = some ⟨oc59, od59, .func (PySem.W.fnOf "law" "law" (defArgs s_law) (defBody s_law) (defScope s_law) .none kV59 dc59 pm59 an59 cd59 ct59), sl59⟩) (c59 : PySem.W.codeIn K cd59 "law" = true) (k59 : PySem.W.keepIn K (.ref f59) = true)
    (n_isinstance : PySem.W.nsIn K mainGlobals "isinstance" = some none)
    (n_bool : PySem.W.nsIn K mainGlobals "bool" = some none)
    (n_int : PySem.W.nsIn K mainGlobals "int" = some none)
    (n_abs : PySem.W.nsIn K mainGlobals "abs" = some none)
    (n_enumerate : PySem.W.nsIn K mainGlobals "enumerate" = some none)
    (n_len : PySem.W.nsIn K mainGlobals "len" = some none)
    (n_dict : PySem.W.nsIn K mainGlobals "dict" = some none)
    (n_list : PySem.W.nsIn K mainGlobals "list" = some none)
    (n_min : PySem.W.nsIn K mainGlobals "min" = some none)
    (n_tuple : PySem.W.nsIn K mainGlobals "tuple" = some none)
    (n_any : PySem.W.nsIn K mainGlobals "any" = some none)
    (n_zip : PySem.W.nsIn K mainGlobals "zip" = some none)
    (n_all : PySem.W.nsIn K mainGlobals "all" = some none)
    (n_set : PySem.W.nsIn K mainGlobals "set" = some none)
    (n_str : PySem.W.nsIn K mainGlobals "str" = some none)
    (n_divmod : PySem.W.nsIn K mainGlobals "divmod" = some none)
    (n_range : PySem.W.nsIn K mainGlobals "range" = some none)
    (n_max : PySem.W.nsIn K mainGlobals "max" = some none)
    {fo_ONE_fractions : Addr} {odo_ONE_fractions : Option Addr} {slo_ONE_fractions : Array (Option Value)} {to_ONE_fractions uo_ONE_fractions : Tok} {no_ONE_fractions : Nat} (ao_ONE_fractions : PySem.W.nsIn K mainGlobals "ONE_fractions" = some (some (.ref fo_ONE_fractions))) (lo_ONE_fractions : K.lookup fo_ONE_fractions = some ⟨.type "tuple", odo_ONE_fractions, .seq #[.int 1 to_ONE_fractions, .int 1 uo_ONE_fractions] no_ONE_fractions, slo_ONE_fractions⟩)
    {fo_ONE_rounds : Addr} {odo_ONE_rounds : Option Addr} {slo_ONE_rounds : Array (Option Value)} {to_ONE_rounds uo_ONE_rounds : Tok} {no_ONE_rounds : Nat} (ao_ONE_rounds : PySem.W.nsIn K mainGlobals "ONE_rounds" = some (some (.ref fo_ONE_rounds))) (lo_ONE_rounds : K.lookup fo_ONE_rounds = some ⟨.type "tuple", odo_ONE_rounds, .seq #[.int 1 to_ONE_rounds, .int 1 uo_ONE_rounds] no_ONE_rounds, slo_ONE_rounds⟩)
    {tc_BEGINS : Tok} (ac_BEGINS : PySem.W.nsIn K mainGlobals "BEGINS" = some (some (.int 2 tc_BEGINS)))
    {tc_ENDS : Tok} (ac_ENDS : PySem.W.nsIn K mainGlobals "ENDS" = some (some (.int 3 tc_ENDS)))
    {tc_RING : Tok} (ac_RING : PySem.W.nsIn K mainGlobals "RING" = some (some (.str "ring" tc_RING)))
    {tc_GAINS : Tok} (ac_GAINS : PySem.W.nsIn K mainGlobals "GAINS" = some (some (.int 5 tc_GAINS)))
    {tc_WAY : Tok} (ac_WAY : PySem.W.nsIn K mainGlobals "WAY" = some (some (.str "way" tc_WAY)))
    {tc_ROOM : Tok} (ac_ROOM : PySem.W.nsIn K mainGlobals "ROOM" = some (some (.int 4 tc_ROOM)))
    : ∃ fd : FuncData, (∀ (s : Shared) (v : Value), BindsTo s fd ⟨[v], []⟩ [("_law_script", v)]) ∧ ∀ base : Heap, K.In base → base.Ns mainGlobals mg → FnOk l.prog w K mg base CX0 9 fa fd ["_law_script"] (spLaw K) := by
  have e := hfa.symm.trans (PySem.W.mg_of X G a59)
  cases e
  have T : Txt K mg := {
    d_is_number := df_mk X G a0 l0 c0 k0 fun _ _ _ _ _ _ us hl => match us, hl with | [_], _ => rfl
    d_divisor_of := df_mk X G a1 l1 c1 k1 fun _ _ _ _ _ _ us hl => match us, hl with | [_, _], _ => rfl
    d_fraction := df_mk X G a2 l2 c2 k2 fun _ _ _ _ _ _ us hl => match us, hl with | [_, _], _ => rfl
    d_added := df_mk X G a3 l3 c3 k3 fun _ _ _ _ _ _ us hl => match us, hl with | [_, _], _ => rfl
    d_taken := df_mk X G a4 l4 c4 k4 fun _ _ _ _ _ _ us hl => match us, hl with | [_, _], _ => rfl
    d_times := df_mk X G a5 l5 c5 k5 fun _ _ _ _ _ _ us hl => match us, hl with | [_, _], _ => rfl
    d_over := df_mk X G a6 l6 c6 k6 fun _ _ _ _ _ _ us hl => match us, hl with | [_, _], _ => rfl
    d_compared := df_mk X G a7 l7 c7 k7 fun _ _ _ _ _ _ us hl => match us, hl with | [_, _], _ => rfl
    d_least := df_mk X G a8 l8 c8 k8 fun _ _ _ _ _ _ us hl => match us, hl with | [_], _ => rfl
    d_steps_of_tie := df_mk X G a9 l9 c9 k9 fun _ _ _ _ _ _ us hl => match us, hl with | [_, _, _], _ => rfl
    d_left_steps := df_mk X G a10 l10 c10 k10 fun _ _ _ _ _ _ us hl => match us, hl with | [_, _], _ => rfl
    d_grow_once := df_mk X G a11 l11 c11 k11 fun _ _ _ _ _ _ us hl => match us, hl with | [_, _, _], _ => rfl
    d_ring_among := df_mk X G a12 l12 c12 k12 fun _ _ _ _ _ _ us hl => match us, hl with | [_, _, _], _ => rfl
    d_worths_or_ring := df_mk X G a13 l13 c13 k13 fun _ _ _ _ _ _ us hl => match us, hl with | [_, _], _ => rfl
    d_steps_to := df_mk X G a14 l14 c14 k14 fun _ _ _ _ _ _ us hl => match us, hl with | [_, _], _ => rfl
    d_course_from := df_mk X G a15 l15 c15 k15 fun _ _ _ _ _ _ us hl => match us, hl with | [_, _], _ => rfl
    d_pairs_of := df_mk X G a16 l16 c16 k16 fun _ _ _ _ _ _ us hl => match us, hl with | [_], _ => rfl
    d_ring_bettering := df_mk X G a17 l17 c17 k17 fun _ _ _ _ _ _ us hl => match us, hl with | [_, _, _, _], _ => rfl
    d_bettering := df_mk X G a18 l18 c18 k18 fun _ _ _ _ _ _ us hl => match us, hl with | [_, _, _, _], _ => rfl
    d_is_pair := df_mk X G a19 l19 c19 k19 fun _ _ _ _ _ _ us hl => match us, hl with | [_], _ => rfl
    d_steps_told := df_mk X G a20 l20 c20 k20 fun _ _ _ _ _ _ us hl => match us, hl with | [_, _], _ => rfl
    d_is_course := df_mk X G a21 l21 c21 k21 fun _ _ _ _ _ _ us hl => match us, hl with | [_, _, _], _ => rfl
    d_gain_along := df_mk X G a22 l22 c22 k22 fun _ _ _ _ _ _ us hl => match us, hl with | [_], _ => rfl
    d_is_ring := df_mk X G a23 l23 c23 k23 fun _ _ _ _ _ _ us hl => match us, hl with | [_], _ => rfl
    d_shows_ring := df_mk X G a24 l24 c24 k24 fun _ _ _ _ _ _ us hl => match us, hl with | [_, _, _, _], _ => rfl
    d_shows_bettering := df_mk X G a25 l25 c25 k25 fun _ _ _ _ _ _ us hl => match us, hl with | [_, _, _, _, _], _ => rfl
    d_parts_along := df_mk X G a26 l26 c26 k26 fun _ _ _ _ _ _ us hl => match us, hl with | [_, _], _ => rfl
    d_parts_of := df_mk X G a27 l27 c27 k27 fun _ _ _ _ _ _ us hl => match us, hl with | [_, _], _ => rfl
    d_bettered := df_mk X G a28 l28 c28 k28 fun _ _ _ _ _ _ us hl => match us, hl with | [_, _, _, _, _], _ => rfl
    d__law_box := df_mk X G a29 l29 c29 k29 fun _ _ _ _ _ _ us hl => match us, hl with | [_, _], _ => rfl
    d__law_take := df_mk X G a30 l30 c30 k30 fun _ _ _ _ _ _ us hl => match us, hl with | [_, _], _ => rfl
    d__law_folded := df_mk X G a31 l31 c31 k31 fun _ _ _ _ _ _ us hl => match us, hl with | [_, _], _ => rfl
    d__law_frac := df_mk X G a32 l32 c32 k32 fun _ _ _ _ _ _ us hl => match us, hl with | [_, _], _ => rfl
    d__law_sum := df_mk X G a33 l33 c33 k33 fun _ _ _ _ _ _ us hl => match us, hl with | [_, _], _ => rfl
    d__law_product := df_mk X G a34 l34 c34 k34 fun _ _ _ _ _ _ us hl => match us, hl with | [_, _], _ => rfl
    d__law_minus := df_mk X G a35 l35 c35 k35 fun _ _ _ _ _ _ us hl => match us, hl with | [_, _], _ => rfl
    d__law_over := df_mk X G a36 l36 c36 k36 fun _ _ _ _ _ _ us hl => match us, hl with | [_, _], _ => rfl
    d__law_above := df_mk X G a37 l37 c37 k37 fun _ _ _ _ _ _ us hl => match us, hl with | [_, _], _ => rfl
    d__law_names_by := df_mk X G a38 l38 c38 k38 fun _ _ _ _ _ _ us hl => match us, hl with | [_, _], _ => rfl
    d__law_any_gain := df_mk X G a39 l39 c39 k39 fun _ _ _ _ _ _ us hl => match us, hl with | [_], _ => rfl
    d__law_any_much := df_mk X G a40 l40 c40 k40 fun _ _ _ _ _ _ us hl => match us, hl with | [_], _ => rfl
    d__law_any_price := df_mk X G a41 l41 c41 k41 fun _ _ _ _ _ _ us hl => match us, hl with | [_], _ => rfl
    d__law_planted := df_mk X G a42 l42 c42 k42 fun _ _ _ _ _ _ us hl => match us, hl with | [_, _], _ => rfl
    d__law_net_by := df_mk X G a43 l43 c43 k43 fun _ _ _ _ _ _ us hl => match us, hl with | [_, _, _], _ => rfl
    d__law_steps_of := df_mk X G a44 l44 c44 k44 fun _ _ _ _ _ _ us hl => match us, hl with | [_, _], _ => rfl
    d__law_course_by := df_mk X G a45 l45 c45 k45 fun _ _ _ _ _ _ us hl => match us, hl with | [_, _, _, _, _], _ => rfl
    d__law_parts_on := df_mk X G a46 l46 c46 k46 fun _ _ _ _ _ _ us hl => match us, hl with | [_, _], _ => rfl
    d__law_put := df_mk X G a47 l47 c47 k47 fun _ _ _ _ _ _ us hl => match us, hl with | [_, _, _], _ => rfl
    d__law_much_along := df_mk X G a48 l48 c48 k48 fun _ _ _ _ _ _ us hl => match us, hl with | [_], _ => rfl
    d__law_left_at := df_mk X G a49 l49 c49 k49 fun _ _ _ _ _ _ us hl => match us, hl with | [_, _, _], _ => rfl
    d__law_keeps := df_mk X G a50 l50 c50 k50 fun _ _ _ _ _ _ us hl => match us, hl with | [_, _, _, _], _ => rfl
    d__law_stream_by := df_mk X G a51 l51 c51 k51 fun _ _ _ _ _ _ us hl => match us, hl with | [_, _, _, _], _ => rfl
    d__law_ends_by := df_mk X G a52 l52 c52 k52 fun _ _ _ _ _ _ us hl => match us, hl with | [_, _], _ => rfl
    d__law_told_steps := df_mk X G a53 l53 c53 k53 fun _ _ _ _ _ _ us hl => match us, hl with | [_, _], _ => rfl
    d__law_is_course := df_mk X G a54 l54 c54 k54 fun _ _ _ _ _ _ us hl => match us, hl with | [_, _, _, _], _ => rfl
    d__law_shown := df_mk X G a55 l55 c55 k55 fun _ _ _ _ _ _ us hl => match us, hl with | [_, _, _, _, _], _ => rfl
    d__law_worths_of := df_mk X G a56 l56 c56 k56 fun _ _ _ _ _ _ us hl => match us, hl with | [_, _, _], _ => rfl
    d__law_none_more := df_mk X G a57 l57 c57 k57 fun _ _ _ _ _ _ us hl => match us, hl with | [_, _, _, _], _ => rfl
    d__law_right := df_mk X G a58 l58 c58 k58 fun _ _ _ _ _ _ us hl => match us, hl with | [_, _, _, _], _ => rfl
    d_law := df_mk X G a59 l59 c59 k59 fun _ _ _ _ _ _ us hl => match us, hl with | [_], _ => rfl
    n_isinstance := PySem.W.mg_none_of X G n_isinstance
    n_bool := PySem.W.mg_none_of X G n_bool
    n_int := PySem.W.mg_none_of X G n_int
    n_abs := PySem.W.mg_none_of X G n_abs
    n_enumerate := PySem.W.mg_none_of X G n_enumerate
    n_len := PySem.W.mg_none_of X G n_len
    n_dict := PySem.W.mg_none_of X G n_dict
    n_list := PySem.W.mg_none_of X G n_list
    n_min := PySem.W.mg_none_of X G n_min
    n_tuple := PySem.W.mg_none_of X G n_tuple
    n_any := PySem.W.mg_none_of X G n_any
    n_zip := PySem.W.mg_none_of X G n_zip
    n_all := PySem.W.mg_none_of X G n_all
    n_set := PySem.W.mg_none_of X G n_set
    n_str := PySem.W.mg_none_of X G n_str
    n_divmod := PySem.W.mg_none_of X G n_divmod
    n_range := PySem.W.mg_none_of X G n_range
    n_max := PySem.W.mg_none_of X G n_max
    o_ONE_fractions := one_mk X G ao_ONE_fractions lo_ONE_fractions
    o_ONE_rounds := one_mk X G ao_ONE_rounds lo_ONE_rounds
    c_BEGINS := ⟨_, PySem.W.mg_of X G ac_BEGINS, _, rfl⟩
    c_ENDS := ⟨_, PySem.W.mg_of X G ac_ENDS, _, rfl⟩
    c_RING := ⟨_, PySem.W.mg_of X G ac_RING, _, rfl⟩
    c_GAINS := ⟨_, PySem.W.mg_of X G ac_GAINS, _, rfl⟩
    c_WAY := ⟨_, PySem.W.mg_of X G ac_WAY, _, rfl⟩
    c_ROOM := ⟨_, PySem.W.mg_of X G ac_ROOM, _, rfl⟩
  }
  exact ⟨PySem.W.fnOf "law" "law" (defArgs s_law) (defBody s_law) (defScope s_law) .none kV59 dc59 pm59 an59 cd59 ct59, fun s v => .of_eq rfl, fun base _ _ => ok_law T (fun_mk (st := s_law) l59 c59 k59)⟩
theorem walk {l : PySem.W.OpenLaw} {q : Program} {loose : List Str} {XP : (Str → Option Value) → Heap → Prop} {YP : World → Heap → Prop} {d : DefRec} {K : Params → PySem.W.Frag} (hn : l.most = some 63) (hdf : d.params.defaults = [])
    (hY : ∀ (w : World) (h : Heap), YP w h → (K w.params).In h)
    (F : ∀ (w : World) (mg : Str → Option Value) (fa : Addr) (h : Heap), (K w.params).In h → h.Ns mainGlobals mg → mg d.name = some (.ref fa) →
      ∃ fd : FuncData, (∀ (s : Shared) (u : Value), BindsTo s fd ⟨[u], []⟩ [("_law_script", u)]) ∧ ∀ base : Heap, (K w.params).In base → base.Ns mainGlobals mg → FnOk l.prog w (K w.params) mg base CX0 9 fa fd ["_law_script"] (spLaw (K w.params))) :
    PySem.W.WalkO q loose XP YP l.row.toRowW d [] (fun f vs => PySem.call f vs) :=
  L2.walk_of (n := 63) (k := 9) (x := "_law_script") (CX := fun _ => CX0) (sp := fun w => spLaw (K w.params)) hn (by decide) hdf ⟨rfl, by decide, by decide⟩ hY F (fun _ _ a ns hl _ hS => ⟨_, rfl, a, ns, rfl, hS, fun _ e => SqL.keep hS e, hl, fun _ => rfl⟩) fun _ _ _ _ _ z => z
end GW

open PySem PySem.W PyProof.Rows in
set_option maxRecDepth 100000 in
set_option maxHeartbeats 0 in
theorem PySem.Challenge.cw_gainroads_k23_whole_none_is_the_most_holds : PySem.Challenge.rw_gainroads_k23_whole_none_is_the_most.Holds := by
  w_on; o_law; k_head; (case hw => w_witness2)
  k_fill
  refine GW.walk (l := PySem.Challenge.rw_gainroads_k23_whole_none_is_the_most) rfl rfl (fun w h Y => PySem.W.kIn_of Y) ?F
  case F =>
    intro w mg fa h KX G hmg
    refine' GW.all_mk KX G hmg ?a0 ?l0 ?c0 ?k0 ?a1 ?l1 ?c1 ?k1 ?a2 ?l2 ?c2 ?k2 ?a3 ?l3 ?c3 ?k3 ?a4 ?l4 ?c4 ?k4 ?a5 ?l5 ?c5 ?k5 ?a6 ?l6 ?c6 ?k6 ?a7 ?l7 ?c7 ?k7 ?a8 ?l8 ?c8 ?k8 ?a9 ?l9 ?c9 ?k9 ?a10 ?l10 ?c10 ?k10 ?a11 ?l11 ?c11 ?k11 ?a12 ?l12 ?c12 ?k12 ?a13 ?l13 ?c13 ?k13 ?a14 ?l14 ?c14 ?k14 ?a15 ?l15 ?c15 ?k15 ?a16 ?l16 ?c16 ?k16 ?a17 ?l17 ?c17 ?k17 ?a18 ?l18 ?c18 ?k18 ?a19 ?l19 ?c19 ?k19 ?a20 ?l20 ?c20 ?k20 ?a21 ?l21 ?c21 ?k21 ?a22 ?l22 ?c22 ?k22 ?a23 ?l23 ?c23 ?k23 ?a24 ?l24 ?c24 ?k24 ?a25 ?l25 ?c25 ?k25 ?a26 ?l26 ?c26 ?k26 ?a27 ?l27 ?c27 ?k27 ?a28 ?l28 ?c28 ?k28 ?a29 ?l29 ?c29 ?k29 ?a30 ?l30 ?c30 ?k30 ?a31 ?l31 ?c31 ?k31 ?a32 ?l32 ?c32 ?k32 ?a33 ?l33 ?c33 ?k33 ?a34 ?l34 ?c34 ?k34 ?a35 ?l35 ?c35 ?k35 ?a36 ?l36 ?c36 ?k36 ?a37 ?l37 ?c37 ?k37 ?a38 ?l38 ?c38 ?k38 ?a39 ?l39 ?c39 ?k39 ?a40 ?l40 ?c40 ?k40 ?a41 ?l41 ?c41 ?k41 ?a42 ?l42 ?c42 ?k42 ?a43 ?l43 ?c43 ?k43 ?a44 ?l44 ?c44 ?k44 ?a45 ?l45 ?c45 ?k45 ?a46 ?l46 ?c46 ?k46 ?a47 ?l47 ?c47 ?k47 ?a48 ?l48 ?c48 ?k48 ?a49 ?l49 ?c49 ?k49 ?a50 ?l50 ?c50 ?k50 ?a51 ?l51 ?c51 ?k51 ?a52 ?l52 ?c52 ?k52 ?a53 ?l53 ?c53 ?k53 ?a54 ?l54 ?c54 ?k54 ?a55 ?l55 ?c55 ?k55 ?a56 ?l56 ?c56 ?k56 ?a57 ?l57 ?c57 ?k57 ?a58 ?l58 ?c58 ?k58 ?a59 ?l59 ?c59 ?k59 ?n_isinstance ?n_bool ?n_int ?n_abs ?n_enumerate ?n_len ?n_dict ?n_list ?n_min ?n_tuple ?n_any ?n_zip ?n_all ?n_set ?n_str ?n_divmod ?n_range ?n_max ?ao_ONE_fractions ?lo_ONE_fractions ?ao_ONE_rounds ?lo_ONE_rounds ?ac_BEGINS ?ac_ENDS ?ac_RING ?ac_GAINS ?ac_WAY ?ac_ROOM
    (case a0 => k_is)
    (case l0 => k_is)
    (case c0 => k_is)
    (case k0 => k_is)
    (case a1 => k_is)
    (case l1 => k_is)
    (case c1 => k_is)
    (case k1 => k_is)
    (case a2 => k_is)
    (case l2 => k_is)
    (case c2 => k_is)
    (case k2 => k_is)
    (case a3 => k_is)
    (case l3 => k_is)
    (case c3 => k_is)
    (case k3 => k_is)
    (case a4 => k_is)
    (case l4 => k_is)
    (case c4 => k_is)
    (case k4 => k_is)
    (case a5 => k_is)
    (case l5 => k_is)
    (case c5 => k_is)
    (case k5 => k_is)
    (case a6 => k_is)
    (case l6 => k_is)
    (case c6 => k_is)
    (case k6 => k_is)
    (case a7 => k_is)
    (case l7 => k_is)
    (case c7 => k_is)
    (case k7 => k_is)
    (case a8 => k_is)
    (case l8 => k_is)
    (case c8 => k_is)
    (case k8 => k_is)
    (case a9 => k_is)
    (case l9 => k_is)
    (case c9 => k_is)
    (case k9 => k_is)
    (case a10 => k_is)
    (case l10 => k_is)
    (case c10 => k_is)
    (case k10 => k_is)
    (case a11 => k_is)
    (case l11 => k_is)
    (case c11 => k_is)
    (case k11 => k_is)
    (case a12 => k_is)
    (case l12 => k_is)
    (case c12 => k_is)
    (case k12 => k_is)
    (case a13 => k_is)
    (case l13 => k_is)
    (case c13 => k_is)
    (case k13 => k_is)
    (case a14 => k_is)
    (case l14 => k_is)
    (case c14 => k_is)
    (case k14 => k_is)
    (case a15 => k_is)
    (case l15 => k_is)
    (case c15 => k_is)
    (case k15 => k_is)
    (case a16 => k_is)
    (case l16 => k_is)
    (case c16 => k_is)
    (case k16 => k_is)
    (case a17 => k_is)
    (case l17 => k_is)
    (case c17 => k_is)
    (case k17 => k_is)
    (case a18 => k_is)
    (case l18 => k_is)
    (case c18 => k_is)
    (case k18 => k_is)
    (case a19 => k_is)
    (case l19 => k_is)
    (case c19 => k_is)
    (case k19 => k_is)
    (case a20 => k_is)
    (case l20 => k_is)
    (case c20 => k_is)
    (case k20 => k_is)
    (case a21 => k_is)
    (case l21 => k_is)
    (case c21 => k_is)
    (case k21 => k_is)
    (case a22 => k_is)
    (case l22 => k_is)
    (case c22 => k_is)
    (case k22 => k_is)
    (case a23 => k_is)
    (case l23 => k_is)
    (case c23 => k_is)
    (case k23 => k_is)
    (case a24 => k_is)
    (case l24 => k_is)
    (case c24 => k_is)
    (case k24 => k_is)
    (case a25 => k_is)
    (case l25 => k_is)
    (case c25 => k_is)
    (case k25 => k_is)
    (case a26 => k_is)
    (case l26 => k_is)
    (case c26 => k_is)
    (case k26 => k_is)
    (case a27 => k_is)
    (case l27 => k_is)
    (case c27 => k_is)
    (case k27 => k_is)
    (case a28 => k_is)
    (case l28 => k_is)
    (case c28 => k_is)
    (case k28 => k_is)
    (case a29 => k_is)
    (case l29 => k_is)
    (case c29 => k_is)
    (case k29 => k_is)
    (case a30 => k_is)
    (case l30 => k_is)
    (case c30 => k_is)
    (case k30 => k_is)
    (case a31 => k_is)
    (case l31 => k_is)
    (case c31 => k_is)
    (case k31 => k_is)
    (case a32 => k_is)
    (case l32 => k_is)
    (case c32 => k_is)
    (case k32 => k_is)
    (case a33 => k_is)
    (case l33 => k_is)
    (case c33 => k_is)
    (case k33 => k_is)
    (case a34 => k_is)
    (case l34 => k_is)
    (case c34 => k_is)
    (case k34 => k_is)
    (case a35 => k_is)
    (case l35 => k_is)
    (case c35 => k_is)
    (case k35 => k_is)
    (case a36 => k_is)
    (case l36 => k_is)
    (case c36 => k_is)
    (case k36 => k_is)
    (case a37 => k_is)
    (case l37 => k_is)
    (case c37 => k_is)
    (case k37 => k_is)
    (case a38 => k_is)
    (case l38 => k_is)
    (case c38 => k_is)
    (case k38 => k_is)
    (case a39 => k_is)
    (case l39 => k_is)
    (case c39 => k_is)
    (case k39 => k_is)
    (case a40 => k_is)
    (case l40 => k_is)
    (case c40 => k_is)
    (case k40 => k_is)
    (case a41 => k_is)
    (case l41 => k_is)
    (case c41 => k_is)
    (case k41 => k_is)
    (case a42 => k_is)
    (case l42 => k_is)
    (case c42 => k_is)
    (case k42 => k_is)
    (case a43 => k_is)
    (case l43 => k_is)
    (case c43 => k_is)
    (case k43 => k_is)
    (case a44 => k_is)
    (case l44 => k_is)
    (case c44 => k_is)
    (case k44 => k_is)
    (case a45 => k_is)
    (case l45 => k_is)
    (case c45 => k_is)
    (case k45 => k_is)
    (case a46 => k_is)
    (case l46 => k_is)
    (case c46 => k_is)
    (case k46 => k_is)
    (case a47 => k_is)
    (case l47 => k_is)
    (case c47 => k_is)
    (case k47 => k_is)
    (case a48 => k_is)
    (case l48 => k_is)
    (case c48 => k_is)
    (case k48 => k_is)
    (case a49 => k_is)
    (case l49 => k_is)
    (case c49 => k_is)
    (case k49 => k_is)
    (case a50 => k_is)
    (case l50 => k_is)
    (case c50 => k_is)
    (case k50 => k_is)
    (case a51 => k_is)
    (case l51 => k_is)
    (case c51 => k_is)
    (case k51 => k_is)
    (case a52 => k_is)
    (case l52 => k_is)
    (case c52 => k_is)
    (case k52 => k_is)
    (case a53 => k_is)
    (case l53 => k_is)
    (case c53 => k_is)
    (case k53 => k_is)
    (case a54 => k_is)
    (case l54 => k_is)
    (case c54 => k_is)
    (case k54 => k_is)
    (case a55 => k_is)
    (case l55 => k_is)
    (case c55 => k_is)
    (case k55 => k_is)
    (case a56 => k_is)
    (case l56 => k_is)
    (case c56 => k_is)
    (case k56 => k_is)
    (case a57 => k_is)
    (case l57 => k_is)
    (case c57 => k_is)
    (case k57 => k_is)
    (case a58 => k_is)
    (case l58 => k_is)
    (case c58 => k_is)
    (case k58 => k_is)
    (case a59 => k_is)
    (case l59 => k_is)
    (case c59 => k_is)
    (case k59 => k_is)
    (case n_isinstance => k_is)
    (case n_bool => k_is)
    (case n_int => k_is)
    (case n_abs => k_is)
    (case n_enumerate => k_is)
    (case n_len => k_is)
    (case n_dict => k_is)
    (case n_list => k_is)
    (case n_min => k_is)
    (case n_tuple => k_is)
    (case n_any => k_is)
    (case n_zip => k_is)
    (case n_all => k_is)
    (case n_set => k_is)
    (case n_str => k_is)
    (case n_divmod => k_is)
    (case n_range => k_is)
    (case n_max => k_is)
    (case ao_ONE_fractions => k_is)
    (case lo_ONE_fractions => k_is)
    (case ao_ONE_rounds => k_is)
    (case lo_ONE_rounds => k_is)
    (case ac_BEGINS => k_is)
    (case ac_ENDS => k_is)
    (case ac_RING => k_is)
    (case ac_GAINS => k_is)
    (case ac_WAY => k_is)
    (case ac_ROOM => k_is)
#print axioms PySem.Challenge.cw_gainroads_k23_whole_none_is_the_most_holds
