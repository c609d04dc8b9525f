import PyProof.Rows.All
import HandS.ForMost
import HandS.Wide
import HandS.TupAny
import HandS.IsInst
import HandS.SetFor
import HandS.Strs
import HandS.TupSets
import HandS.SortInts
import KE.SortData
import PySem.Challenge.RW_faultworks_k32_whole_bounds_by_single_pa
import HandS.Deep
import HandS.More
set_option Elab.async false
set_option linter.all false
set_option maxRecDepth 100000
set_option maxHeartbeats 4000000
/-! Faultworks, mathematics 1: ratios. Plain Lean. -/
namespace FM

theorem gcd_swap (n : Int) (m : Nat) : m.gcd n.natAbs = Int.gcd n (m : Int) := by
  show m.gcd n.natAbs = Nat.gcd n.natAbs (m : Int).natAbs
  rw [Int.natAbs_natCast, Nat.gcd_comm]
theorem mk_num {n : Int} {m : Nat} (h : 0 < m) : (mkRat n m).num = n / ((Int.gcd n (m : Int) : Nat) : Int) := by
  rw [Rat.num_mkRat, if_neg (by omega), gcd_swap]
theorem mk_den {n : Int} {m : Nat} (h : 0 < m) : (mkRat n m).den = m / Int.gcd n (m : Int) := by
  rw [Rat.den_mkRat, if_neg (by omega), gcd_swap]
theorem gcd_le {n : Int} {m : Nat} (h : 0 < m) : Int.gcd n (m : Int) ≤ m := Nat.le_of_dvd h (by
  have : Int.gcd n (m : Int) ∣ (m : Int).natAbs := Nat.gcd_dvd_right _ _
  rwa [Int.natAbs_natCast] at this)
theorem gcd_pos {n : Int} {m : Nat} (h : 0 < m) : 0 < Int.gcd n (m : Int) := Nat.gcd_pos_of_pos_right _ (by rw [Int.natAbs_natCast]; exact h)

/-- few bits -/
def Bd (b : Nat) (q : Rat) : Prop := q.num.natAbs < 2 ^ b ∧ q.den < 2 ^ b
theorem Bd.mono {a b : Nat} {q : Rat} (h : Bd a q) (l : a ≤ b) : Bd b q :=
  ⟨Nat.lt_of_lt_of_le h.1 (Nat.pow_le_pow_right (by decide) l), Nat.lt_of_lt_of_le h.2 (Nat.pow_le_pow_right (by decide) l)⟩
theorem mk_bd {n : Int} {m b : Nat} (h : 0 < m) (hn : n.natAbs < 2 ^ b) (hm : m < 2 ^ b) : Bd b (mkRat n m) := by
  refine ⟨?_, ?_⟩
  · rw [mk_num h, Int.natAbs_ediv_of_dvd]
    · exact Nat.lt_of_le_of_lt (Nat.div_le_self _ _) hn
    · exact Int.gcd_dvd_left _ _
  · rw [mk_den h]
    exact Nat.lt_of_le_of_lt (Nat.div_le_self _ _) hm
theorem mul_lt_pow {x y a b : Nat} (hx : x < 2 ^ a) (hy : y < 2 ^ b) : x * y < 2 ^ (a + b) := by
  rw [Nat.pow_add]
  exact Nat.mul_lt_mul'' hx hy
theorem Bd.mul {a b : Nat} {p q : Rat} (h : Bd a p) (k : Bd b q) : Bd (a + b) (p * q) := by
  rw [Rat.mul_def']
  refine mk_bd (Nat.mul_pos p.den_pos q.den_pos) ?_ (mul_lt_pow h.2 k.2)
  rw [Int.natAbs_mul]
  exact mul_lt_pow h.1 k.1
theorem natAbs_add_lt {x y : Int} {b : Nat} (hx : x.natAbs < 2 ^ b) (hy : y.natAbs < 2 ^ b) : (x + y).natAbs < 2 ^ (b + 1) := by
  rw [Nat.pow_succ]
  omega
theorem num_lt {p q : Rat} {a b : Nat} (h : Bd a p) (k : Bd b q) : (p.num * (q.den : Int)).natAbs < 2 ^ (a + b) := by
  rw [Int.natAbs_mul, Int.natAbs_natCast]
  exact mul_lt_pow h.1 k.2
theorem Bd.add {a b : Nat} {p q : Rat} (h : Bd a p) (k : Bd b q) : Bd (a + b + 1) (p + q) := by
  rw [Rat.add_def']
  refine mk_bd (Nat.mul_pos p.den_pos q.den_pos) (natAbs_add_lt (num_lt h k) ?_) ?_
  · rw [Nat.add_comm a b]
    exact num_lt k h
  · exact Nat.lt_of_lt_of_le (mul_lt_pow h.2 k.2) (Nat.pow_le_pow_right (by decide) (Nat.le_succ _))
theorem Bd.sub {a b : Nat} {p q : Rat} (h : Bd a p) (k : Bd b q) : Bd (a + b + 1) (p - q) := by
  rw [Rat.sub_def']
  refine mk_bd (Nat.mul_pos p.den_pos q.den_pos) ?_ ?_
  · rw [Int.sub_eq_add_neg]
    refine natAbs_add_lt (num_lt h k) ?_
    rw [Int.natAbs_neg, Nat.add_comm a b]
    exact num_lt k h
  · exact Nat.lt_of_lt_of_le (mul_lt_pow h.2 k.2) (Nat.pow_le_pow_right (by decide) (Nat.le_succ _))
theorem den_sub_one (q : Rat) : (1 - q).den = q.den ∧ (1 - q).num = q.den - q.num := by
  have e : 1 - q = mkRat ((q.den : Int) - q.num) q.den := by
    rw [Rat.sub_def']
    show mkRat (1 * (q.den : Int) - q.num * 1) (1 * q.den) = _
    rw [Int.one_mul, Int.mul_one, Nat.one_mul]
  have g : Int.gcd ((q.den : Int) - q.num) (q.den : Int) = 1 := by
    have h1 : Int.gcd q.num (q.den : Int) = 1 := by
      show Nat.gcd q.num.natAbs (q.den : Int).natAbs = 1
      rw [Int.natAbs_natCast]
      exact q.reduced
    have h2 : Int.gcd ((q.den : Int) - q.num) (q.den : Int) ∣ 1 := by
      rw [← h1]
      refine Int.dvd_coe_gcd ?_ ?_ |> Int.natCast_dvd_natCast.mp
      · have a1 : ((Int.gcd ((q.den : Int) - q.num) (q.den : Int) : Nat) : Int) ∣ (q.den : Int) - q.num := Int.gcd_dvd_left _ _
        have a2 : ((Int.gcd ((q.den : Int) - q.num) (q.den : Int) : Nat) : Int) ∣ (q.den : Int) := Int.gcd_dvd_right _ _
        have a3 := Int.dvd_sub a2 a1
        have e3 : (q.den : Int) - ((q.den : Int) - q.num) = q.num := by omega
        rwa [e3] at a3
      · exact Int.gcd_dvd_right _ _
    exact Nat.dvd_one.mp h2
  rw [e]
  refine ⟨?_, ?_⟩
  · rw [mk_den q.den_pos, g, Nat.div_one]
  · rw [mk_num q.den_pos, g]
    simp
theorem Bd.turn {a : Nat} {q : Rat} (h : Bd a q) (h0 : 0 ≤ q) (h1 : q ≤ 1) : Bd a (1 - q) := by
  obtain ⟨e1, e2⟩ := den_sub_one q
  have n0 : 0 ≤ q.num := Rat.num_nonneg.mpr h0
  have n1 : q.num ≤ q.den := by
    have := (Rat.le_iff q 1).mp h1
    simpa using this
  refine ⟨?_, by rw [e1]; exact h.2⟩
  rw [e2]
  have := h.2
  omega
theorem gcd_rat (q : Rat) : Int.gcd q.num (q.den : Int) = 1 := by
  show Nat.gcd q.num.natAbs (q.den : Int).natAbs = 1
  rw [Int.natAbs_natCast]
  exact q.reduced
theorem rat01 {q : Rat} (h0 : 0 ≤ q) (h1 : q ≤ 1) : 0 ≤ q.num ∧ q.num ≤ q.den := by
  refine ⟨Rat.num_nonneg.mpr h0, ?_⟩
  have := (Rat.le_iff q 1).mp h1
  simpa using this
theorem bd_of01 {q : Rat} {b : Nat} (h0 : 0 ≤ q) (h1 : q ≤ 1) (h : q.den < 2 ^ b) : Bd b q := by
  obtain ⟨a, c⟩ := rat01 h0 h1
  exact ⟨by omega, h⟩
end FM
namespace FM
/-! ### products, greatest ones -/
def mulAll (qs : List Rat) : Rat := qs.foldl (· * ·) 1
theorem prod_bd {b : Nat} : ∀ (qs : List Rat) (c : Nat) (acc : Rat), Bd c acc → (∀ q ∈ qs, Bd b q) → Bd (c + b * qs.length) (qs.foldl (· * ·) acc)
  | [], c, acc, h, _ => by simpa using h
  | q :: qs, c, acc, h, hq => by
    have h1 := prod_bd qs (c + b) (acc * q) (h.mul (hq q List.mem_cons_self)) fun r hr => hq r (List.mem_cons_of_mem _ hr)
    have e : c + b * (q :: qs).length = c + b + b * qs.length := by rw [List.length_cons, Nat.mul_succ]; omega
    rw [e]
    exact h1
theorem bd_one : Bd 1 1 := ⟨by decide, by decide⟩
theorem bd_zero : Bd 1 0 := ⟨by decide, by decide⟩
theorem mulAll_bd {b : Nat} {qs : List Rat} (h : ∀ q ∈ qs, Bd b q) : Bd (1 + b * qs.length) (mulAll qs) := prod_bd qs 1 1 bd_one h
def mx (a q : Rat) : Rat := if a < q then q else a
theorem mx_cases (a q : Rat) : mx a q = a ∨ mx a q = q := by
  unfold mx
  split
  · exact .inr rfl
  · exact .inl rfl
theorem mx_fold_mem {P : Rat → Prop} : ∀ (qs : List Rat) (a : Rat), P a → (∀ q ∈ qs, P q) → P (qs.foldl mx a)
  | [], _, h, _ => h
  | q :: qs, a, h, hq => mx_fold_mem qs (mx a q) (by rcases mx_cases a q with e | e <;> rw [e]; exact h; exact hq q List.mem_cons_self) fun r hr => hq r (List.mem_cons_of_mem _ hr)
theorem le_mx_left (a q : Rat) : a ≤ mx a q := by
  unfold mx
  split
  · exact Rat.le_of_lt ‹_›
  · exact Rat.le_refl
theorem le_mx_right (a q : Rat) : q ≤ mx a q := by
  unfold mx
  split
  · exact Rat.le_refl
  · exact Rat.not_lt.mp ‹_›
end FM
/-! Faultworks, mathematics 2: sets of parts as numbers; least cuts. Plain Lean. -/
namespace FM

/-! ### sets as numbers -/
def mask (l : List Nat) : Nat := (l.map fun k => 2 ^ k).sum
theorem mask_dvd {a : Nat} : ∀ {l : List Nat}, (∀ k ∈ l, a < k) → 2 ^ (a + 1) ∣ mask l
  | [], _ => ⟨0, rfl⟩
  | k :: l, h => by
    have h1 : 2 ^ (a + 1) ∣ 2 ^ k := Nat.pow_dvd_pow 2 (h k List.mem_cons_self)
    exact Nat.dvd_add h1 (mask_dvd fun j hj => h j (List.mem_cons_of_mem _ hj))
theorem mask_bit : ∀ {l : List Nat}, l.Pairwise (· < ·) → ∀ j, (mask l).testBit j = decide (j ∈ l)
  | [], _, j => by simp [mask]
  | a :: l, h, j => by
    have ih := mask_bit (List.pairwise_cons.mp h).2 j
    obtain ⟨y, hy⟩ := mask_dvd (List.pairwise_cons.mp h).1
    have e : mask (a :: l) = mask l ||| 2 ^ a := by
      show 2 ^ a + mask l = _
      rw [hy, Nat.add_comm]
      exact Nat.two_pow_add_eq_or_of_lt (Nat.pow_lt_pow_right (by decide) (Nat.lt_succ_self a)) y
    rw [e, Nat.testBit_or, ih, Nat.testBit_two_pow]
    by_cases h1 : j ∈ l <;> by_cases h2 : a = j <;> simp [h1, h2] <;> omega
/-- the parts of a number -/
def bits (n m : Nat) : List Nat := (List.range n).filter fun k => m.testBit k
theorem mem_bits {n m k : Nat} : k ∈ bits n m ↔ k < n ∧ m.testBit k = true := by
  unfold bits
  rw [List.mem_filter, List.mem_range]
theorem bits_asc (n m : Nat) : (bits n m).Pairwise (· < ·) := List.Pairwise.filter _ List.pairwise_lt_range
theorem mask_bits {n m : Nat} (h : m < 2 ^ n) : mask (bits n m) = m := by
  refine Nat.eq_of_testBit_eq fun j => ?_
  rw [mask_bit (bits_asc n m)]
  by_cases hj : j < n
  · by_cases hb : m.testBit j = true
    · rw [hb]; exact decide_eq_true (mem_bits.mpr ⟨hj, hb⟩)
    · rw [Bool.not_eq_true] at hb
      rw [hb]
      exact decide_eq_false fun z => by rw [(mem_bits.mp z).2] at hb; cases hb
  · rw [Nat.testBit_lt_two_pow (Nat.lt_of_lt_of_le h (Nat.pow_le_pow_right (by decide) (by omega)))]
    exact decide_eq_false fun z => hj (mem_bits.mp z).1
theorem mask_lt {n : Nat} {l : List Nat} (h : l.Pairwise (· < ·)) (hl : ∀ k ∈ l, k < n) : mask l < 2 ^ n :=
  Nat.lt_pow_two_of_testBit _ fun i hi => by
    rw [mask_bit h]
    exact decide_eq_false fun z => absurd (hl i z) (by omega)
theorem bits_mask {n : Nat} {l : List Nat} (h : l.Pairwise (· < ·)) (hl : ∀ k ∈ l, k < n) : ∀ k, k ∈ bits n (mask l) ↔ k ∈ l := fun k => by
  rw [mem_bits, mask_bit h, decide_eq_true_iff]
  exact ⟨fun z => z.2, fun z => ⟨hl k z, z⟩⟩
/-- a & b == b: b lies in a -/
theorem sub_iff {a b : Nat} : a &&& b = b ↔ ∀ k, b.testBit k = true → a.testBit k = true := by
  constructor
  · intro h k hk
    rw [← h, Nat.testBit_and] at hk
    simp at hk
    exact hk.1
  · intro h
    refine Nat.eq_of_testBit_eq fun k => ?_
    rw [Nat.testBit_and]
    cases hb : b.testBit k with
    | false => simp
    | true => simp [h k hb]
theorem hit_iff {a : Nat} {p : List Nat} (h : p.Pairwise (· < ·)) : a &&& mask p ≠ 0 ↔ ∃ k ∈ p, a.testBit k = true := by
  constructor
  · intro z
    obtain ⟨k, hk⟩ := Nat.exists_testBit_of_ne_zero z
    rw [Nat.testBit_and, mask_bit h] at hk
    simp at hk
    exact ⟨k, hk.2, hk.1⟩
  · rintro ⟨k, hk, hb⟩ z
    have : (a &&& mask p).testBit k = false := by rw [z]; simp
    rw [Nat.testBit_and, mask_bit h, hb, decide_eq_true hk] at this
    cases this
theorem sub_le {a b : Nat} (h : a &&& b = b) : b ≤ a := by
  rw [← h]
  exact Nat.and_le_left

/-! ### least hitting sets -/
def Sub (b a : Nat) : Prop := ∀ k, b.testBit k = true → a.testBit k = true
theorem Sub.le {a b : Nat} (h : Sub b a) : b ≤ a := sub_le (sub_iff.mpr h)
theorem Sub.refl (a : Nat) : Sub a a := fun _ h => h
theorem Sub.trans {a b c : Nat} (h : Sub a b) (g : Sub b c) : Sub a c := fun k z => g k (h k z)
theorem Sub.antisymm {a b : Nat} (h : Sub a b) (g : Sub b a) : a = b := Nat.le_antisymm h.le g.le
def Hit (Ps : List (List Nat)) (m : Nat) : Prop := ∀ p ∈ Ps, ∃ k ∈ p, m.testBit k = true
def MT (Ps : List (List Nat)) (m : Nat) : Prop := Hit Ps m ∧ ∀ m', Sub m' m → Hit Ps m' → m' = m
theorem Hit.mono {Ps : List (List Nat)} {a b : Nat} (h : Hit Ps a) (s : Sub a b) : Hit Ps b := fun p hp =>
  let ⟨k, h1, h2⟩ := h p hp
  ⟨k, h1, s k h2⟩
theorem has_least {Ps : List (List Nat)} : ∀ m, Hit Ps m → ∃ m', Sub m' m ∧ MT Ps m' := by
  intro m
  induction m using Nat.strongRecOn with
  | ind m ih =>
    intro h
    by_cases hm : ∀ m', Sub m' m → Hit Ps m' → m' = m
    · exact ⟨m, Sub.refl m, h, hm⟩
    · have : ∃ m', Sub m' m ∧ Hit Ps m' ∧ m' ≠ m := Classical.byContradiction fun z => hm fun m' h1 h2 => Classical.byContradiction fun h3 => z ⟨m', h1, h2, h3⟩
      obtain ⟨m', h1, h2, h3⟩ := this
      obtain ⟨m2, h4, h5⟩ := ih m' (Nat.lt_of_le_of_ne h1.le h3) h2
      exact ⟨m2, h4.trans h1, h5⟩
theorem mt_nil (m : Nat) : MT [] m ↔ m = 0 := by
  constructor
  · rintro ⟨_, h⟩
    exact (h 0 (fun k z => by simp at z) (fun p hp => by cases hp)).symm
  · rintro rfl
    refine ⟨fun p hp => (by cases hp), fun m' s _ => ?_⟩
    have := s.le
    omega
/-- what the program lays one path further -/
def Longer (ms : List Nat) (p : List Nat) (m : Nat) : Prop := ∃ c ∈ ms, (c &&& mask p ≠ 0 ∧ m = c) ∨ (c &&& mask p = 0 ∧ ∃ k ∈ p, m = c ||| 2 ^ k)
theorem or_bit (c k j : Nat) : (c ||| 2 ^ k).testBit j = (c.testBit j || decide (k = j)) := by
  rw [Nat.testBit_or, Nat.testBit_two_pow]
theorem hit_snoc {Ps : List (List Nat)} {p : List Nat} {m : Nat} : Hit (Ps ++ [p]) m ↔ Hit Ps m ∧ ∃ k ∈ p, m.testBit k = true := by
  constructor
  · intro h
    exact ⟨fun q hq => h q (List.mem_append_left _ hq), h p (List.mem_append_right _ (List.mem_singleton.mpr rfl))⟩
  · rintro ⟨h1, h2⟩ q hq
    rcases List.mem_append.mp hq with hq | hq
    · exact h1 q hq
    · rw [List.mem_singleton.mp hq]; exact h2
theorem longer_hit {Ps : List (List Nat)} {ms : List Nat} {p : List Nat} (hp : p.Pairwise (· < ·)) (h : ∀ m, m ∈ ms ↔ MT Ps m) {m : Nat} (hm : Longer ms p m) : Hit (Ps ++ [p]) m := by
  obtain ⟨c, hc, hh⟩ := hm
  have hc' := (h c).mp hc
  rcases hh with ⟨h1, rfl⟩ | ⟨h1, k, hk, rfl⟩
  · exact hit_snoc.mpr ⟨hc'.1, (hit_iff hp).mp h1⟩
  · refine hit_snoc.mpr ⟨hc'.1.mono fun j hj => by rw [or_bit, hj]; rfl, k, hk, by rw [or_bit]; simp⟩
theorem mt_longer {Ps : List (List Nat)} {ms : List Nat} {p : List Nat} (hp : p.Pairwise (· < ·)) (h : ∀ m, m ∈ ms ↔ MT Ps m) {m : Nat} (hm : MT (Ps ++ [p]) m) : Longer ms p m := by
  obtain ⟨h1, h2⟩ := hit_snoc.mp hm.1
  obtain ⟨c, hs, hc⟩ := has_least m h1
  refine ⟨c, (h c).mpr hc, ?_⟩
  by_cases hz : c &&& mask p = 0
  · obtain ⟨k, hk, hb⟩ := h2
    refine .inr ⟨hz, k, hk, (hm.2 _ (fun j hj => ?_) (hit_snoc.mpr ⟨hc.1.mono fun j hj => by rw [or_bit, hj]; rfl, k, hk, by rw [or_bit]; simp⟩)).symm⟩
    rw [or_bit] at hj
    rcases Bool.or_eq_true_iff.mp hj with hj | hj
    · exact hs j hj
    · rw [← of_decide_eq_true hj]; exact hb
  · exact .inl ⟨hz, (hm.2 c hs (hit_snoc.mpr ⟨hc.1, (hit_iff hp).mp hz⟩)).symm⟩
/-- least_of keeps the least ones -/
def least (ms : List Nat) : List Nat := ms.filter fun a => (ms.filter fun b => !decide (a = b) && decide (a &&& b = b)).isEmpty
theorem mem_least {ms : List Nat} {a : Nat} : a ∈ least ms ↔ a ∈ ms ∧ ∀ b ∈ ms, Sub b a → b = a := by
  unfold least
  rw [List.mem_filter, List.isEmpty_iff, List.filter_eq_nil_iff]
  constructor
  · rintro ⟨h1, h2⟩
    refine ⟨h1, fun b hb s => Classical.byContradiction fun ne => h2 b hb ?_⟩
    rw [decide_eq_false (fun e => ne e.symm), decide_eq_true (sub_iff.mpr s)]
    rfl
  · rintro ⟨h1, h2⟩
    refine ⟨h1, fun b hb z => ?_⟩
    simp at z
    exact z.1 (h2 b hb (sub_iff.mp z.2)).symm
theorem least_sublist (ms : List Nat) : (least ms).Sublist ms := List.filter_sublist
theorem berge {Ps : List (List Nat)} {ms L : List Nat} {p : List Nat} (hp : p.Pairwise (· < ·)) (h : ∀ m, m ∈ ms ↔ MT Ps m) (hL : ∀ m, m ∈ L ↔ Longer ms p m) : ∀ m, m ∈ least L ↔ MT (Ps ++ [p]) m := by
  intro m
  rw [mem_least]
  constructor
  · rintro ⟨h1, h2⟩
    have hit := longer_hit hp h ((hL m).mp h1)
    obtain ⟨m', s, hm'⟩ := has_least m hit
    have e := h2 m' ((hL m').mpr (mt_longer hp h hm')) s
    rw [← e]
    exact hm'
  · intro hm
    exact ⟨(hL m).mpr (mt_longer hp h hm), fun b hb s => hm.2 b s (longer_hit hp h ((hL b).mp hb))⟩
/-- a least hitting set has only parts of the paths -/
theorem mt_lt {n : Nat} {Ps : List (List Nat)} (hP : ∀ p ∈ Ps, ∀ k ∈ p, k < n) {m : Nat} (h : MT Ps m) : m < 2 ^ n := by
  have e : m % 2 ^ n = m := h.2 (m % 2 ^ n) (fun k hk => by
    rw [Nat.testBit_mod_two_pow] at hk
    simp at hk
    exact hk.2) fun p hp => by
      obtain ⟨k, hk, hb⟩ := h.1 p hp
      exact ⟨k, hk, by rw [Nat.testBit_mod_two_pow, hb, decide_eq_true (hP p hp k hk)]; rfl⟩
  rw [← e]
  exact Nat.mod_lt _ (Nat.two_pow_pos n)
end FM
/-! Faultworks, mathematics 3: systems. Plain Lean. -/
namespace FM
theorem asc_filter {n : Nat} {l : List Nat} (h : l.Pairwise (· < ·)) (hl : ∀ k ∈ l, k < n) : l = (List.range n).filter fun k => decide (k ∈ l) := by
  have nn : ∀ {l : List Nat}, l.Pairwise (· < ·) → l.Nodup := fun {l} hl => List.Pairwise.imp (S := fun a b => a ≠ b) (fun {a b} h => by omega) hl
  have h2 : ((List.range n).filter fun k => decide (k ∈ l)).Pairwise (· < ·) := List.Pairwise.filter _ List.pairwise_lt_range
  refine List.Perm.eq_of_pairwise (le := (· < ·)) (fun a b _ _ h1 h2 => by omega) h h2 ((List.perm_ext_iff_of_nodup (nn h) (nn h2)).mpr fun k => ?_)
  rw [List.mem_filter, List.mem_range, decide_eq_true_iff]
  exact ⟨fun z => ⟨hl k z, z⟩, fun z => z.2⟩
theorem asc_len {n : Nat} {l : List Nat} (h : l.Pairwise (· < ·)) (hl : ∀ k ∈ l, k < n) : l.length ≤ n := by
  rw [asc_filter h hl]
  exact Nat.le_trans (List.length_filter_le _ _) (by rw [List.length_range]; exact Nat.le_refl _)
structure SysOk (n : Nat) (ls : List (List Nat)) : Prop where
  n1 : 1 ≤ n
  n8 : n ≤ 6
  asc : ∀ l ∈ ls, l.Pairwise (· < ·)
  lt : ∀ l ∈ ls, ∀ k ∈ l, k < n
  srt : ls.Pairwise (· < ·)
  anti : ∀ a ∈ ls, ∀ b ∈ ls, (∀ k ∈ a, k ∈ b) → a = b
  few : ls.length ≤ 60
theorem SysOk.len {n : Nat} {ls : List (List Nat)} (h : SysOk n ls) : ∀ l ∈ ls, l.length ≤ 6 := fun l hl => Nat.le_trans (asc_len (h.asc l hl) (h.lt l hl)) h.n8
theorem anti_ne {ls : List (List Nat)} (hs : ls.Nodup) (anti : ∀ a ∈ ls, ∀ b ∈ ls, (∀ k ∈ a, k ∈ b) → a = b) : (∀ l ∈ ls, l ≠ []) ∨ ls.length ≤ 1 := by
  by_cases h : [] ∈ ls
  · right
    have all : ∀ b ∈ ls, b = [] := fun b hb => (anti [] h b hb fun k hk => by cases hk).symm
    match ls, hs, all with
    | [], _, _ => exact Nat.zero_le _
    | [_], _, _ => exact Nat.le_refl _
    | a :: b :: r, hs, all =>
      have e1 := all a List.mem_cons_self
      have e2 := all b (List.mem_cons_of_mem _ List.mem_cons_self)
      exact absurd (e1.trans e2.symm) ((List.pairwise_cons.mp hs).1 b List.mem_cons_self)
  · exact .inl fun l hl e => h (e ▸ hl)
theorem nodup_of_lt {ls : List (List Nat)} (h : ls.Pairwise (· < ·)) : ls.Nodup := List.Pairwise.imp (S := fun a b => a ≠ b) (fun {a b} h e => List.lt_irrefl a (by rw [← e] at h; exact h)) h
theorem SysOk.ne {n : Nat} {ls : List (List Nat)} (h : SysOk n ls) : (∀ l ∈ ls, l ≠ []) ∨ ls.length ≤ 1 := anti_ne (nodup_of_lt h.srt) h.anti
/-- no path's number lies in another one's -/
theorem SysOk.masks {n : Nat} {ls : List (List Nat)} (h : SysOk n ls) : ∀ a ∈ ls.map mask, ((ls.map mask).filter fun b => !decide (a = b) && decide (a &&& b = a)) = [] := by
  intro a ha
  rw [List.filter_eq_nil_iff]
  intro b hb z
  obtain ⟨l, hl, rfl⟩ := List.mem_map.mp ha
  obtain ⟨m, hm, rfl⟩ := List.mem_map.mp hb
  simp at z
  refine z.1 (congrArg mask (h.anti l hl m hm fun k hk => ?_))
  have e : (mask m) &&& (mask l) = mask l := by rw [Nat.and_comm]; exact z.2
  have := sub_iff.mp e k (by rw [mask_bit (h.asc l hl)]; exact decide_eq_true hk)
  rw [mask_bit (h.asc m hm)] at this
  exact of_decide_eq_true this
end FM
namespace FM
/-! ### all least cuts, as an ascending list of numbers -/
open Classical in
noncomputable def allMT (ls : List (List Nat)) : List Nat := (List.range 64).filter fun m => decide (MT ls m)
theorem allMT_asc (ls : List (List Nat)) : (allMT ls).Pairwise (· < ·) := List.Pairwise.filter _ List.pairwise_lt_range
theorem allMT_len (ls : List (List Nat)) : (allMT ls).length ≤ 64 := Nat.le_trans (List.length_filter_le _ _) (by rw [List.length_range]; exact Nat.le_refl _)
open Classical in
theorem mem_allMT {ls : List (List Nat)} (h : ∀ p ∈ ls, ∀ k ∈ p, k < 6) {m : Nat} : m ∈ allMT ls ↔ MT ls m := by
  unfold allMT
  rw [List.mem_filter, List.mem_range, decide_eq_true_iff]
  exact ⟨fun z => z.2, fun z => ⟨mt_lt h z, z⟩⟩
theorem allMT_nil : allMT [] = [0] := by
  refine List.Perm.eq_of_pairwise (le := (· < ·)) (fun a b _ _ h1 h2 => by omega) (allMT_asc []) (List.pairwise_singleton _ _) ?_
  have n1 : (allMT []).Nodup := List.Pairwise.imp (S := fun a b => a ≠ b) (fun {a b} h => by omega) (allMT_asc [])
  refine (List.perm_ext_iff_of_nodup n1 (by simp)).mpr fun k => ?_
  rw [mem_allMT (fun p hp => by cases hp), mt_nil]
  simp
open Classical in
noncomputable def longerL (ms : List Nat) (p : List Nat) : List Nat := (List.range 64).filter fun m => decide (Longer ms p m)
theorem longerL_asc (ms p : List Nat) : (longerL ms p).Pairwise (· < ·) := List.Pairwise.filter _ List.pairwise_lt_range
theorem longerL_len (ms p : List Nat) : (longerL ms p).length ≤ 64 := Nat.le_trans (List.length_filter_le _ _) (by rw [List.length_range]; exact Nat.le_refl _)
theorem longer_lt {ms p : List Nat} (hm : ∀ m ∈ ms, m < 64) (hp : ∀ k ∈ p, k < 6) {m : Nat} (h : Longer ms p m) : m < 64 ∧ m ≠ 0 := by
  obtain ⟨c, hc, hh⟩ := h
  rcases hh with ⟨h1, rfl⟩ | ⟨h1, k, hk, rfl⟩
  · exact ⟨hm _ hc, fun z => h1 (by rw [z]; simp)⟩
  · have hk2 : 2 ^ k < 2 ^ 6 := Nat.pow_lt_pow_right (by decide) (hp k hk)
    refine ⟨Nat.or_lt_two_pow (n := 6) (hm c hc) hk2, fun z => ?_⟩
    have := or_bit c k k
    rw [z] at this
    simp at this
open Classical in
theorem mem_longerL {ms p : List Nat} (hm : ∀ m ∈ ms, m < 64) (hp : ∀ k ∈ p, k < 6) {m : Nat} : m ∈ longerL ms p ↔ Longer ms p m := by
  unfold longerL
  rw [List.mem_filter, List.mem_range, decide_eq_true_iff]
  exact ⟨fun z => z.2, fun z => ⟨(longer_lt hm hp z).1, z⟩⟩
theorem least_longer {ls : List (List Nat)} {p : List Nat} (h : ∀ q ∈ ls ++ [p], ∀ k ∈ q, k < 6) (hp : p.Pairwise (· < ·)) : least (longerL (allMT ls) p) = allMT (ls ++ [p]) := by
  have h1 : ∀ q ∈ ls, ∀ k ∈ q, k < 6 := fun q hq => h q (List.mem_append_left _ hq)
  have h2 : ∀ k ∈ p, k < 6 := h p (List.mem_append_right _ (List.mem_singleton.mpr rfl))
  have hm : ∀ m ∈ allMT ls, m < 64 := fun m hm => List.mem_range.mp (List.mem_filter.mp hm).1
  have a1 : (least (longerL (allMT ls) p)).Pairwise (· < ·) := List.Pairwise.filter _ (longerL_asc _ _)
  have nn : ∀ {l : List Nat}, l.Pairwise (· < ·) → l.Nodup := fun {l} hl => List.Pairwise.imp (S := fun a b => a ≠ b) (fun {a b} h => by omega) hl
  refine List.Perm.eq_of_pairwise (le := (· < ·)) (fun a b _ _ h1 h2 => by omega) a1 (allMT_asc _) ((List.perm_ext_iff_of_nodup (nn a1) (nn (allMT_asc _))).mpr fun k => ?_)
  rw [mem_allMT h]
  exact berge hp (fun m => mem_allMT h1) (fun m => mem_longerL hm h2) k
end FM
/-! Faultworks, part A: what an expression, a test, a statement gives upon plain data. -/
namespace Fw
open PySem PySem.Spec PyProof.Rows L2

/-! ### a value that stands for data -/
theorem sqt_mono {K : PySem.W.Frag} {H H' : Hp} {a : Addr} {xs : List V} (e : Same H H') (h : SqT K H a xs) : SqT K H' a xs := by
  rcases h with (h | ⟨o, h⟩) | h
  · exact .inl (.inl (e _ _ h))
  · exact .inl (.inr ⟨o, e _ _ h⟩)
  · exact .inr h

/-- the lists that are being filled: data do not read off them -/
abbrev Ban := Addr → Prop
mutual
inductive At (K : PySem.W.Frag) (H : Hp) (B : Ban) : V → PyData → Prop
  | non : At K H B .non .none
  | bl (b : Bool) : At K H B (.bl b) (.bool b)
  | int (i : Int) : At K H B (.int i) (.int i)
  | lst {a : Addr} {xs : List V} {ds : List PyData} (h : H a = some (.lst xs)) (nb : ¬ B a) (g : AtAll K H B xs ds) : At K H B (.ref a) (.list ds)
  | tup {a : Addr} {xs : List V} {ds : List PyData} (h : SqT K H a xs) (g : AtAll K H B xs ds) : At K H B (.ref a) (.tuple ds)
inductive AtAll (K : PySem.W.Frag) (H : Hp) (B : Ban) : List V → List PyData → Prop
  | nil : AtAll K H B [] []
  | cons {v : V} {vs : List V} {d : PyData} {ds : List PyData} (h : At K H B v d) (g : AtAll K H B vs ds) : AtAll K H B (v :: vs) (d :: ds)
end
/-- the banned are known -/
def Dom (H : Hp) (B : Ban) : Prop := ∀ a, B a → H a ≠ none
theorem Dom.mono {H H' : Hp} {B : Ban} (h : Dom H B) (e : Same H H') : Dom H' B := fun a b z => by
  cases q : H a with
  | none => exact h a b q
  | some o => rw [e a o q] at z; cases z
theorem Dom.no {H : Hp} {B : Ban} (h : Dom H B) {p : Addr} (e : H p = none) : ¬ B p := fun b => h p b e

section
variable {K : PySem.W.Frag} {H H' : Hp} {B : Ban}
mutual
theorem at_mono (e : Same H H') : ∀ (d : PyData) (v : V), At K H B v d → At K H' B v d
  | .none, _, h => by cases h; exact .non
  | .bool _, _, h => by cases h; exact .bl _
  | .int _, _, h => by cases h; exact .int _
  | .str _, _, h => by cases h
  | .dict _, _, h => by cases h
  | .list ds, _, h => by
    cases h with
    | lst h nb g => exact .lst (e _ _ h) nb (atAll_mono e ds _ g)
  | .tuple ds, _, h => by
    cases h with
    | tup h g => exact .tup (sqt_mono e h) (atAll_mono e ds _ g)
theorem atAll_mono (e : Same H H') : ∀ (ds : List PyData) (vs : List V), AtAll K H B vs ds → AtAll K H' B vs ds
  | [], _, h => by cases h; exact .nil
  | d :: ds, _, h => by
    cases h with
    | cons h g => exact .cons (at_mono e d _ h) (atAll_mono e ds _ g)
end
theorem At.mono {v : V} {d : PyData} (h : At K H B v d) (e : Same H H') : At K H' B v d := at_mono e d v h
theorem AtAll.mono {v : List V} {d : List PyData} (h : AtAll K H B v d) (e : Same H H') : AtAll K H' B v d := atAll_mono e d v h
mutual
theorem at_dp : ∀ (d : PyData) (v : V), At K H B v d → Dp K H v d
  | .none, _, h => by cases h; exact .non
  | .bool _, _, h => by cases h; exact .bl _
  | .int _, _, h => by cases h; exact .int _
  | .str _, _, h => by cases h
  | .dict _, _, h => by cases h
  | .list ds, _, h => by
    cases h with
    | lst h nb g => exact .lst (.of h) (atAll_dp ds _ g)
  | .tuple ds, _, h => by
    cases h with
    | tup h g => exact .tup h (atAll_dp ds _ g)
theorem atAll_dp : ∀ (ds : List PyData) (vs : List V), AtAll K H B vs ds → DpAll K H vs ds
  | [], _, h => by cases h; exact .nil
  | d :: ds, _, h => by
    cases h with
    | cons h g => exact .cons (at_dp d _ h) (atAll_dp ds _ g)
end
theorem At.dp {v : V} {d : PyData} (h : At K H B v d) : Dp K H v d := at_dp d v h
theorem AtAll.len : ∀ {vs : List V} {ds : List PyData}, AtAll K H B vs ds → vs.length = ds.length
  | _, _, .nil => rfl
  | _, _, .cons _ g => by rw [List.length_cons, List.length_cons, AtAll.len g]
theorem AtAll.get : ∀ {vs : List V} {ds : List PyData} {i : Nat} {d : PyData}, AtAll K H B vs ds → ds[i]? = some d → ∃ v, vs[i]? = some v ∧ At K H B v d
  | _, _, _, _, .nil, e => by simp at e
  | _, _, 0, _, .cons h _, e => by simp at e; subst e; exact ⟨_, rfl, h⟩
  | _, _, i + 1, d, .cons _ g, e => by
    obtain ⟨v, h1, h2⟩ := AtAll.get (i := i) (d := d) g (by simpa using e)
    exact ⟨v, by simpa using h1, h2⟩
theorem AtAll.app : ∀ {vs ws : List V} {ds es : List PyData}, AtAll K H B vs ds → AtAll K H B ws es → AtAll K H B (vs ++ ws) (ds ++ es)
  | _, _, _, _, .nil, h => h
  | _, _, _, _, .cons h g, k => .cons h (AtAll.app g k)
theorem AtAll.one {v : V} {d : PyData} (h : At K H B v d) : AtAll K H B [v] [d] := .cons h .nil
theorem AtAll.ints : ∀ {ns : List Int}, AtAll K H B (ns.map V.int) (ns.map PyData.int)
  | [] => .nil
  | _ :: _ => .cons (.int _) AtAll.ints
theorem AtAll.of_ints : ∀ {ns : List Int} {vs : List V}, AtAll K H B vs (ns.map PyData.int) → vs = ns.map V.int
  | [], _, h => by cases h; rfl
  | n :: ns, _, h => by
    cases h with
    | cons h g => cases h; rw [AtAll.of_ints g]; rfl
theorem AtAll.take : ∀ {vs : List V} {ds : List PyData} (n : Nat), AtAll K H B vs ds → AtAll K H B (vs.take n) (ds.take n)
  | _, _, 0, _ => by rw [List.take_zero, List.take_zero]; exact .nil
  | _, _, _ + 1, .nil => .nil
  | _, _, n + 1, .cons h g => .cons h (AtAll.take n g)
theorem AtAll.drop : ∀ {vs : List V} {ds : List PyData} (n : Nat), AtAll K H B vs ds → AtAll K H B (vs.drop n) (ds.drop n)
  | _, _, 0, h => h
  | _, _, _ + 1, .nil => .nil
  | _, _, n + 1, .cons _ g => AtAll.drop n g
end
theorem same_new {H : Hp} {p : Addr} {o : HO} (h : H p = none) : Same H (upd H p o) := fun b x e => by
  rw [upd_ne (ne_of_none e h)]
  exact e
/-- what H does not know may change -/
theorem Same.mut {H H' : Hp} {p : Addr} {o : HO} (e : Same H H') (h : H p = none) : Same H (upd H' p o) := fun b x hb => by
  rw [upd_ne (ne_of_none hb h)]
  exact e b x hb

/-! ### the slots as data -/
abbrev DEnv := List (Option PyData)
structure Env (K : PySem.W.Frag) (H : Hp) (B : Ban) (σ : L2.St) (ρ : DEnv) : Prop where
  dom : Dom H B
  len : σ.length = ρ.length
  get : ∀ (i : Nat) (d : PyData), ρ[i]? = some (some d) → ∃ v, σ[i]? = some (some v) ∧ At K H B v d
section
variable {K : PySem.W.Frag} {H H' : Hp} {B : Ban} {σ : L2.St} {ρ ρ' : DEnv}
theorem Env.mono (h : Env K H B σ ρ) (e : Same H H') : Env K H' B σ ρ := ⟨h.dom.mono e, h.len, fun i d q => let ⟨v, a, b⟩ := h.get i d q; ⟨v, a, b.mono e⟩⟩
theorem Env.set (h : Env K H B σ ρ) (i : Nat) {v : V} {d : PyData} (a : At K H B v d) : Env K H B (σ.set i (some v)) (ρ.set i (some d)) := by
  refine ⟨h.dom, by rw [List.length_set, List.length_set, h.len], fun j d' q => ?_⟩
  by_cases e : i = j
  · subst e
    by_cases hi : i < ρ.length
    · rw [List.getElem?_set_self hi] at q
      cases q
      exact ⟨v, List.getElem?_set_self (by rw [h.len]; exact hi), a⟩
    · rw [List.getElem?_eq_none (by rw [List.length_set]; omega)] at q
      cases q
  · rw [List.getElem?_set_ne e] at q ⊢
    exact h.get j d' q
theorem Env.forget (h : Env K H B σ ρ) (i : Nat) : Env K H B (σ.set i none) (ρ.set i none) := by
  refine ⟨h.dom, by rw [List.length_set, List.length_set, h.len], fun j d' q => ?_⟩
  by_cases e : i = j
  · subst e
    by_cases hi : i < ρ.length
    · rw [List.getElem?_set_self hi] at q
      cases q
    · rw [List.getElem?_eq_none (by rw [List.length_set]; omega)] at q
      cases q
  · rw [List.getElem?_set_ne e] at q ⊢
    exact h.get j d' q
/-- less is known -/
def Le (ρ' ρ : DEnv) : Prop := ρ'.length = ρ.length ∧ ∀ (i : Nat) (d : PyData), ρ'[i]? = some (some d) → ρ[i]? = some (some d)
theorem Le.refl (ρ : DEnv) : Le ρ ρ := ⟨rfl, fun _ _ h => h⟩
theorem Le.nil : Le [] [] := ⟨rfl, fun _ _ h => h⟩
theorem Le.same {o : Option PyData} (h : Le ρ' ρ) : Le (o :: ρ') (o :: ρ) := ⟨by rw [List.length_cons, List.length_cons, h.1], fun i d q => by
  cases i with
  | zero => exact q
  | succ i => exact h.2 i d q⟩
theorem Le.drop {o : Option PyData} (h : Le ρ' ρ) : Le (none :: ρ') (o :: ρ) := ⟨by rw [List.length_cons, List.length_cons, h.1], fun i d q => by
  cases i with
  | zero => simp at q
  | succ i => exact h.2 i d q⟩
theorem Env.le (h : Env K H B σ ρ) (l : Le ρ' ρ) : Env K H B σ ρ' := ⟨h.dom, h.len.trans l.1.symm, fun i d q => h.get i d (l.2 i d q)⟩
end
def startD (N : List Str) (ds : List PyData) : DEnv := ds.map some ++ List.replicate (N.length - ds.length) none
theorem env_start {K : PySem.W.Frag} {H : Hp} {B : Ban} {N : List Str} {vs : List V} {ds : List PyData} (hd : Dom H B) (h : AtAll K H B vs ds) : Env K H B (L2.start N vs) (startD N ds) := by
  unfold L2.start startD
  refine ⟨hd, by rw [List.length_append, List.length_append, List.length_map, List.length_map, List.length_replicate, List.length_replicate, h.len], fun i d q => ?_⟩
  by_cases hi : i < ds.length
  · rw [List.getElem?_append_left (by rw [List.length_map]; exact hi), List.getElem?_map] at q
    cases e : ds[i]? with
    | none => rw [e] at q; cases q
    | some d' =>
      rw [e] at q
      have e2 : d' = d := Option.some.inj (Option.some.inj q)
      subst e2
      obtain ⟨v, e1, a⟩ := h.get e
      exact ⟨v, by rw [List.getElem?_append_left (by rw [List.length_map, h.len]; exact hi), List.getElem?_map, e1]; rfl, a⟩
  · rw [List.getElem?_append_right (by rw [List.length_map]; omega), List.getElem?_replicate] at q
    split at q <;> cases q

/-! ### what is wanted of the machine, as a reading -/
def wE (X : Cx) (e : Expr) : TE := fun σ H Q => ∀ (pins : List (Addr × Obj)) (s : Shared), Inv X pins σ H s → wpAny (model X.prog X.w) X.A (eval e X.env) (EP X pins σ Q) X.xe s
def wT (X : Cx) (e : Expr) : TT := fun σ H Q => ∀ (pins : List (Addr × Obj)) (s : Shared), Inv X pins σ H s → wpAny (model X.prog X.w) X.A (isTrue e X.env (eval e X.env)) (TP X pins σ Q) X.xe s
def wW (X : Cx) (e : Expr) : TT := fun σ H Q => ∀ (whole : Sem Value) (pins : List (Addr × Obj)) (s : Shared), Inv X pins σ H s → wpAny (model X.prog X.w) X.A (isTrue e X.env whole) (TP X pins σ Q) X.xe s
def wA (X : Cx) (es : List Expr) : TA := fun σ H Q => ∀ (pos : Pos) (pins : List (Addr × Obj)) (s : Shared), Inv X pins σ H s → wpAny (model X.prog X.w) X.A (spliced (backTo pos (starEach es X.env))) (AP X pins σ Q) X.xe s
def wS (X : Cx) (st : Stmt) : TS := fun D σ H => ∀ (pins : List (Addr × Obj)) (s : Shared), Inv X pins σ H s → wpAny (model X.prog X.w) X.A (exec st X.env) (SP X pins D) X.xe s
def wSs (X : Cx) (st : List Stmt) : TS := fun D σ H => ∀ (pins : List (Addr × Obj)) (s : Shared), Inv X pins σ H s → wpAny (model X.prog X.w) X.A (execs st X.env) (SP X pins D) X.xe s
section
variable {X : Cx} {e : Expr} {es : List Expr} {st : Stmt} {sts : List Stmt}
theorem pe_w : PE X e (wE X e) := ⟨fun pins s σ H Q I h => h pins s I⟩
theorem pt_w : PT X e (wT X e) := ⟨fun pins s σ H Q I h => h pins s I⟩
theorem pw_w : PW X e (wW X e) := ⟨fun wh pins s σ H Q I h => h wh pins s I⟩
theorem pa_w : PA X es (wA X es) := ⟨fun pos pins s σ H Q I h => h pos pins s I⟩
theorem ps_w : PS X st (wS X st) := ⟨fun pins s σ H D I h => h pins s I⟩
theorem pss_w : PSs X sts (wSs X sts) := ⟨fun pins s σ H D I h => h pins s I⟩
theorem PE.w {t : TE} (h : PE X e t) {σ : L2.St} {H : Hp} {Q : VK} (q : t σ H Q) : wE X e σ H Q := fun pins s I => h.run pins s σ H Q I q
theorem PT.w {t : TT} (h : PT X e t) {σ : L2.St} {H : Hp} {Q : Bool → Hp → Prop} (q : t σ H Q) : wT X e σ H Q := fun pins s I => h.run pins s σ H Q I q
theorem PW.w {t : TT} (h : PW X e t) {σ : L2.St} {H : Hp} {Q : Bool → Hp → Prop} (q : t σ H Q) : wW X e σ H Q := fun wh pins s I => h.run wh pins s σ H Q I q
theorem PA.w {t : TA} (h : PA X es t) {σ : L2.St} {H : Hp} {Q : List V → Hp → Prop} (q : t σ H Q) : wA X es σ H Q := fun pos pins s I => h.run pos pins s σ H Q I q
theorem PS.w {t : TS} (h : PS X st t) {σ : L2.St} {H : Hp} {D : Ends} (q : t D σ H) : wS X st D σ H := fun pins s I => h.run pins s σ H D I q
theorem PSs.w {t : TS} (h : PSs X sts t) {σ : L2.St} {H : Hp} {D : Ends} (q : t D σ H) : wSs X sts D σ H := fun pins s I => h.run pins s σ H D I q
end

/-! ### the judgements upon data -/
def EX (X : Cx) (e : Expr) (ρ : DEnv) (d : PyData) : Prop := ∀ (σ : L2.St) (H : Hp) (B : Ban) (Q : VK), Env X.K H B σ ρ → (∀ v H', Same H H' → At X.K H' B v d → Q v H') → wE X e σ H Q
def TX (X : Cx) (e : Expr) (ρ : DEnv) (b : Bool) : Prop := ∀ (σ : L2.St) (H : Hp) (B : Ban) (Q : Bool → Hp → Prop), Env X.K H B σ ρ → (∀ H', Same H H' → Q b H') → wT X e σ H Q
def WX (X : Cx) (e : Expr) (ρ : DEnv) (b : Bool) : Prop := ∀ (σ : L2.St) (H : Hp) (B : Ban) (Q : Bool → Hp → Prop), Env X.K H B σ ρ → (∀ H', Same H H' → Q b H') → wW X e σ H Q
def AX (X : Cx) (es : List Expr) (ρ : DEnv) (ds : List PyData) : Prop := ∀ (σ : L2.St) (H : Hp) (B : Ban) (Q : List V → Hp → Prop), Env X.K H B σ ρ → (∀ vs H', Same H H' → AtAll X.K H' B vs ds → Q vs H') → wA X es σ H Q
inductive Out where
  | nx (ρ : DEnv) | rt (d : PyData)
def Fin (K : PySem.W.Frag) (H : Hp) (B : Ban) (D : Ends) : Out → Prop
  | .nx ρ => ∀ σ' H', Same H H' → Env K H' B σ' ρ → D.nx σ' H'
  | .rt d => ∀ v H', Same H H' → At K H' B v d → D.rt v H'
def SX (X : Cx) (st : Stmt) (ρ : DEnv) (o : Out) : Prop := ∀ (σ : L2.St) (H : Hp) (B : Ban) (D : Ends), Env X.K H B σ ρ → Fin X.K H B D o → wS X st D σ H
def BX (X : Cx) (sts : List Stmt) (ρ : DEnv) (o : Out) : Prop := ∀ (σ : L2.St) (H : Hp) (B : Ban) (D : Ends), Env X.K H B σ ρ → Fin X.K H B D o → wSs X sts D σ H
theorem Fin.mono {K : PySem.W.Frag} {H H' : Hp} {B : Ban} {D : Ends} {o : Out} (e : Same H H') (h : Fin K H B D o) : Fin K H' B D o := by
  cases o with
  | nx ρ => exact fun σ' H2 s2 q => h σ' H2 (e.trans s2) q
  | rt d => exact fun v H2 s2 q => h v H2 (e.trans s2) q

section
variable {X : Cx} {a b c e : Expr} {es : List Expr} {ρ ρ1 ρ2 : DEnv} {x y z d : PyData} {ds : List PyData} {pos : Pos} {u : Bool}

/-! ### names, constants -/
theorem ex_var (i : Nat) {n : Str} (hN : X.N[i]? = some n := by rfl) (hρ : ρ[i]? = some (some d) := by rfl) (hv : Vis X.env.scope n := by first | exact Or.inl rfl | exact Or.inr (Or.inl rfl) | exact Or.inr (Or.inr rfl)) (hd : (n == ("__debug__" : Str)) = false := by decide)
    (hcd : (n == ("__classdict__" : Str)) = false := by decide) : EX X (.Name n pos) ρ d := fun σ H B Q hE q => by
  obtain ⟨v, h1, h2⟩ := hE.get i d hρ
  exact PE.w (pe_var hN hv hd hcd) ⟨v, h1, q v H (Same.refl H) h2⟩
theorem ex_int {i : Int} {j} : EX X (.Constant (.int i) j pos) ρ (.int i) := fun σ H B Q _ q => PE.w pe_int (q _ H (Same.refl H) (.int i))
theorem ex_bl {k : Bool} {j} : EX X (.Constant (.bool k) j pos) ρ (.bool k) := fun σ H B Q _ q => PE.w pe_bl (q _ H (Same.refl H) (.bl k))
/-- a constant of the module -/
theorem ex_globI {n : Str} {i : Int} (hm : ∃ t, X.mg n = some (.int i t)) (hg : Gl X n := by rfl) (hd : (n == ("__debug__" : Str)) = false := by decide) : EX X (.Name n pos) ρ (.int i) := fun σ H B Q _ q => by
  obtain ⟨t, hm⟩ := hm
  exact PE.w (pe_glob hg hm (show RelV (.int i) (.int i t) from ⟨t, rfl⟩) hd) (q _ H (Same.refl H) (.int i))
def GlT (K : PySem.W.Frag) (mg : Str → Option Value) (n : Str) (ds : List PyData) : Prop := ∃ a xs, mg n = some (.ref a) ∧ ∀ H B, SqT K H a xs ∧ AtAll K H B xs ds
theorem ex_globT {n : Str} (hm : GlT X.K X.mg n ds) (hg : Gl X n := by rfl) (hd : (n == ("__debug__" : Str)) = false := by decide) : EX X (.Name n pos) ρ (.tuple ds) := fun σ H B Q _ q => by
  obtain ⟨a, xs, hm, h⟩ := hm
  exact PE.w (pe_glob hg hm (show RelV (.ref a) (.ref a) from rfl) hd) (q _ H (Same.refl H) (.tup (h H B).1 (h H B).2))
theorem EX.is (h : EX X e ρ d) (q : d = x) : EX X e ρ x := q ▸ h
theorem EX.le (h : EX X e ρ1 d) (l : Le ρ1 ρ) : EX X e ρ d := fun σ H B Q hE q => h σ H B Q (hE.le l) q

/-! ### arguments, displays -/
theorem ax_nil : AX X [] ρ [] := fun σ H B Q _ q => PA.w pa_nil (q [] H (Same.refl H) .nil)
theorem ax_cons (ha : EX X a ρ d) (hr : AX X es ρ ds) (he : starEach (a :: es) X.env = (false, eval a X.env) :: starEach es X.env := by rfl) : AX X (a :: es) ρ (d :: ds) := fun σ H B Q hE q =>
  PA.w (pa_cons pe_w pa_w he) (ha σ H B _ hE fun v H1 s1 a1 => hr σ H1 B _ (hE.mono s1) fun vs H2 s2 a2 => q _ H2 (s1.trans s2) (.cons (a1.mono s2) a2))
theorem ex_tup {k} (h : AX X es ρ ds) (hl : ds.length ≤ 100000 := by exact Nat.le_of_ble_eq_true rfl) : EX X (.Tuple es k pos) ρ (.tuple ds) := fun σ H B Q hE q =>
  PE.w (pe_tup pa_w) (h σ H B _ hE fun vs H1 s1 a1 => ⟨by rw [a1.len]; exact Nat.le_trans hl (by decide), fun p hp => q _ _ (s1.trans (same_new hp)) (.tup (.of upd_same) (a1.mono (same_new hp)))⟩)
theorem ex_lst (h : AX X es ρ ds) (hl : ds.length ≤ 100000 := by exact Nat.le_of_ble_eq_true rfl) : EX X (.List es pos) ρ (.list ds) := fun σ H B Q hE q =>
  PE.w (pe_lst pa_w) (h σ H B _ hE fun vs H1 s1 a1 => ⟨by rw [a1.len]; exact Nat.le_trans hl (by decide), fun p hp => q _ _ (s1.trans (same_new hp)) (.lst upd_same ((hE.dom.mono s1).no hp) (a1.mono (same_new hp)))⟩)

/-! ### operators -/
/-- a rule upon values, upon data -/
def RD (K : PySem.W.Frag) (r : R2) (x y z : PyData) : Prop := ∀ (u v : V) (H : Hp) (B : Ban) (Q : VK), Dom H B → At K H B u x → At K H B v y → (∀ w H', Same H H' → At K H' B w z → Q w H') → r u v H Q
theorem ex_op {op : Operator} {r : R2} (ho : OpR X (binaryOp op) r) (hr : RD X.K r x y z) (ha : EX X a ρ x) (hb : EX X b ρ y) : EX X (.BinOp a op b pos) ρ z := fun σ H B Q hE q =>
  PE.w (pe_op ho pe_w pe_w) (ha σ H B _ hE fun v H1 s1 a1 => hb σ H1 B _ (hE.mono s1) fun w H2 s2 a2 => hr _ _ _ B _ (hE.dom.mono (s1.trans s2)) (a1.mono s2) a2 fun z H3 s3 a3 => q z H3 ((s1.trans s2).trans s3) a3)
theorem ex_cmp {op : CmpOp} {r : R2} (ho : OpR X (compareOp op) r) (hr : RD X.K r x y z) (ha : EX X a ρ x) (hb : EX X b ρ y) (hm : behindInMarks op b = false := by first | exact nomark _ | rfl) : EX X (.Compare a [op] [b] pos) ρ z := fun σ H B Q hE q =>
  PE.w (pe_cmpR ho pe_w pe_w hm) (ha σ H B _ hE fun v H1 s1 a1 => hb σ H1 B _ (hE.mono s1) fun w H2 s2 a2 => hr _ _ _ B _ (hE.dom.mono (s1.trans s2)) (a1.mono s2) a2 fun z H3 s3 a3 => q z H3 ((s1.trans s2).trans s3) a3)
theorem tx_cmp {op : CmpOp} {r : R2} (ho : OpR X (compareOp op) r) (hr : RD X.K r x y (.bool u)) (ha : EX X a ρ x) (hb : EX X b ρ y) (hm : behindInMarks op b = false := by first | exact nomark _ | rfl) : TX X (.Compare a [op] [b] pos) ρ u := fun σ H B Q hE q =>
  PT.w (pt_cmpR ho pe_w pe_w hm) (ha σ H B _ hE fun v H1 s1 a1 => hb σ H1 B _ (hE.mono s1) fun w H2 s2 a2 => hr _ _ _ B _ (hE.dom.mono (s1.trans s2)) (a1.mono s2) a2 fun z H3 s3 a3 => by
    cases a3
    exact ⟨u, rfl, q H3 ((s1.trans s2).trans s3)⟩)
theorem ex_chain {op op' : CmpOp} {r r' : R2} {w : PyData} {k : Bool} (ho : OpR X (compareOp op) r) (ho' : OpR X (compareOp op') r') (hr : RD X.K r x y (.bool true)) (hr' : RD X.K r' y w (.bool k)) (ha : EX X a ρ x) (hb : EX X b ρ y) (hc : EX X c ρ w)
    (hm : lastMarks [op, op'] [b, c] = false := by with_unfolding_all rfl) : EX X (.Compare a [op, op'] [b, c] pos) ρ (.bool k) := fun σ H B Q hE q =>
  PE.w (pe_chain ho ho' pe_w pe_w pe_w hm) (ha σ H B _ hE fun v H1 s1 a1 => hb σ H1 B _ (hE.mono s1) fun w H2 s2 a2 => hr _ _ _ B _ (hE.dom.mono (s1.trans s2)) (a1.mono s2) a2 fun z H3 s3 a3 => by
    cases a3
    refine ⟨true, rfl, ?_⟩
    rw [if_pos rfl]
    exact hc σ H3 B _ (hE.mono ((s1.trans s2).trans s3)) fun w' H4 s4 a4 => hr' _ _ _ B _ (hE.dom.mono (((s1.trans s2).trans s3).trans s4)) (a2.mono (s3.trans s4)) a4 fun z' H5 s5 a5 => q z' H5 ((((s1.trans s2).trans s3).trans s4).trans s5) a5)
theorem rd_I0 {g : Int → Int → V} {i j : Int} (h : ∀ (K : PySem.W.Frag) (H : Hp) (B : Ban), At K H B (g i j) z) {K : PySem.W.Frag} : RD K (rI0 g) (.int i) (.int j) z := fun u v H B Q _ a b q => by
  cases a; cases b
  exact ⟨i, j, rfl, rfl, q _ H (Same.refl H) (h K H B)⟩
theorem rd_I {C : Int → Int → Prop} {g : Int → Int → V} {i j : Int} (hc : C i j) (h : ∀ (K : PySem.W.Frag) (H : Hp) (B : Ban), At K H B (g i j) z) {K : PySem.W.Frag} : RD K (rI C g) (.int i) (.int j) z := fun u v H B Q _ a b q => by
  cases a; cases b
  exact ⟨i, j, rfl, rfl, hc, q _ H (Same.refl H) (h K H B)⟩
theorem ex_add {i j : Int} (ha : EX X a ρ (.int i)) (hb : EX X b ρ (.int j)) : EX X (.BinOp a .Add b pos) ρ (.int (i + j)) := ex_op op_add (rd_I0 fun _ _ _ => .int _) ha hb
theorem ex_sub {i j : Int} (ha : EX X a ρ (.int i)) (hb : EX X b ρ (.int j)) : EX X (.BinOp a .Sub b pos) ρ (.int (i - j)) := ex_op op_sub (rd_I0 fun _ _ _ => .int _) ha hb
theorem ex_mul {i j : Int} (ha : EX X a ρ (.int i)) (hb : EX X b ρ (.int j)) (h : CMulW i j) : EX X (.BinOp a .Mult b pos) ρ (.int (i * j)) := ex_op op_mulW (rd_I h fun _ _ _ => .int _) ha hb
theorem ex_fdiv {i j : Int} (ha : EX X a ρ (.int i)) (hb : EX X b ρ (.int j)) (h : CDivW i j) : EX X (.BinOp a .FloorDiv b pos) ρ (.int (i / j)) := ex_op op_fdivW (rd_I h fun _ _ _ => .int _) ha hb
theorem ex_mod {i j : Int} (ha : EX X a ρ (.int i)) (hb : EX X b ρ (.int j)) (h : 0 < j) : EX X (.BinOp a .Mod b pos) ρ (.int (i % j)) := ex_op op_mod (rd_I (C := fun _ j => 0 < j) h fun _ _ _ => .int _) ha hb
theorem ex_shl1 {k : Nat} (ha : EX X a ρ (.int 1)) (hb : EX X b ρ (.int k)) (h : k ≤ 1000) : EX X (.BinOp a .LShift b pos) ρ (.int ((2 ^ k : Nat) : Int)) :=
  ex_op op_shl (rd_I ⟨by omega, by omega, by decide⟩ fun K H B => by
    have e : (1 : Int) * 2 ^ ((k : Int).toNat) = ((2 ^ k : Nat) : Int) := by rw [Int.one_mul, Int.toNat_natCast]; simp
    rw [e]
    exact .int _) ha hb
theorem bitAnd_nat (m n : Nat) : Builtin.bitAnd (m : Int) (n : Int) = ((m &&& n : Nat) : Int) := by
  rw [bitAnd_pp (by omega) (by omega), Int.toNat_natCast, Int.toNat_natCast]
theorem bitOr_nat (m n : Nat) : Builtin.bitOr (m : Int) (n : Int) = ((m ||| n : Nat) : Int) := by
  rw [Bits.bitOr_pp (by omega) (by omega), Int.toNat_natCast, Int.toNat_natCast]
theorem ex_shr {m k : Nat} (ha : EX X a ρ (.int m)) (hb : EX X b ρ (.int k)) : EX X (.BinOp a .RShift b pos) ρ (.int ((m >>> k : Nat) : Int)) :=
  ex_op op_shr (rd_I (C := fun _ j => 0 ≤ j) (g := fun i j => .int (i / 2 ^ j.toNat)) (show (0 : Int) ≤ k by omega) fun K H B => by
    have e : (m : Int) / 2 ^ ((k : Int).toNat) = ((m >>> k : Nat) : Int) := by rw [Int.toNat_natCast, Nat.shiftRight_eq_div_pow]; simp
    rw [e]
    exact .int _) ha hb
theorem ex_band {m k : Nat} (ha : EX X a ρ (.int m)) (hb : EX X b ρ (.int k)) : EX X (.BinOp a .BitAnd b pos) ρ (.int ((m &&& k : Nat) : Int)) :=
  ex_op op_and (rd_I0 fun K H B => by rw [bitAnd_nat]; exact .int _) ha hb
theorem ex_bor {m k : Nat} (ha : EX X a ρ (.int m)) (hb : EX X b ρ (.int k)) : EX X (.BinOp a .BitOr b pos) ρ (.int ((m ||| k : Nat) : Int)) :=
  ex_op op_or (rd_I0 fun K H B => by rw [bitOr_nat]; exact .int _) ha hb
theorem ex_neg {i : Int} (ha : EX X a ρ (.int i)) : EX X (.UnaryOp .USub a pos) ρ (.int (-i)) := fun σ H B Q hE q =>
  PE.w (pe_un un_neg pe_w) (ha σ H B _ hE fun v H1 s1 a1 => by cases a1; exact ⟨i, rfl, q _ H1 s1 (.int _)⟩)
/-- comparisons of ints -/
theorem rdl {i j : Int} {K} : RD K (rI0 fun i j => .bl (decide (i < j))) (.int i) (.int j) (.bool (decide (i < j))) := rd_I0 fun _ _ _ => .bl _
theorem rdle {i j : Int} {K} : RD K (rI0 fun i j => .bl (decide (i ≤ j))) (.int i) (.int j) (.bool (decide (i ≤ j))) := rd_I0 fun _ _ _ => .bl _
theorem rdg {i j : Int} {K} : RD K (rI0 fun i j => .bl (decide (j < i))) (.int i) (.int j) (.bool (decide (j < i))) := rd_I0 fun _ _ _ => .bl _
theorem rdge {i j : Int} {K} : RD K (rI0 fun i j => .bl (decide (j ≤ i))) (.int i) (.int j) (.bool (decide (j ≤ i))) := rd_I0 fun _ _ _ => .bl _
theorem ex_lt {i j : Int} (ha : EX X a ρ (.int i)) (hb : EX X b ρ (.int j)) : EX X (.Compare a [.Lt] [b] pos) ρ (.bool (decide (i < j))) := ex_cmp op_lt rdl ha hb
theorem ex_gt {i j : Int} (ha : EX X a ρ (.int i)) (hb : EX X b ρ (.int j)) : EX X (.Compare a [.Gt] [b] pos) ρ (.bool (decide (j < i))) := ex_cmp op_gt rdg ha hb
theorem tx_lt {i j : Int} (ha : EX X a ρ (.int i)) (hb : EX X b ρ (.int j)) : TX X (.Compare a [.Lt] [b] pos) ρ (decide (i < j)) := tx_cmp op_lt rdl ha hb
theorem ex_le2 {i j k : Int} (h : i ≤ j) (ha : EX X a ρ (.int i)) (hb : EX X b ρ (.int j)) (hc : EX X c ρ (.int k)) (hm : lastMarks [.LtE, .LtE] [b, c] = false := by with_unfolding_all rfl) : EX X (.Compare a [.LtE, .LtE] [b, c] pos) ρ (.bool (decide (j ≤ k))) :=
  ex_chain op_le op_le (rd_I0 fun _ _ _ => by rw [decide_eq_true h]; exact .bl _) (rd_I0 fun _ _ _ => .bl _) ha hb hc hm
/-- == and != of data of any depth -/
theorem rdeq {K} (hx : SeqAt.shaped x = true) (hy : SeqAt.shaped y = true) : RD K (rEqD K) x y (.bool (PyData.eqv x y)) := fun u v H B Q _ a b q => ⟨x, y, a.dp, b.dp, hx, hy, q _ H (Same.refl H) (.bl _)⟩
theorem rdne {K} (hx : SeqAt.shaped x = true) (hy : SeqAt.shaped y = true) : RD K (rNeD K) x y (.bool (!PyData.eqv x y)) := fun u v H B Q _ a b q => ⟨x, y, a.dp, b.dp, hx, hy, q _ H (Same.refl H) (.bl _)⟩
theorem ex_eq {k : Nat} (hr : Room k X.A) (hx : SeqAt.shaped x = true) (hy : SeqAt.shaped y = true) (ha : EX X a ρ x) (hb : EX X b ρ y) : EX X (.Compare a [.Eq] [b] pos) ρ (.bool (PyData.eqv x y)) := ex_cmp (op_eqD hr.units) (rdeq hx hy) ha hb
theorem ex_ne {k : Nat} (hr : Room k X.A) (hx : SeqAt.shaped x = true) (hy : SeqAt.shaped y = true) (ha : EX X a ρ x) (hb : EX X b ρ y) : EX X (.Compare a [.NotEq] [b] pos) ρ (.bool (!PyData.eqv x y)) := ex_cmp (op_neD hr.units) (rdne hx hy) ha hb
theorem tx_eq {k : Nat} (hr : Room k X.A) (hx : SeqAt.shaped x = true) (hy : SeqAt.shaped y = true) (ha : EX X a ρ x) (hb : EX X b ρ y) : TX X (.Compare a [.Eq] [b] pos) ρ (PyData.eqv x y) := tx_cmp (op_eqD hr.units) (rdeq hx hy) ha hb
theorem tx_ne {k : Nat} (hr : Room k X.A) (hx : SeqAt.shaped x = true) (hy : SeqAt.shaped y = true) (ha : EX X a ρ x) (hb : EX X b ρ y) : TX X (.Compare a [.NotEq] [b] pos) ρ (!PyData.eqv x y) := tx_cmp (op_neD hr.units) (rdne hx hy) ha hb

/-! ### tests, and, or, not -/
theorem tx_val (h : EX X e ρ (.bool u)) (he : ∀ whole, isTrue e X.env whole = (do let v ← whole; standAt e.pos; holding [v] (truthy v)) := by intro _; rfl) : TX X e ρ u := fun σ H B Q hE q =>
  PT.w (pt_val pe_w he) (h σ H B _ hE fun v H1 s1 a1 => by cases a1; exact ⟨u, rfl, q H1 s1⟩)
theorem tx_not (h : TX X a ρ u) : TX X (.UnaryOp .Not a pos) ρ (!u) := fun σ H B Q hE q => PT.w (pt_not pt_w) (h σ H B _ hE fun H1 s1 => q H1 s1)
theorem TX.is {k : Bool} (h : TX X e ρ u) (q : u = k) : TX X e ρ k := q ▸ h
theorem tx_w (h : WX X e ρ u) : TX X e ρ u := fun σ H B Q hE q => PT.w (PW.pt pw_w) (h σ H B Q hE q)
theorem pe_nv : PE X e (fun _ _ _ => False) := ⟨fun _ _ _ _ _ _ h => h.elim⟩
theorem pw_nv : PW X e (fun _ _ _ => False) := ⟨fun _ _ _ _ _ _ _ h => h.elim⟩
theorem wx_and1 (h : TX X a ρ u) : WX X (.BoolOp .And [a] pos) ρ u := fun σ H B Q hE q => PW.w (pw_and1 pt_w) (h σ H B Q hE q)
theorem wx_or1 (h : TX X a ρ u) : WX X (.BoolOp .Or [a] pos) ρ u := fun σ H B Q hE q => PW.w (pw_or1 pt_w) (h σ H B Q hE q)
theorem wx_andT {rest : List Expr} (h : TX X a ρ true) (g : WX X (.BoolOp .And (b :: rest) pos) ρ u) : WX X (.BoolOp .And (a :: b :: rest) pos) ρ u := fun σ H B Q hE q =>
  PW.w (pw_and pt_w pw_w) (h σ H B _ hE fun H1 s1 => by
    rw [if_pos rfl]
    exact g σ H1 B Q (hE.mono s1) fun H2 s2 => q H2 (s1.trans s2))
theorem wx_andF {rest : List Expr} (h : TX X a ρ false) : WX X (.BoolOp .And (a :: b :: rest) pos) ρ false := fun σ H B Q hE q =>
  PW.w (pw_and pt_w pw_nv) (h σ H B _ hE fun H1 s1 => iteF (q H1 s1))
theorem wx_orF {rest : List Expr} (h : TX X a ρ false) (g : WX X (.BoolOp .Or (b :: rest) pos) ρ u) : WX X (.BoolOp .Or (a :: b :: rest) pos) ρ u := fun σ H B Q hE q =>
  PW.w (pw_or pt_w pw_w) (h σ H B _ hE fun H1 s1 => iteF (g σ H1 B Q (hE.mono s1) fun H2 s2 => q H2 (s1.trans s2)))
theorem wx_orT {rest : List Expr} (h : TX X a ρ true) : WX X (.BoolOp .Or (a :: b :: rest) pos) ρ true := fun σ H B Q hE q =>
  PW.w (pw_or pt_w pw_nv) (h σ H B _ hE fun H1 s1 => iteT (q H1 s1))
/-- as values -/
theorem ex_one {op} (h : EX X a ρ d) : EX X (.BoolOp op [a] pos) ρ d := fun σ H B Q hE q => PE.w (pe_one pe_w) (h σ H B Q hE q)
theorem ex_andT {rest : List Expr} (h : EX X a ρ (.bool true)) (g : EX X (.BoolOp .And (b :: rest) pos) ρ d) : EX X (.BoolOp .And (a :: b :: rest) pos) ρ d := fun σ H B Q hE q =>
  PE.w (pe_and pe_w pe_w) (h σ H B _ hE fun v H1 s1 a1 => by
    cases a1
    exact ⟨true, rfl, iteT (g σ H1 B Q (hE.mono s1) fun w H2 s2 a2 => q w H2 (s1.trans s2) a2)⟩)
theorem ex_andF {rest : List Expr} (h : EX X a ρ (.bool false)) : EX X (.BoolOp .And (a :: b :: rest) pos) ρ (.bool false) := fun σ H B Q hE q =>
  PE.w (pe_and pe_w pe_nv) (h σ H B _ hE fun v H1 s1 a1 => by
    cases a1
    exact ⟨false, rfl, iteF (q _ H1 s1 (.bl false))⟩)
theorem ex_not (h : EX X a ρ (.bool u)) : EX X (.UnaryOp .Not a pos) ρ (.bool (!u)) := fun σ H B Q hE q =>
  PE.w (pe_not pe_w) (h σ H B _ hE fun v H1 s1 a1 => by cases a1; exact ⟨u, rfl, q _ H1 s1 (.bl _)⟩)
theorem ex_ifT (h : TX X c ρ true) (g : EX X a ρ d) : EX X (.IfExp c a b pos) ρ d := fun σ H B Q hE q =>
  PE.w (pe_ifExp pt_w pe_w pe_nv) (h σ H B _ hE fun H1 s1 => iteT (g σ H1 B Q (hE.mono s1) fun w H2 s2 a2 => q w H2 (s1.trans s2) a2))
theorem ex_ifF (h : TX X c ρ false) (g : EX X b ρ d) : EX X (.IfExp c a b pos) ρ d := fun σ H B Q hE q =>
  PE.w (pe_ifExp pt_w pe_nv pe_w) (h σ H B _ hE fun H1 s1 => iteF (g σ H1 B Q (hE.mono s1) fun w H2 s2 a2 => q w H2 (s1.trans s2) a2))
theorem ex_if (h : TX X c ρ u) (g : u = true → EX X a ρ d) (g' : u = false → EX X b ρ d) : EX X (.IfExp c a b pos) ρ d := by
  cases u with
  | true => exact ex_ifT h (g rfl)
  | false => exact ex_ifF h (g' rfl)

/-! ### subscripts -/
theorem ex_ixT {i : Nat} (hi : ds[i]? = some d) (ha : EX X a ρ (.tuple ds)) (hb : EX X b ρ (.int i)) (hs : PlainIx b := by exact fun _ _ => rfl) : EX X (.Subscript a b pos) ρ d := fun σ H B Q hE q =>
  PE.w (pe_ix ix_tup pe_w pe_w hs) (ha σ H B _ hE fun v H1 s1 a1 => hb σ H1 B _ (hE.mono s1) fun w H2 s2 a2 => by
    have a1' := a1.mono s2
    cases a2
    cases a1' with
    | tup h g =>
      obtain ⟨z, hz, az⟩ := g.get hi
      exact ⟨_, _, _, z, rfl, rfl, h, atI_nat hz, q z H2 (s1.trans s2) az⟩)
theorem ex_ixL {i : Nat} (hi : ds[i]? = some d) (ha : EX X a ρ (.list ds)) (hb : EX X b ρ (.int i)) (hs : PlainIx b := by exact fun _ _ => rfl) : EX X (.Subscript a b pos) ρ d := fun σ H B Q hE q =>
  PE.w (pe_ix ix_list pe_w pe_w hs) (ha σ H B _ hE fun v H1 s1 a1 => hb σ H1 B _ (hE.mono s1) fun w H2 s2 a2 => by
    have a1' := a1.mono s2
    cases a2
    cases a1' with
    | lst h nb g =>
      obtain ⟨z, hz, az⟩ := g.get hi
      exact ⟨_, _, _, z, rfl, rfl, .of h, atI_nat hz, q z H2 (s1.trans s2) az⟩)
theorem six_nat (n k : Nat) : HT.sIx n 0 (some (k : Int)) = min k n := HT.sIx_nat n 0 k
theorem ex_take {k : Nat} {p2 : Pos} (hk : k ≤ ds.length) (ha : EX X a ρ (.tuple ds)) (hb : EX X b ρ (.int k)) : EX X (.Subscript a (.Slice none (some b) none p2) pos) ρ (.tuple (ds.take k)) := fun σ H B Q hE q =>
  PE.w (pe_slice sl_tupA pe_w po_none (po_some pe_w)) (ha σ H B _ hE fun v H1 s1 a1 => hb σ H1 B _ (hE.mono s1) fun w H2 s2 a2 => by
    have a1' := a1.mono s2
    cases a2
    cases a1' with
    | @tup t xs _ h g =>
      have hl := g.len
      have e1 : HT.sIx xs.length 0 none = 0 := HT.sIx_none _ _
      have e2 : HT.sIx xs.length xs.length (some (k : Int)) = min k xs.length := HT.sIx_nat _ _ _
      refine ⟨(k : Int), rfl, t, xs, rfl, h, fun hw => ?_, fun _ p hp => ?_⟩
      · have e3 : ds.take k = ds := List.take_of_length_le (by rw [e2] at hw; omega)
        rw [e3] at q
        exact q _ H2 (s1.trans s2) (.tup h g)
      · refine q _ _ ((s1.trans s2).trans (same_new hp)) (.tup (.of upd_same) ?_)
        have e3 : cutV xs none (some (k : Int)) = xs.take k := by
          unfold cutV
          rw [e1, e2, List.drop_zero, Nat.sub_zero, Nat.min_eq_left (by omega)]
        rw [e3]
        exact (g.take k).mono (same_new hp))
theorem ex_drop {k : Nat} {p2 : Pos} (hk : k ≤ ds.length) (ha : EX X a ρ (.tuple ds)) (hb : EX X b ρ (.int k)) : EX X (.Subscript a (.Slice (some b) none none p2) pos) ρ (.tuple (ds.drop k)) := fun σ H B Q hE q =>
  PE.w (pe_slice sl_tupA pe_w (po_some pe_w) po_none) (ha σ H B _ hE fun v H1 s1 a1 => hb σ H1 B _ (hE.mono s1) fun w H2 s2 a2 => by
    have a1' := a1.mono s2
    cases a2
    cases a1' with
    | @tup t xs _ h g =>
      have hl := g.len
      have e1 : HT.sIx xs.length xs.length none = xs.length := HT.sIx_none _ _
      have e2 : HT.sIx xs.length 0 (some (k : Int)) = min k xs.length := HT.sIx_nat _ _ _
      refine ⟨(k : Int), rfl, t, xs, rfl, h, fun hw => ?_, fun _ p hp => ?_⟩
      · have e3 : k = 0 ∨ xs.length = 0 := by rw [e2] at hw; omega
        have e4 : ds.drop k = ds := by
          rcases e3 with e3 | e3
          · rw [e3]; rfl
          · rw [List.eq_nil_of_length_eq_zero (l := ds) (by omega)]; simp
        rw [e4] at q
        exact q _ H2 (s1.trans s2) (.tup h g)
      · refine q _ _ ((s1.trans s2).trans (same_new hp)) (.tup (.of upd_same) ?_)
        have e3 : cutV xs (some (k : Int)) none = xs.drop k := by
          unfold cutV
          rw [e1, e2, Nat.min_eq_left (by omega), List.take_of_length_le (by rw [List.length_drop]; omega)]
        rw [e3]
        exact (g.drop k).mono (same_new hp))
/-- t + u, xs + ys -/
theorem ex_catT {es' : List PyData} (hl : ds.length + es'.length ≤ 100000) (ha : EX X a ρ (.tuple ds)) (hb : EX X b ρ (.tuple es')) : EX X (.BinOp a .Add b pos) ρ (.tuple (ds ++ es')) := by
  refine ex_op op_catA (fun u v H B Q hd a1 a2 q => ?_) ha hb
  cases a1 with
  | @tup t xs _ h g =>
    cases a2 with
    | @tup t' ys _ h' g' =>
      have l1 := g.len
      have l2 := g'.len
      refine ⟨t, t', xs, ys, rfl, rfl, h, h', by rw [l1, l2]; exact Nat.le_trans hl (by decide), fun e => ?_, fun _ e => ?_, fun _ _ p hp => ?_⟩
      · subst e
        have e : ds = [] := List.eq_nil_of_length_eq_zero l1.symm
        subst e
        exact q _ H (Same.refl H) (.tup h' g')
      · subst e
        have e : es' = [] := List.eq_nil_of_length_eq_zero l2.symm
        subst e
        rw [List.append_nil] at q
        exact q _ H (Same.refl H) (.tup h g)
      · exact q _ _ (same_new hp) (.tup (.of upd_same) ((g.app g').mono (same_new hp)))
theorem ex_catL {es' : List PyData} (hl : ds.length + es'.length ≤ 100000) (ha : EX X a ρ (.list ds)) (hb : EX X b ρ (.list es')) : EX X (.BinOp a .Add b pos) ρ (.list (ds ++ es')) := by
  refine ex_op op_cat (fun u v H B Q hd a1 a2 q => ?_) ha hb
  cases a1 with
  | @lst t xs _ h nb g =>
    cases a2 with
    | @lst t' ys _ h' nb' g' =>
      exact ⟨t, t', xs, ys, rfl, rfl, h, h', by rw [g.len, g'.len]; exact Nat.le_trans hl (by decide), fun p hp => q _ _ (same_new hp) (.lst upd_same (hd.no hp) ((g.app g').mono (same_new hp)))⟩
end
end Fw
/-! Faultworks, part B: blocks, loops, comprehensions, calls. -/
namespace Fw
open PySem PySem.Spec PyProof.Rows L2
section
variable {X : Cx} {a b c e : Expr} {es : List Expr} {st : Stmt} {sts : List Stmt} {ρ ρ1 ρ2 : DEnv} {x y z d : PyData} {ds : List PyData} {pos : Pos} {u : Bool} {o : Out}

/-! ### blocks -/
theorem bx_nil : BX X [] ρ (.nx ρ) := fun σ H B D hE h => PSs.w pss_nil (h σ H (Same.refl H) hE)
theorem bx_cons (h : SX X st ρ (.nx ρ1)) (g : BX X sts ρ1 o) : BX X (st :: sts) ρ o := fun σ H B D hE q =>
  PSs.w (pss_cons ps_w pss_w) (h σ H B _ hE fun σ1 H1 s1 e1 => g σ1 H1 B D e1 (q.mono s1))
theorem bx_ret (h : SX X st ρ (.rt d)) : BX X (st :: sts) ρ (.rt d) := fun σ H B D hE q =>
  PSs.w (pss_cons ps_w pss_never) (h σ H B _ hE fun v H1 s1 a1 => q v H1 s1 a1)
theorem bx_le (h : BX X sts ρ (.nx ρ1)) (l : Le ρ2 ρ1) : BX X sts ρ (.nx ρ2) := fun σ H B D hE q => h σ H B D hE fun σ1 H1 s1 e1 => q σ1 H1 s1 (e1.le l)
theorem BX.le (h : BX X sts ρ1 o) (l : Le ρ1 ρ) : BX X sts ρ o := fun σ H B D hE q => h σ H B D (hE.le l) q
theorem SX.le (h : SX X st ρ1 o) (l : Le ρ1 ρ) : SX X st ρ o := fun σ H B D hE q => h σ H B D (hE.le l) q

/-! ### statements -/
theorem sx_ret (h : EX X e ρ d) : SX X (.Return (some e) pos) ρ (.rt d) := fun σ H B D hE q => PS.w (ps_ret pe_w) (h σ H B _ hE fun v H1 s1 a1 => q v H1 s1 a1)
theorem sx_set (i : Nat) {n : Str} {pos' : Pos} (nd : X.N.Nodup) (he : EX X e ρ d) (hi : X.N[i]? = some n := by rfl) (hx : Loc X.env.scope n := by first | exact Or.inl rfl | exact Or.inr rfl) (hs : swapsWith e (some (.Name n pos')) pos.line X.env = pure false := by rfl)
    (hf : X.fn n = true ∨ X.env.scope.names.lookup n = some .local := by first | exact .inl rfl | exact .inr rfl | assumption) : SX X (.Assign [.Name n pos'] e pos) ρ (.nx (ρ.set i (some d))) := fun σ H B D hE q =>
  PS.w (ps_set nd hi hx pe_w hs hf) (he σ H B _ hE fun v H1 s1 a1 => q _ H1 s1 ((hE.mono s1).set i a1))
theorem sx_par (i j : Nat) {n m : Str} {px py pt : Pos} {kt k2 pt2} (nd : X.N.Nodup) (ha : EX X a ρ x) (hb : EX X b ρ y) (hc : X.calm = true := by rfl) (hi : X.N[i]? = some n := by rfl) (hj : X.N[j]? = some m := by rfl) (hij : i ≠ j := by decide)
    (hx : X.env.scope.names.lookup n = some .local := by rfl) (hy : X.env.scope.names.lookup m = some .local := by rfl)
    (he : starEach [a, b] X.env = (false, eval a X.env) :: starEach [b] X.env := by rfl) (he2 : starEach [b] X.env = (false, eval b X.env) :: starEach [] X.env := by rfl)
    (hw : swappedStores [.Tuple [.Name n px, .Name m py] kt pt] (.Tuple [a, b] k2 pt2) X.env = pure (some [n, m]) := by rfl)
    (hs : swapsWithSole [.Tuple [.Name n px, .Name m py] kt pt] (.Tuple [a, b] k2 pt2) pos.line X.env = pure false := by rfl) :
    SX X (.Assign [.Tuple [.Name n px, .Name m py] kt pt] (.Tuple [a, b] k2 pt2) pos) ρ (.nx ((ρ.set i (some x)).set j (some y))) := fun σ H B D hE q =>
  PS.w (ps_par hc nd hi hj hij hx hy pa_w hw hs) (ax_cons ha (ax_cons hb ax_nil he2) he σ H B _ hE fun vs H1 s1 a1 => by
    cases a1 with
    | cons a1 a2 =>
      cases a2 with
      | cons a2 a3 =>
        cases a3
        exact ⟨_, _, rfl, q _ H1 s1 (((hE.mono s1).set i a1).set j a2)⟩)
theorem sx_ifT {p q : List Stmt} (h : TX X c ρ true) (g : BX X p ρ o) : SX X (.If c p q pos) ρ o := fun σ H B D hE q =>
  PS.w (ps_if pt_w pss_w pss_never) (h σ H B _ hE fun H1 s1 => iteT (g σ H1 B D (hE.mono s1) (q.mono s1)))
theorem sx_ifF {p q : List Stmt} (h : TX X c ρ false) (g : BX X q ρ o) : SX X (.If c p q pos) ρ o := fun σ H B D hE q =>
  PS.w (ps_if pt_w pss_never pss_w) (h σ H B _ hE fun H1 s1 => iteF (g σ H1 B D (hE.mono s1) (q.mono s1)))
theorem sx_expr (h : EX X e ρ d) (hs : swapsWith e none pos.line X.env = pure false := by rfl) : SX X (.Expr e pos) ρ (.nx ρ) := fun σ H B D hE q =>
  PS.w (ps_expr pe_w hs) (h σ H B _ hE fun v H1 s1 a1 => q σ H1 s1 (hE.mono s1))

/-! ### more that is banned -/
def Ext (H : Hp) (B B' : Ban) : Prop := ∀ a, B' a → B a ∨ H a = none
theorem Ext.refl (H : Hp) (B : Ban) : Ext H B B := fun _ h => .inl h
section
variable {K : PySem.W.Frag} {H H' : Hp} {B B' : Ban}
mutual
theorem at_ext (x : Ext H B B') (e : Same H H') : ∀ (d : PyData) (v : V), At K H B v d → At K H' B' v d
  | .none, _, h => by cases h; exact .non
  | .bool _, _, h => by cases h; exact .bl _
  | .int _, _, h => by cases h; exact .int _
  | .str _, _, h => by cases h
  | .dict _, _, h => by cases h
  | .list ds, _, h => by
    cases h with
    | lst h nb g => exact .lst (e _ _ h) (fun z => (x _ z).elim nb fun q => by rw [h] at q; cases q) (atAll_ext x e ds _ g)
  | .tuple ds, _, h => by
    cases h with
    | tup h g => exact .tup (sqt_mono e h) (atAll_ext x e ds _ g)
theorem atAll_ext (x : Ext H B B') (e : Same H H') : ∀ (ds : List PyData) (vs : List V), AtAll K H B vs ds → AtAll K H' B' vs ds
  | [], _, h => by cases h; exact .nil
  | d :: ds, _, h => by
    cases h with
    | cons h g => exact .cons (at_ext x e d _ h) (atAll_ext x e ds _ g)
end
end
/-! ### what is walked -/
def ItD (K : PySem.W.Frag) (B : Ban) (J : It) (ds : List PyData) (H1 : Hp) : Prop := ∀ H2 B', Same H1 H2 → Ext H1 B B' → (∀ i, i < ds.length → J.go i H2) ∧ (∀ i, i = ds.length → J.stop i H2) ∧
  ∀ (i : Nat) (d : PyData) (v : V) (H3 : Hp), ds[i]? = some d → J.yld i H2 v H3 → Same H2 H3 ∧ At K H3 B' v d
def IX (X : Cx) (tg e : Expr) (ρ : DEnv) (ds : List PyData) : Prop := ∃ wi : TI, PI X tg e wi ∧ ∀ (σ : L2.St) (H : Hp) (B : Ban) (R : It → Hp → Prop), Env X.K H B σ ρ → (∀ J H1, Same H H1 → ItD X.K B J ds H1 → R J H1) → wi σ H R
theorem ix_list {tg : Expr} (h : EX X e ρ (.list ds)) : IX X tg e ρ ds := ⟨_, pi_list pe_w, fun σ H B R hE q => h σ H B _ hE fun v H1 s1 a1 => by
  cases a1 with
  | @lst t xs _ h1 nb g =>
    refine ⟨t, rfl, ⟨xs, .of h1⟩, q _ H1 s1 fun H2 B' s2 x2 => ?_⟩
    have h2 : SqL X.K H2 t xs := .of (s2 _ _ h1)
    have g2 := atAll_ext x2 s2 _ _ g
    refine ⟨fun i hi => ⟨xs, _, h2, List.getElem?_eq_getElem (by rw [g.len]; exact hi)⟩, fun i hi => ⟨xs, h2, by rw [g.len, hi]; exact Nat.le_refl _⟩, fun i d v H3 hd y => ?_⟩
    obtain ⟨rfl, y⟩ := y
    obtain ⟨w, hw, aw⟩ := g2.get hd
    have e1 := y xs h2
    rw [hw] at e1
    cases e1
    exact ⟨Same.refl _, aw⟩⟩
theorem ix_tup {tg : Expr} (h : EX X e ρ (.tuple ds)) : IX X tg e ρ ds := ⟨_, pi_tup pe_w, fun σ H B R hE q => h σ H B _ hE fun v H1 s1 a1 => by
  cases a1 with
  | @tup t xs _ h1 g =>
    refine ⟨t, rfl, ⟨xs, h1⟩, q _ H1 s1 fun H2 B' s2 x2 => ?_⟩
    have h2 : SqT X.K H2 t xs := sqt_mono s2 h1
    have g2 := atAll_ext x2 s2 _ _ g
    refine ⟨fun i hi => ⟨xs, _, h2, List.getElem?_eq_getElem (by rw [g.len]; exact hi)⟩, fun i hi => ⟨xs, h2, by rw [g.len, hi]; exact Nat.le_refl _⟩, fun i d v H3 hd y => ?_⟩
    obtain ⟨rfl, y⟩ := y
    obtain ⟨w, hw, aw⟩ := g2.get hd
    have e1 := y xs h2
    rw [hw] at e1
    cases e1
    exact ⟨Same.refl _, aw⟩⟩
def rangeD (n : Nat) : List PyData := (List.range n).map fun (k : Nat) => PyData.int (k : Int)
theorem rangeD_get {n i : Nat} {d : PyData} (h : (rangeD n)[i]? = some d) : i < n ∧ d = .int (i : Int) := by
  unfold rangeD at h
  rw [List.getElem?_map] at h
  by_cases hi : i < n
  · rw [List.getElem?_range hi] at h
    exact ⟨hi, (Option.some.inj h).symm⟩
  · rw [List.getElem?_eq_none (by rw [List.length_range]; omega)] at h
    cases h
theorem rangeD_len (n : Nat) : (rangeD n).length = n := by unfold rangeD; rw [List.length_map, List.length_range]
theorem ix_range {tg : Expr} {n : Nat} {p : Pos} (hm : X.mg "range" = none) (h : EX X a ρ (.int (n : Int))) (hn : n ≤ 100000) (hg : Gl X "range" := by rfl) (hs : starEach [a] X.env = [(false, eval a X.env)] := by rfl)
    (hs2 : starEach [a] X.env = (false, eval a X.env) :: starEach [] X.env := by rfl) : IX X tg (.Call (.Name "range" p) [a] [] pos) ρ (rangeD n) :=
  ⟨_, pi_range1 hg hm (pa_cons pe_w pa_nil hs2) hs, fun σ H B R hE q => h σ H B _ hE fun v H1 s1 a1 => by
    cases a1
    refine ⟨(n : Int), rfl, by omega, by omega, ?_⟩
    rw [Int.toNat_natCast]
    refine q _ H1 s1 fun H2 B' s2 _ => ⟨fun i hi => by rw [rangeD_len] at hi; exact hi, fun i hi => by rw [rangeD_len] at hi; exact Nat.le_of_eq hi.symm, fun i d v H3 hd y => ?_⟩
    obtain ⟨rfl, y⟩ := y
    obtain ⟨_, rfl⟩ := rangeD_get hd
    rw [y, Int.zero_add]
    exact ⟨Same.refl _, .int _⟩⟩

/-! ### for -/
def ForRun (X : Cx) (i : Nat) (body : List Stmt) : List PyData → DEnv → DEnv → Prop
  | [], ρ, ρ' => Le ρ' ρ
  | d :: ds, ρ, ρ' => ∃ ρ1, BX X body (ρ.set i (some d)) (.nx ρ1) ∧ ForRun X i body ds ρ1 ρ'
theorem sx_for (i : Nat) {tg : Expr} {body : List Stmt} (hi : IX X tg e ρ ds) (hr : ForRun X i body ds ρ ρ1) (hg : PG X tg (gName i)) (hp : PassesOwn (model X.prog X.w) X.A X.env X.xe := by exact PassesOwn.never) (hc : X.calm = true := by rfl)
    (hs : ∀ x, foldedSetIterable e X.env x = pure x := by intro _; rfl) : SX X (.For tg e body [] pos) ρ (.nx ρ1) := fun σ H B D hE q => by
  obtain ⟨wi, pi, hi⟩ := hi
  refine PS.w (ps_for hp hc pi hg pss_w hs) (hi σ H B _ hE fun J H1 s1 it => ?_)
  refine ⟨fun j m σ' H' => m = ds.length - j ∧ j ≤ ds.length ∧ Same H1 H' ∧ ∃ ρj, Env X.K H' B σ' ρj ∧ ForRun X i body (ds.drop j) ρj ρ1, ⟨ds.length, by simp, Nat.zero_le _, Same.refl _, ρ, hE.mono s1, hr⟩, ?_⟩
  rintro j m σ' H' ⟨rfl, hj, s2, ρj, hEj, hrj⟩
  obtain ⟨go, stop, yld⟩ := it H' B s2 (Ext.refl _ _)
  by_cases hlt : j < ds.length
  · refine .inr ⟨go j hlt, fun σ'' H'' => Same H1 H'' ∧ ∃ ρj, Env X.K H'' B σ'' ρj ∧ ForRun X i body (ds.drop (j + 1)) ρj ρ1, fun σ'' H'' ⟨s3, h3⟩ => ⟨ds.length - (j + 1), by omega, rfl, hlt, s3, h3⟩, fun v H3 y => ?_⟩
    obtain ⟨s3, a3⟩ := yld j ds[j] v H3 (List.getElem?_eq_getElem hlt) y
    rw [List.drop_eq_getElem_cons hlt] at hrj
    obtain ⟨ρ2, hb, hrj⟩ := hrj
    exact hb (σ'.set i (some v)) H3 B _ ((hEj.mono s3).set i a3) fun σ4 H4 s4 e4 => ⟨(s2.trans s3).trans s4, ρ2, e4, hrj⟩
  · have ej : j = ds.length := by omega
    subst ej
    rw [List.drop_length] at hrj
    exact .inl ⟨stop _ rfl, q σ' H' (s1.trans s2) (hEj.le hrj)⟩

/-! ### while -/
inductive WhRun (X : Cx) (c : Expr) (body : List Stmt) : Nat → DEnv → DEnv → Prop
  | stop {ρ : DEnv} (h : TX X c ρ false) : WhRun X c body 0 ρ ρ
  | step {n : Nat} {ρ ρ1 ρ2 : DEnv} (h : TX X c ρ true) (g : BX X body ρ (.nx ρ1)) (r : WhRun X c body n ρ1 ρ2) : WhRun X c body (n + 1) ρ ρ2
theorem sx_while {body : List Stmt} {n : Nat} (hr : WhRun X c body n ρ ρ1) (hp : PassesOwn (model X.prog X.w) X.A X.env X.xe := by exact PassesOwn.never) : SX X (.While c body [] pos) ρ (.nx ρ1) := fun σ H B D hE q => by
  refine PS.w (ps_while hp pt_w pss_w) ⟨fun m σ' H' => Same H H' ∧ ∃ ρj, Env X.K H' B σ' ρj ∧ WhRun X c body m ρj ρ1, ⟨n, Same.refl _, ρ, hE, hr⟩, ?_⟩
  rintro m σ' H' ⟨s1, ρj, hEj, hrj⟩
  cases hrj with
  | stop h => exact h σ' H' B _ hEj fun H2 s2 => iteF (q σ' H2 (s1.trans s2) (hEj.mono s2))
  | @step k _ ρ2 _ h g r =>
    exact h σ' H' B _ hEj fun H2 s2 => iteT ⟨fun σ'' H'' => Same H H'' ∧ ∃ ρj, Env X.K H'' B σ'' ρj ∧ WhRun X c body k ρj ρ1, fun σ'' H'' hh => ⟨k, Nat.lt_succ_self _, hh⟩,
      g σ' H2 B _ (hEj.mono s2) fun σ4 H4 s4 e4 => ⟨(s1.trans s2).trans s4, ρ2, e4, r⟩⟩

/-! ### comprehensions -/
def IfX (X : Cx) (ifs : List Expr) (ρ : DEnv) (b : Bool) : Prop := (ifs = [] ∧ b = true) ∨ ∃ c, ifs = [c] ∧ TX X c ρ b
theorem ifx_nil : IfX X [] ρ true := .inl ⟨rfl, rfl⟩
theorem ifx_one (h : TX X c ρ u) : IfX X [c] ρ u := .inr ⟨c, rfl, h⟩
def wIfs (X : Cx) (ifs : List Expr) : TT := fun σ H Q => ∀ (pins : List (Addr × Obj)) (s : Shared), Inv X pins σ H s →
  wpAny (model X.prog X.w) X.A (forIn ifs true fun c r => if r = true then do let ok ← isTrue c X.env (eval c X.env); pure (ForInStep.yield ok) else pure (ForInStep.yield r)) (TP X pins σ Q) X.xe s
theorem pts_run {ifs : List Expr} {t : TT} (h : PTs X ifs t) {σ : L2.St} {H : Hp} {Q : Bool → Hp → Prop} (q : t σ H Q) : wIfs X ifs σ H Q := fun pins s I => h.run pins s σ H Q I q
theorem IfX.go {ifs : List Expr} (h : IfX X ifs ρ u) {σ : L2.St} {H : Hp} {B : Ban} {Q : Bool → Hp → Prop} (hE : Env X.K H B σ ρ) (q : ∀ H', Same H H' → Q u H') : wIfs X ifs σ H Q := by
  rcases h with ⟨rfl, rfl⟩ | ⟨c, rfl, h⟩
  · exact pts_run pts_nil (q H (Same.refl H))
  · exact pts_run (pts_one pt_w) (h σ H B Q hE q)

/-- the list at D is being filled -/
def ban (B : Ban) (D : Addr) : Ban := fun a => B a ∨ a = D
theorem ext_ban {H : Hp} {B : Ban} {D : Addr} (h : H D = none) : Ext H B (ban B D) := fun a z => z.elim .inl fun e => .inr (by rw [e]; exact h)
theorem Dom.ban {H H' : Hp} {B : Ban} {D : Addr} (h : Dom H B) (e : Same H H') (hD : H' D ≠ none) : Dom H' (ban B D) := fun a b => by
  rcases b with b | rfl
  · exact h.mono e a b
  · exact hD
section
variable {K : PySem.W.Frag} {H H' : Hp} {B : Ban} {D : Addr} {l l' : List V}
mutual
theorem at_put (hD : H D = some (.lst l)) (hB : B D) {o : HO} : ∀ (d : PyData) (v : V), At K H B v d → At K (upd H D o) B v d
  | .none, _, h => by cases h; exact .non
  | .bool _, _, h => by cases h; exact .bl _
  | .int _, _, h => by cases h; exact .int _
  | .str _, _, h => by cases h
  | .dict _, _, h => by cases h
  | .list ds, _, h => by
    cases h with
    | lst h nb g => exact .lst (by rw [upd_ne (fun q => nb (by rw [q]; exact hB))]; exact h) nb (atAll_put hD hB ds _ g)
  | .tuple ds, _, h => by
    cases h with
    | @tup a _ _ h g =>
      refine .tup ?_ (atAll_put hD hB ds _ g)
      rcases h with (h | ⟨u, h⟩) | h
      · exact .inl (.inl (by rw [upd_ne (ne_of h hD (by intro z; cases z))]; exact h))
      · exact .inl (.inr ⟨u, by rw [upd_ne (ne_of h hD (by intro z; cases z))]; exact h⟩)
      · exact .inr h
theorem atAll_put (hD : H D = some (.lst l)) (hB : B D) {o : HO} : ∀ (ds : List PyData) (vs : List V), AtAll K H B vs ds → AtAll K (upd H D o) B vs ds
  | [], _, h => by cases h; exact .nil
  | d :: ds, _, h => by
    cases h with
    | cons h g => exact .cons (at_put hD hB d _ h) (atAll_put hD hB ds _ g)
end
mutual
theorem at_free : ∀ (d : PyData) (v : V), At K H (ban B D) v d → At K H B v d
  | .none, _, h => by cases h; exact .non
  | .bool _, _, h => by cases h; exact .bl _
  | .int _, _, h => by cases h; exact .int _
  | .str _, _, h => by cases h
  | .dict _, _, h => by cases h
  | .list ds, _, h => by
    cases h with
    | lst h nb g => exact .lst h (fun z => nb (.inl z)) (atAll_free ds _ g)
  | .tuple ds, _, h => by
    cases h with
    | tup h g => exact .tup h (atAll_free ds _ g)
theorem atAll_free : ∀ (ds : List PyData) (vs : List V), AtAll K H (ban B D) vs ds → AtAll K H B vs ds
  | [], _, h => by cases h; exact .nil
  | d :: ds, _, h => by
    cases h with
    | cons h g => exact .cons (at_free d _ h) (atAll_free ds _ g)
end
theorem Env.ban {σ : L2.St} (h : Env K H B σ ρ) (hD : H D = none) (e : Same H H') (hD' : H' D ≠ none) : Env K H' (Fw.ban B D) σ ρ :=
  ⟨h.dom.ban e hD', h.len, fun i d q => let ⟨v, a, b⟩ := h.get i d q; ⟨v, a, at_ext (ext_ban hD) e d v b⟩⟩
theorem Env.put {σ : L2.St} (h : Env K H B σ ρ) (hD : H D = some (.lst l)) (hB : B D) (o : HO) : Env K (upd H D o) B σ ρ :=
  ⟨fun a b => by
    unfold upd
    split
    · exact fun z => nomatch z
    · exact h.dom a b, h.len, fun i d q => let ⟨v, a, b⟩ := h.get i d q; ⟨v, a, at_put hD hB d v b⟩⟩
end
/-- the reading of a comprehension -/
theorem lc_read {i : Nat} {n : Str} {elt : Expr} {ifs : List Expr} {scope : Scope} {β : Type} {enc : β → PyData} {ls : List β} {p : β → Bool} {f : β → PyData} {wi : TI}
    (hi : ∀ (σ : L2.St) (H : Hp) (B : Ban) (R : It → Hp → Prop), Env X.K H B σ ρ → (∀ J H1, Same H H1 → ItD X.K B J (ls.map enc) H1 → R J H1) → wi σ H R) (hz : ls.length ≤ 100000)
    (ht : ∀ d ∈ ls, ∀ (s : Shared) (H : Hp) (C : Addr) (cl : List (Str × Addr)) (fp : List Addr), IfX (X.blk s H scope (compEnvC scope cl C X.env) fp) ifs (ρ.set i (some (enc d))) (p d))
    (he : ∀ d ∈ ls, p d = true → ∀ (s : Shared) (H : Hp) (C : Addr) (cl : List (Str × Addr)) (fp : List Addr), EX (X.blk s H scope (compEnvC scope cl C X.env) fp) elt (ρ.set i (some (enc d))) (f d))
    (σ : L2.St) (H : Hp) (B : Ban) (Q : VK) (hE : Env X.K H B σ ρ) (q : ∀ v H', Same H H' → At X.K H' B v (.list ((ls.filter p).map f)) → Q v H') :
    tLc wi (gName i) (fun σ H Q => ∀ (s : Shared) (H' : Hp) (C : Addr) (cl : List (Str × Addr)) (fp : List Addr), wIfs (X.blk s H' scope (compEnvC scope cl C X.env) fp) ifs σ H Q)
      (fun σ H Q => ∀ (s : Shared) (H' : Hp) (C : Addr) (cl : List (Str × Addr)) (fp : List Addr), wE (X.blk s H' scope (compEnvC scope cl C X.env) fp) elt σ H Q) ([(n, i)].map (·.2)) σ H Q := by
  refine hi σ H B _ hE fun J H1 s1 it D hD => ?_
  have hE1 := hE.mono s1
  refine ⟨fun j m H' => m = ls.length - j ∧ j ≤ ls.length ∧ Same H1 H' ∧ Env X.K H' (ban B D) σ ρ ∧ ∃ acc, H' D = some (.lst acc) ∧ AtAll X.K H' (ban B D) acc (((ls.take j).filter p).map f),
    ⟨ls.length, by simp, Nat.zero_le _, same_new hD, hE1.ban hD (same_new hD) (by rw [upd_same]; exact fun z => nomatch z), [], upd_same, by rw [List.take_zero]; exact .nil⟩, ?_⟩
  rintro j m H' ⟨rfl, hj, s2, hE2, acc, hacc, aacc⟩
  obtain ⟨go, stop, yld⟩ := it H' (ban B D) s2 (ext_ban hD)
  by_cases hlt : j < ls.length
  · have hmem : ls[j] ∈ ls := List.getElem_mem hlt
    have hlt' : j < (ls.map enc).length := by rw [List.length_map]; exact hlt
    have egt : (ls.map enc)[j]? = some (enc ls[j]) := by rw [List.getElem?_map, List.getElem?_eq_getElem hlt]; rfl
    refine .inr ⟨go j hlt', fun H'' => Same H1 H'' ∧ Env X.K H'' (ban B D) σ ρ ∧ ∃ acc, H'' D = some (.lst acc) ∧ AtAll X.K H'' (ban B D) acc (((ls.take (j + 1)).filter p).map f), fun H'' ⟨s3, h3⟩ => ⟨ls.length - (j + 1), by omega, rfl, hlt, s3, h3⟩, fun v H3 y => ?_⟩
    obtain ⟨s3, a3⟩ := yld j (enc ls[j]) v H3 egt y
    have hE3 : Env X.K H3 (ban B D) ((wipe σ ([(n, i)].map (·.2))).set i (some v)) (ρ.set i (some (enc ls[j]))) := by
      have h1 := (hE2.mono s3).forget i
      have h2 := h1.set i a3
      have e3 : (ρ.set i none).set i (some (enc ls[j])) = ρ.set i (some (enc ls[j])) := List.set_set ..
      rw [e3] at h2
      exact h2
    have etk : ls.take (j + 1) = ls.take j ++ [ls[j]] := by rw [List.take_add_one, List.getElem?_eq_getElem hlt]; rfl
    have hlen : acc.length ≤ j := by
      rw [aacc.len, List.length_map]
      exact Nat.le_trans (List.length_filter_le _ _) (by rw [List.length_take]; omega)
    refine ⟨by show ((((σ.set i none)).set i (some v)).set i none) = σ.set i none; rw [List.set_set, List.set_set], fun s H0 C cl fp => ?_⟩
    refine (ht ls[j] hmem s H0 C cl fp).go hE3 fun H4 s4 => ?_
    have k34 := s3.trans s4
    cases hp : p ls[j] with
    | true =>
      refine iteT fun s H0 C cl fp => ?_
      refine he ls[j] hmem hp s H0 C cl fp _ _ _ _ (hE3.mono s4) fun w H5 s5 a5 => ?_
      have k5 := k34.trans s5
      have hacc5 := k5 _ _ hacc
      refine ⟨acc, hacc5, Nat.lt_of_le_of_lt (Nat.le_trans hlen hj) (Nat.lt_of_le_of_lt hz (by decide)), ?_⟩
      refine ⟨Same.mut (s2.trans k5) hD, (hE2.mono k5).put hacc5 (.inr rfl) _, acc ++ [w], upd_same, ?_⟩
      rw [etk, List.filter_append, List.map_append]
      have ef : (List.filter p [ls[j]]).map f = [f ls[j]] := by simp [hp]
      rw [ef]
      exact atAll_put hacc5 (.inr rfl) _ _ ((aacc.mono k5).app (.one a5))
    | false =>
      refine iteF ⟨s2.trans k34, hE2.mono k34, acc, k34 _ _ hacc, ?_⟩
      rw [etk, List.filter_append, List.map_append]
      have ef : (List.filter p [ls[j]]).map f = [] := by simp [hp]
      rw [ef, List.append_nil]
      exact aacc.mono k34
  · have ej : j = ls.length := by omega
    subst ej
    rw [List.take_length] at aacc
    exact .inl ⟨stop _ (by rw [List.length_map]), q _ H' (s1.trans s2) (.lst hacc (hE1.dom.no hD) (atAll_free _ _ aacc))⟩
/-- [elt for n in e if ..] -/
theorem ex_lc (i : Nat) {n : Str} {tg elt : Expr} {ifs : List Expr} {scope : Scope} {β : Type} {enc : β → PyData} {ls : List β} {p : β → Bool} {f : β → PyData} (nd : X.N.Nodup) (hi : IX X tg e ρ (ls.map enc)) (hz : ls.length ≤ 100000)
    (ok : BlkOk X.N X.env.scope scope [(n, i)])
    (hg : ∀ (s : Shared) (H : Hp) (C : Addr) (cl : List (Str × Addr)) (fp : List Addr), PG (X.blk s H scope (compEnvC scope cl C X.env) fp) tg (gName i))
    (ht : ∀ d ∈ ls, ∀ (s : Shared) (H : Hp) (C : Addr) (cl : List (Str × Addr)) (fp : List Addr), IfX (X.blk s H scope (compEnvC scope cl C X.env) fp) ifs (ρ.set i (some (enc d))) (p d))
    (he : ∀ d ∈ ls, p d = true → ∀ (s : Shared) (H : Hp) (C : Addr) (cl : List (Str × Addr)) (fp : List Addr), EX (X.blk s H scope (compEnvC scope cl C X.env) fp) elt (ρ.set i (some (enc d))) (f d))
    (hc : X.calm = true := by rfl) (hs : ∀ x, foldedSetIterable e X.env x = pure x := by intro _; rfl) : EX X (.ListComp elt [⟨tg, e, ifs, 0⟩] scope pos) ρ (.list ((ls.filter p).map f)) := fun σ H B Q hE q => by
  obtain ⟨wi, pi, hi⟩ := hi
  exact PE.w (pe_lc (own := [(n, i)]) (tt := fun σ H Q => ∀ (s : Shared) (H' : Hp) (C : Addr) (cl : List (Str × Addr)) (fp : List Addr), wIfs (X.blk s H' scope (compEnvC scope cl C X.env) fp) ifs σ H Q)
    (te := fun σ H Q => ∀ (s : Shared) (H' : Hp) (C : Addr) (cl : List (Str × Addr)) (fp : List Addr), wE (X.blk s H' scope (compEnvC scope cl C X.env) fp) elt σ H Q) hc nd pi ok hg
    (fun s H C cl fp => ⟨fun pins s' σ H' Q I h => h s H C cl fp pins s' I⟩) (fun s H C cl fp => ⟨fun pins s' σ H' Q I h => h s H C cl fp pins s' I⟩) hs) (lc_read (n := n) hi hz ht he σ H B Q hE q)
end
end Fw
/-! Faultworks, part C: calls of the module's defs and of built-ins. -/
namespace Fw
open PySem PySem.Spec PyProof.Rows L2

/-! ### the promise of a def upon data -/
def spR (K : PySem.W.Frag) (R : List PyData → PyData → Prop) : Sp := fun vs H Q _ => ∃ (B : Ban) (ds : List PyData) (d : PyData), Dom H B ∧ AtAll K H B vs ds ∧ R ds d ∧ ∀ v H', Same H H' → At K H' B v d → Q v H'
structure Cl (P : Program) (w : World) (K : PySem.W.Frag) (mg : Str → Option Value) (base : Heap) (k : Nat) (n : Str) (R : List PyData → PyData → Prop) : Prop where
  ex : ∃ (f : Addr) (fd : FuncData) (ps : List Str), FnOk P w K mg base CX0 k f fd ps (spR K R) ∧ mg n = some (.ref f) ∧ PySem.W.keepIn K (.ref f) = true ∧ Binds K fd ps []
/-- a def of the text, where it stands -/
structure Df (K : PySem.W.Frag) (mg : Str → Option Value) (n : Str) (st : Stmt) (ps : List Str) : Prop where
  ex : ∃ (f : Addr) (fd : FuncData), Fun K n n st f fd ∧ mg n = some (.ref f) ∧ Binds K fd ps []
section
variable {P : Program} {w : World} {K : PySem.W.Frag} {mg : Str → Option Value} {base : Heap}
theorem cl_mk {n : Str} {st : Stmt} {N ps : List Str} {k : Nat} {R : List PyData → PyData → Prop} (F : Df K mg n st ps) (S : FnScope N ps (defScope st)) (hl : ∀ ds d, R ds d → ds.length = ps.length)
    (body : ∀ (f : Addr) (cdv : Value) (A : Around) (outer : List PySem.Env) (s : Shared) (H : Hp) (E : XK), Room k (A.deeper (envOfC n (defScope st) s.heap.objs.size f cdv)) → ∀ ds d, R ds d →
      BX (cxOf CX0 P w K mg base N n (defScope st) f cdv A outer s H E).nox (defBody st) (startD N ds) (.rt d)) : Cl P w K mg base (k + 1) n R := by
  obtain ⟨f, fd, F, hm, b⟩ := F.ex
  refine ⟨f, fd, ps, F.ok S (fun vs H Q E h => ?_) (fun cdv A outer s H vs Q E hr h => ?_), hm, F.kp, b⟩
  · obtain ⟨B, ds, d, _, ha, hR, _⟩ := h
    rw [ha.len, hl ds d hR]
  · obtain ⟨B, ds, d, hd, ha, hR, q⟩ := h
    exact ⟨_, pss_w, body f cdv A outer s H E hr ds d hR _ H B _ (env_start hd ha) q⟩
end
section
variable {X : Cx} {a b c e : Expr} {es : List Expr} {ρ ρ1 ρ2 : DEnv} {x y z d : PyData} {ds : List PyData} {pos p : Pos} {u : Bool} {k j : Nat} {n : Str}
theorem ex_call {R : List PyData → PyData → Prop} (c : Cl X.prog X.w X.K X.mg X.base k n R) (hr : Room j X.A) (ha : AX X (e :: es) ρ ds) (h : R ds d) (hk : k ≤ j := by decide) (hg : Gl X n := by rfl)
    (hdb : (n == ("__debug__" : Str)) = false := by decide) (he : starEach (e :: es) X.env = (false, eval e X.env) :: starEach es X.env := by rfl) (hpl : (backTo pos (starEach es X.env)).any (·.1) = false := by rfl) :
    EX X (.Call (.Name n p) (e :: es) [] pos) ρ d := fun σ H B Q hE q => by
  obtain ⟨f, fd, ps, F, hm, kp, b⟩ := c.ex
  refine PE.w (pe_call F (hr.mono hk) hg hm kp b .nil pass0 pa_w hdb he hpl) (ha σ H B _ hE fun vs H1 s1 a1 => ?_)
  rw [List.append_nil]
  exact ⟨B, ds, d, hE.dom.mono s1, a1, h, fun v H2 s2 a2 => q v H2 (s1.trans s2) a2⟩
theorem ex_bi {id : String} {r : List V → Hp → VK → Prop} (hc : CallR X (.builtin id) r) (hm : X.mg n = none) (hv : bootBuiltins n = some (.builtin id)) (ha : AX X (e :: es) ρ ds)
    (hr : ∀ vs H B Q, Dom H B → AtAll X.K H B vs ds → (∀ v H', Same H H' → At X.K H' B v d → Q v H') → r vs H Q) (hg : Gl X n := by rfl) (hn : n ≠ "__name__" := by decide) (hdb : (n == ("__debug__" : Str)) = false := by decide)
    (he : starEach (e :: es) X.env = (false, eval e X.env) :: starEach es X.env := by rfl) (hpl : (backTo pos (starEach es X.env)).any (·.1) = false := by rfl) : EX X (.Call (.Name n p) (e :: es) [] pos) ρ d := fun σ H B Q hE q =>
  PE.w (pe_callB hc hg hm hv pa_w hn hdb he hpl) (ha σ H B _ hE fun vs H1 s1 a1 => hr vs H1 B Q (hE.dom.mono s1) a1 fun v H2 s2 a2 => q v H2 (s1.trans s2) a2)
theorem ex_bt {T : String} {r : List V → Hp → VK → Prop} (hc : CallR X (.type T) r) (hm : X.mg n = none) (hv : bootBuiltins n = some (.type T)) (ha : AX X (e :: es) ρ ds)
    (hr : ∀ vs H B Q, Dom H B → AtAll X.K H B vs ds → (∀ v H', Same H H' → At X.K H' B v d → Q v H') → r vs H Q) (hg : Gl X n := by rfl) (hn : n ≠ "__name__" := by decide) (hdb : (n == ("__debug__" : Str)) = false := by decide)
    (he : starEach (e :: es) X.env = (false, eval e X.env) :: starEach es X.env := by rfl) (hpl : (backTo pos (starEach es X.env)).any (·.1) = false := by rfl) : EX X (.Call (.Name n p) (e :: es) [] pos) ρ d := fun σ H B Q hE q =>
  PE.w (pe_callTy hc hg hm hv pa_w hn hdb he hpl) (ha σ H B _ hE fun vs H1 s1 a1 => hr vs H1 B Q (hE.dom.mono s1) a1 fun v H2 s2 a2 => q v H2 (s1.trans s2) a2)
theorem atAll1 {K : PySem.W.Frag} {H : Hp} {B : Ban} {vs : List V} (h : AtAll K H B vs [d]) : ∃ v, vs = [v] ∧ At K H B v d := by
  cases h with
  | cons h g => cases g; exact ⟨_, rfl, h⟩

/-! ### built-ins -/
theorem ex_lenT (hm : X.mg "len" = none) (ha : EX X a ρ (.tuple ds)) (he : starEach [a] X.env = (false, eval a X.env) :: starEach [] X.env := by rfl) (hg : Gl X "len" := by rfl) : EX X (.Call (.Name "len" p) [a] [] pos) ρ (.int (ds.length : Int)) :=
  ex_bi call_len_seq hm (by decide +kernel) (ax_cons ha ax_nil he) (fun vs H B Q hd h q => by
    obtain ⟨v, rfl, h'⟩ := atAll1 h
    cases h' with
    | @tup t xs _ h2 g => exact ⟨t, xs, rfl, .inr h2, by rw [g.len]; exact q _ H (Same.refl H) (.int _)⟩) hg (by decide) (by decide) he rfl
theorem ex_lenL (hm : X.mg "len" = none) (ha : EX X a ρ (.list ds)) (he : starEach [a] X.env = (false, eval a X.env) :: starEach [] X.env := by rfl) (hg : Gl X "len" := by rfl) : EX X (.Call (.Name "len" p) [a] [] pos) ρ (.int (ds.length : Int)) :=
  ex_bi call_len_seq hm (by decide +kernel) (ax_cons ha ax_nil he) (fun vs H B Q hd h q => by
    obtain ⟨v, rfl, h'⟩ := atAll1 h
    cases h' with
    | @lst t xs _ h2 nb g => exact ⟨t, xs, rfl, .inl (.of h2), by rw [g.len]; exact q _ H (Same.refl H) (.int _)⟩) hg (by decide) (by decide) he rfl
theorem ex_abs {i : Int} (hm : X.mg "abs" = none) (ha : EX X a ρ (.int i)) (he : starEach [a] X.env = (false, eval a X.env) :: starEach [] X.env := by rfl) (hg : Gl X "abs" := by rfl) : EX X (.Call (.Name "abs" p) [a] [] pos) ρ (.int (i.natAbs : Int)) :=
  ex_bi call_abs hm (by decide +kernel) (ax_cons ha ax_nil he) (fun vs H B Q hd h q => by
    obtain ⟨v, rfl, h'⟩ := atAll1 h
    cases h'
    refine ⟨i, rfl, ?_⟩
    have e : (if i < 0 then -i else i) = (i.natAbs : Int) := by split <;> omega
    rw [e]
    exact q _ H (Same.refl H) (.int _)) hg (by decide) (by decide) he rfl
theorem ex_int1 {i : Int} (hm : X.mg "int" = none) (ha : EX X a ρ (.int i)) (he : starEach [a] X.env = (false, eval a X.env) :: starEach [] X.env := by rfl) (hg : Gl X "int" := by rfl) : EX X (.Call (.Name "int" p) [a] [] pos) ρ (.int i) :=
  ex_bt call_int1 hm (by decide +kernel) (ax_cons ha ax_nil he) (fun vs H B Q hd h q => by
    obtain ⟨v, rfl, h'⟩ := atAll1 h
    cases h'
    exact .inl ⟨i, rfl, q _ H (Same.refl H) (.int _)⟩) hg (by decide) (by decide) he rfl
theorem ex_sum {ns : List Int} (hm : X.mg "sum" = none) (ha : EX X a ρ (.list (ns.map PyData.int))) (hc : X.calm = true := by rfl) (he : starEach [a] X.env = (false, eval a X.env) :: starEach [] X.env := by rfl) (hg : Gl X "sum" := by rfl) : EX X (.Call (.Name "sum" p) [a] [] pos) ρ (.int ns.sum) :=
  ex_bi (cr_sum hc) hm (by decide +kernel) (ax_cons ha ax_nil he) (fun vs H B Q hd h q => by
    obtain ⟨v, rfl, h'⟩ := atAll1 h
    cases h' with
    | @lst t xs _ h2 nb g =>
      have e := g.of_ints
      subst e
      exact ⟨t, ns, rfl, .of h2, q _ H (Same.refl H) (.int _)⟩) hg (by decide) (by decide) he rfl
theorem ex_tupL (hm : X.mg "tuple" = none) (ha : EX X a ρ (.list ds)) (he : starEach [a] X.env = (false, eval a X.env) :: starEach [] X.env := by rfl) (hg : Gl X "tuple" := by rfl) : EX X (.Call (.Name "tuple" p) [a] [] pos) ρ (.tuple ds) :=
  ex_bt call_tuple_of hm (by decide +kernel) (ax_cons ha ax_nil he) (fun vs H B Q hd h q => by
    obtain ⟨v, rfl, h'⟩ := atAll1 h
    cases h' with
    | @lst t xs _ h2 nb g => exact ⟨t, xs, rfl, .inl ⟨.of h2, fun l hl => q _ _ (same_new hl) (.tup (.of upd_same) (g.mono (same_new hl)))⟩⟩) hg (by decide) (by decide) he rfl
theorem ex_lstT (hm : X.mg "list" = none) (ha : EX X a ρ (.tuple ds)) (he : starEach [a] X.env = (false, eval a X.env) :: starEach [] X.env := by rfl) (hg : Gl X "list" := by rfl) : EX X (.Call (.Name "list" p) [a] [] pos) ρ (.list ds) :=
  ex_bt call_list_of hm (by decide +kernel) (ax_cons ha ax_nil he) (fun vs H B Q hd h q => by
    obtain ⟨v, rfl, h'⟩ := atAll1 h
    cases h' with
    | @tup t xs _ h2 g => exact ⟨t, xs, rfl, .inr h2, fun l hl => q _ _ (same_new hl) (.lst upd_same (hd.no hl) (g.mono (same_new hl)))⟩) hg (by decide) (by decide) he rfl

/-! ### isinstance -/
def tyName : PyData → String
  | .none => "NoneType"
  | .bool _ => "bool"
  | .int _ => "int"
  | .str _ => "str"
  | .list _ => "list"
  | .tuple _ => "tuple"
  | .dict _ => "dict"
theorem At.ty {K : PySem.W.Frag} {H : Hp} {B : Ban} {v : V} (h : At K H B v d) : TyX K H v (.type (tyName d)) := by
  cases h with
  | non => exact .base .non
  | bl b => exact .base (.bl b)
  | int i => exact .base (.int i)
  | lst h nb g => exact .base (.lst h)
  | tup h g =>
    rcases h with (h | ⟨o, h⟩) | ⟨o, its, n, h, hc, _⟩
    · exact .base (.tup h)
    · exact .fTuple h
    · exact .kTuple h hc
theorem ex_isi {T : String} {tn : Str} {q2 : Pos} (hm : X.mg "isinstance" = none) (hT : X.mg tn = none) (hv : bootBuiltins tn = some (.type T)) (hb : kitB (tyName d) T = some u) (ha : EX X a ρ d) (hg : Gl X "isinstance" := by rfl) (hgT : Gl X tn := by rfl)
    (hn : tn ≠ "__name__" := by decide) (hdb : (tn == ("__debug__" : Str)) = false := by decide)
    (he : starEach [a, .Name tn q2] X.env = (false, eval a X.env) :: starEach [.Name tn q2] X.env := by rfl) (he2 : starEach [.Name tn q2] X.env = (false, eval (.Name tn q2) X.env) :: starEach [] X.env := by rfl) (hpl : (backTo pos (starEach [.Name tn q2] X.env)).any (·.1) = false := by rfl) :
    EX X (.Call (.Name "isinstance" p) [a, .Name tn q2] [] pos) ρ (.bool u) := fun σ H B Q hE q =>
  PE.w (pe_callB call_isi hg hm (by decide +kernel) (pa_cons pe_w (pa_cons (pe_bltn (v := .ty T) hgT hT hv rfl hn hdb) pa_nil he2) he) (by decide) (by decide) he hpl)
    (ha σ H B _ hE fun v H1 s1 a1 => ⟨v, .ty T, _, _, u, rfl, .ty T, a1.ty, kit_ty hb, q _ H1 s1 (.bl _)⟩)
/-- isinstance(e, (T, U)) -/
theorem ex_isi2 {T U : String} {tn un : Str} {q2 q3 q4 : Pos} {k2} {u1 u2 : Bool} (hm : X.mg "isinstance" = none) (hT : X.mg tn = none) (hv : bootBuiltins tn = some (.type T)) (hU : X.mg un = none) (hvU : bootBuiltins un = some (.type U)) (hb : kitB (tyName d) T = some u1) (hb2 : kitB (tyName d) U = some u2) (ha : EX X a ρ d)
    (hg : Gl X "isinstance" := by rfl) (hgT : Gl X tn := by rfl) (hgU : Gl X un := by rfl)
    (hn : tn ≠ "__name__" := by decide) (hdb : (tn == ("__debug__" : Str)) = false := by decide) (hnU : un ≠ "__name__" := by decide) (hdbU : (un == ("__debug__" : Str)) = false := by decide)
    (h1 : starEach [.Name tn q2, .Name un q3] X.env = (false, eval (.Name tn q2) X.env) :: starEach [.Name un q3] X.env := by rfl) (h2 : starEach [.Name un q3] X.env = (false, eval (.Name un q3) X.env) :: starEach [] X.env := by rfl)
    (he : starEach [a, .Tuple [.Name tn q2, .Name un q3] k2 q4] X.env = (false, eval a X.env) :: starEach [.Tuple [.Name tn q2, .Name un q3] k2 q4] X.env := by rfl) (he2 : starEach [.Tuple [.Name tn q2, .Name un q3] k2 q4] X.env = (false, eval (.Tuple [.Name tn q2, .Name un q3] k2 q4) X.env) :: starEach [] X.env := by rfl)
    (hpl : (backTo pos (starEach [.Tuple [.Name tn q2, .Name un q3] k2 q4] X.env)).any (·.1) = false := by rfl) :
    EX X (.Call (.Name "isinstance" p) [a, .Tuple [.Name tn q2, .Name un q3] k2 q4] [] pos) ρ (.bool (u1 || u2)) := fun σ H B Q hE q =>
  PE.w (pe_callB call_isiT hg hm (by decide +kernel) (pa_cons pe_w (pa_cons (pe_tup (pa_cons (pe_bltn (v := .ty T) hgT hT hv rfl hn hdb) (pa_cons (pe_bltn (v := .ty U) hgU hU hvU rfl hnU hdbU) pa_nil h2) h1)) pa_nil he2) he) (by decide) (by decide) he hpl)
    (ha σ H B _ hE fun v H1 s1 a1 => ⟨by show 2 ≤ sizeLine; decide, fun t ht => ⟨v, t, [.ty T, .ty U], _, [.type T, .type U], u1 || u2, rfl, upd_same, .cons (.ty T) (.cons (.ty U) .nil), (a1.mono (same_new ht)).ty,
      kitAny_cons (kit_ty hb) (fun e => kitAny_cons (kit_ty hb2) (fun e2 => by rw [e, e2]; exact kitAny_nil) (fun e2 => by rw [e2, Bool.or_true])) (fun e => by rw [e, Bool.true_or]), q _ _ (s1.trans (same_new ht)) (.bl _)⟩⟩)
end
end Fw
/-! Faultworks, part S: the defs of the text by their places, and their names by slot. -/
namespace Fw
open PySem PySem.Spec PyProof.Rows L2
def topS (i : Nat) : Stmt := PySem.Challenge.pw_faultworks_k32_whole_bounds_by_single_pa.main.body.getD i (.Pass ⟨0, 0, 0, 0⟩)
abbrev s_is_in : Stmt := topS 5
abbrev n_is_in : List Str := ["value", "least", "most"]
theorem sc_is_in : FnScope n_is_in ["value", "least", "most"] (defScope s_is_in) := ⟨rfl, rfl, rfl, by decide +kernel, rfl, by decide +kernel, by decide +kernel⟩
abbrev s_gcd : Stmt := topS 6
abbrev n_gcd : List Str := ["one", "other"]
theorem sc_gcd : FnScope n_gcd ["one", "other"] (defScope s_gcd) := ⟨rfl, rfl, rfl, by decide +kernel, rfl, by decide +kernel, by decide +kernel⟩
abbrev s_reduced : Stmt := topS 7
abbrev n_reduced : List Str := ["numerator", "denominator", "common"]
theorem sc_reduced : FnScope n_reduced ["numerator", "denominator"] (defScope s_reduced) := ⟨rfl, rfl, rfl, by decide +kernel, rfl, by decide +kernel, by decide +kernel⟩
abbrev s_minus : Stmt := topS 8
abbrev n_minus : List Str := ["one", "other"]
theorem sc_minus : FnScope n_minus ["one", "other"] (defScope s_minus) := ⟨rfl, rfl, rfl, by decide +kernel, rfl, by decide +kernel, by decide +kernel⟩
abbrev s_times : Stmt := topS 9
abbrev n_times : List Str := ["one", "other"]
theorem sc_times : FnScope n_times ["one", "other"] (defScope s_times) := ⟨rfl, rfl, rfl, by decide +kernel, rfl, by decide +kernel, by decide +kernel⟩
abbrev s_is_below : Stmt := topS 10
abbrev n_is_below : List Str := ["one", "other"]
theorem sc_is_below : FnScope n_is_below ["one", "other"] (defScope s_is_below) := ⟨rfl, rfl, rfl, by decide +kernel, rfl, by decide +kernel, by decide +kernel⟩
abbrev s_is_ratio : Stmt := topS 11
abbrev n_is_ratio : List Str := ["value", "item"]
theorem sc_is_ratio : FnScope n_is_ratio ["value"] (defScope s_is_ratio) := ⟨rfl, rfl, rfl, by decide +kernel, rfl, by decide +kernel, by decide +kernel⟩
abbrev s_are_sets : Stmt := topS 14
abbrev n_are_sets : List Str := ["value", "many", "one", "masks", "a", "k", "b"]
theorem sc_are_sets : FnScope n_are_sets ["value", "many"] (defScope s_are_sets) := ⟨rfl, rfl, rfl, by decide +kernel, rfl, by decide +kernel, by decide +kernel⟩
abbrev s_mask_of : Stmt := topS 15
abbrev n_mask_of : List Str := ["parts", "k"]
theorem sc_mask_of : FnScope n_mask_of ["parts"] (defScope s_mask_of) := ⟨rfl, rfl, rfl, by decide +kernel, rfl, by decide +kernel, by decide +kernel⟩
abbrev s_parts_of : Stmt := topS 16
abbrev n_parts_of : List Str := ["mask", "k"]
theorem sc_parts_of : FnScope n_parts_of ["mask"] (defScope s_parts_of) := ⟨rfl, rfl, rfl, by decide +kernel, rfl, by decide +kernel, by decide +kernel⟩
abbrev s_is_system : Stmt := topS 17
abbrev n_is_system : List Str := ["value"]
theorem sc_is_system : FnScope n_is_system ["value"] (defScope s_is_system) := ⟨rfl, rfl, rfl, by decide +kernel, rfl, by decide +kernel, by decide +kernel⟩
abbrev s_need_system : Stmt := topS 18
abbrev n_need_system : List Str := ["system"]
theorem sc_need_system : FnScope n_need_system ["system"] (defScope s_need_system) := ⟨rfl, rfl, rfl, by decide +kernel, rfl, by decide +kernel, by decide +kernel⟩
abbrev s_least_of : Stmt := topS 19
abbrev n_least_of : List Str := ["masks", "a", "b"]
theorem sc_least_of : FnScope n_least_of ["masks"] (defScope s_least_of) := ⟨rfl, rfl, rfl, by decide +kernel, rfl, by decide +kernel, by decide +kernel⟩
abbrev s_cuts_of : Stmt := topS 20
abbrev n_cuts_of : List Str := ["system", "masks", "path", "longer", "cut", "k"]
theorem sc_cuts_of : FnScope n_cuts_of ["system"] (defScope s_cuts_of) := ⟨rfl, rfl, rfl, by decide +kernel, rfl, by decide +kernel, by decide +kernel⟩
abbrev s_is_chance : Stmt := topS 24
abbrev n_is_chance : List Str := ["value"]
theorem sc_is_chance : FnScope n_is_chance ["value"] (defScope s_is_chance) := ⟨rfl, rfl, rfl, by decide +kernel, rfl, by decide +kernel, by decide +kernel⟩
abbrev s_need_chances : Stmt := topS 25
abbrev n_need_chances : List Str := ["system", "chances", "one"]
theorem sc_need_chances : FnScope n_need_chances ["system", "chances"] (defScope s_need_chances) := ⟨rfl, rfl, rfl, by decide +kernel, rfl, by decide +kernel, by decide +kernel⟩
abbrev s_product_of : Stmt := topS 27
abbrev n_product_of : List Str := ["values", "found", "value"]
theorem sc_product_of : FnScope n_product_of ["values"] (defScope s_product_of) := ⟨rfl, rfl, rfl, by decide +kernel, rfl, by decide +kernel, by decide +kernel⟩
abbrev s_turned : Stmt := topS 28
abbrev n_turned : List Str := ["value"]
theorem sc_turned : FnScope n_turned ["value"] (defScope s_turned) := ⟨rfl, rfl, rfl, by decide +kernel, rfl, by decide +kernel, by decide +kernel⟩
abbrev s_path_chances : Stmt := topS 29
abbrev n_path_chances : List Str := ["system", "chances", "path", "k"]
theorem sc_path_chances : FnScope n_path_chances ["system", "chances"] (defScope s_path_chances) := ⟨rfl, rfl, rfl, by decide +kernel, rfl, by decide +kernel, by decide +kernel⟩
abbrev s_cut_chances : Stmt := topS 30
abbrev n_cut_chances : List Str := ["system", "chances", "cut", "k"]
theorem sc_cut_chances : FnScope n_cut_chances ["system", "chances"] (defScope s_cut_chances) := ⟨rfl, rfl, rfl, by decide +kernel, rfl, by decide +kernel, by decide +kernel⟩
abbrev s_greatest : Stmt := topS 31
abbrev n_greatest : List Str := ["values", "start", "found", "value"]
theorem sc_greatest : FnScope n_greatest ["values", "start"] (defScope s_greatest) := ⟨rfl, rfl, rfl, by decide +kernel, rfl, by decide +kernel, by decide +kernel⟩
abbrev s_single_bounds : Stmt := topS 32
abbrev n_single_bounds : List Str := ["system", "chances", "low", "one"]
theorem sc_single_bounds : FnScope n_single_bounds ["system", "chances"] (defScope s_single_bounds) := ⟨rfl, rfl, rfl, by decide +kernel, rfl, by decide +kernel, by decide +kernel⟩
abbrev s_l_taken : Stmt := topS 34
abbrev n_l_taken : List Str := ["_law_row", "_law_many", "_law_found", "_law_cell"]
theorem sc_l_taken : FnScope n_l_taken ["_law_row", "_law_many"] (defScope s_l_taken) := ⟨rfl, rfl, rfl, by decide +kernel, rfl, by decide +kernel, by decide +kernel⟩
abbrev s_l_pick : Stmt := topS 35
abbrev n_l_pick : List Str := ["_law_row", "_law_things"]
theorem sc_l_pick : FnScope n_l_pick ["_law_row", "_law_things"] (defScope s_l_pick) := ⟨rfl, rfl, rfl, by decide +kernel, rfl, by decide +kernel, by decide +kernel⟩
abbrev s_l_some_set : Stmt := topS 36
abbrev n_l_some_set : List Str := ["_law_row", "_law_many", "_law_rare", "_law_k"]
theorem sc_l_some_set : FnScope n_l_some_set ["_law_row", "_law_many"] (defScope s_l_some_set) := ⟨rfl, rfl, rfl, by decide +kernel, rfl, by decide +kernel, by decide +kernel⟩
abbrev s_l_least : Stmt := topS 37
abbrev n_l_least : List Str := ["_law_sets", "_law_found", "_law_one", "_law_less_here", "_law_other", "_law_k"]
theorem sc_l_least : FnScope n_l_least ["_law_sets"] (defScope s_l_least) := ⟨rfl, rfl, rfl, by decide +kernel, rfl, by decide +kernel, by decide +kernel⟩
abbrev s_l_system : Stmt := topS 38
abbrev n_l_system : List Str := ["_law_row", "_law_most", "_law_many", "_law_sets", "_law_turn", "_law_one"]
theorem sc_l_system : FnScope n_l_system ["_law_row", "_law_most"] (defScope s_l_system) := ⟨rfl, rfl, rfl, by decide +kernel, rfl, by decide +kernel, by decide +kernel⟩
abbrev s_l_gcd : Stmt := topS 39
abbrev n_l_gcd : List Str := ["_law_one", "_law_other"]
theorem sc_l_gcd : FnScope n_l_gcd ["_law_one", "_law_other"] (defScope s_l_gcd) := ⟨rfl, rfl, rfl, by decide +kernel, rfl, by decide +kernel, by decide +kernel⟩
abbrev s_l_ratio : Stmt := topS 40
abbrev n_l_ratio : List Str := ["_law_numerator", "_law_denominator", "_law_common"]
theorem sc_l_ratio : FnScope n_l_ratio ["_law_numerator", "_law_denominator"] (defScope s_l_ratio) := ⟨rfl, rfl, rfl, by decide +kernel, rfl, by decide +kernel, by decide +kernel⟩
abbrev s_l_chances : Stmt := topS 41
abbrev n_l_chances : List Str := ["_law_row", "_law_many", "_law_below", "_law_k"]
theorem sc_l_chances : FnScope n_l_chances ["_law_row", "_law_many"] (defScope s_l_chances) := ⟨rfl, rfl, rfl, by decide +kernel, rfl, by decide +kernel, by decide +kernel⟩
abbrev s_l_times : Stmt := topS 42
abbrev n_l_times : List Str := ["_law_one", "_law_other"]
theorem sc_l_times : FnScope n_l_times ["_law_one", "_law_other"] (defScope s_l_times) := ⟨rfl, rfl, rfl, by decide +kernel, rfl, by decide +kernel, by decide +kernel⟩
abbrev s_l_product : Stmt := topS 43
abbrev n_l_product : List Str := ["_law_values", "_law_found", "_law_one"]
theorem sc_l_product : FnScope n_l_product ["_law_values"] (defScope s_l_product) := ⟨rfl, rfl, rfl, by decide +kernel, rfl, by decide +kernel, by decide +kernel⟩
abbrev s_l_less : Stmt := topS 44
abbrev n_l_less : List Str := ["_law_one", "_law_other"]
theorem sc_l_less : FnScope n_l_less ["_law_one", "_law_other"] (defScope s_l_less) := ⟨rfl, rfl, rfl, by decide +kernel, rfl, by decide +kernel, by decide +kernel⟩
abbrev s_l_states : Stmt := topS 45
abbrev n_l_states : List Str := ["_law_many", "_law_found", "_law_k", "_law_state"]
theorem sc_l_states : FnScope n_l_states ["_law_many"] (defScope s_l_states) := ⟨rfl, rfl, rfl, by decide +kernel, rfl, by decide +kernel, by decide +kernel⟩
abbrev s_l_works : Stmt := topS 46
abbrev n_l_works : List Str := ["_law_system_here", "_law_state", "_law_path", "_law_k"]
theorem sc_l_works : FnScope n_l_works ["_law_system_here", "_law_state"] (defScope s_l_works) := ⟨rfl, rfl, rfl, by decide +kernel, rfl, by decide +kernel, by decide +kernel⟩
abbrev s_l_up : Stmt := topS 47
abbrev n_l_up : List Str := ["_law_state", "_law_k", "_law_value"]
theorem sc_l_up : FnScope n_l_up ["_law_state", "_law_k", "_law_value"] (defScope s_l_up) := ⟨rfl, rfl, rfl, by decide +kernel, rfl, by decide +kernel, by decide +kernel⟩
abbrev s_l_cuts : Stmt := topS 48
abbrev n_l_cuts : List Str := ["_law_system_here", "_law_many", "_law_found", "_law_state", "_law_failed", "_law_k"]
theorem sc_l_cuts : FnScope n_l_cuts ["_law_system_here"] (defScope s_l_cuts) := ⟨rfl, rfl, rfl, by decide +kernel, rfl, by decide +kernel, by decide +kernel⟩
abbrev s_l_less_one : Stmt := topS 49
abbrev n_l_less_one : List Str := ["_law_one"]
theorem sc_l_less_one : FnScope n_l_less_one ["_law_one"] (defScope s_l_less_one) := ⟨rfl, rfl, rfl, by decide +kernel, rfl, by decide +kernel, by decide +kernel⟩
abbrev s_l_alike : Stmt := topS 50
abbrev n_l_alike : List Str := ["_law_found", "_law_due", "_law_k"]
theorem sc_l_alike : FnScope n_l_alike ["_law_found", "_law_due"] (defScope s_l_alike) := ⟨rfl, rfl, rfl, by decide +kernel, rfl, by decide +kernel, by decide +kernel⟩
abbrev s_l_within : Stmt := topS 51
abbrev n_l_within : List Str := ["_law_low", "_law_one", "_law_high"]
theorem sc_l_within : FnScope n_l_within ["_law_low", "_law_one", "_law_high"] (defScope s_l_within) := ⟨rfl, rfl, rfl, by decide +kernel, rfl, by decide +kernel, by decide +kernel⟩
abbrev s_l_plus : Stmt := topS 52
abbrev n_l_plus : List Str := ["_law_one", "_law_other"]
theorem sc_l_plus : FnScope n_l_plus ["_law_one", "_law_other"] (defScope s_l_plus) := ⟨rfl, rfl, rfl, by decide +kernel, rfl, by decide +kernel, by decide +kernel⟩
abbrev s_l_weight : Stmt := topS 53
abbrev n_l_weight : List Str := ["_law_chances_here", "_law_state", "_law_found", "_law_k", "_law_a", "_law_b"]
theorem sc_l_weight : FnScope n_l_weight ["_law_chances_here", "_law_state"] (defScope s_l_weight) := ⟨rfl, rfl, rfl, by decide +kernel, rfl, by decide +kernel, by decide +kernel⟩
abbrev s_l_chance : Stmt := topS 54
abbrev n_l_chance : List Str := ["_law_system_here", "_law_chances_here", "_law_found", "_law_state"]
theorem sc_l_chance : FnScope n_l_chance ["_law_system_here", "_law_chances_here"] (defScope s_l_chance) := ⟨rfl, rfl, rfl, by decide +kernel, rfl, by decide +kernel, by decide +kernel⟩
abbrev s_law : Stmt := topS 55
abbrev n_law : List Str := ["_law_script", "_law_row", "_law_system_here", "_law_chances_here", "_law_low", "_law_high", "_law_path", "_law_one", "_law_cut", "_law_k"]
theorem sc_law : FnScope n_law ["_law_script"] (defScope s_law) := ⟨rfl, rfl, rfl, by decide +kernel, rfl, by decide +kernel, by decide +kernel⟩
end Fw
/-! Faultworks, part D: tuples of numbers as data; in; sorted; sets. -/
namespace Fw
open PySem PySem.Spec PyProof.Rows L2

/-! ### plain data -/
def Sh (n : Nat) (d : PyData) : Prop := PyData.canLay0 d = true ∧ PyData.depth d ≤ n
theorem Sh.ok {n : Nat} {d : PyData} (h : Sh n d) (hn : n ≤ 64) : SeqAt.shaped d = true := by
  unfold SeqAt.shaped
  rw [h.1, Bool.true_and]
  exact decide_eq_true (Nat.le_trans h.2 hn)
theorem sh_int {n : Nat} (i : Int) : Sh n (.int i) := ⟨by simp [PyData.canLay0], by simp [PyData.depth]⟩
theorem sh_all {n : Nat} : ∀ {ds : List PyData}, (∀ d ∈ ds, Sh n d) → PyData.canLayAll0 ds = true ∧ PyData.depthAll ds ≤ n
  | [], _ => ⟨by simp [PyData.canLayAll0], by simp [PyData.depthAll]⟩
  | d :: ds, h => by
    obtain ⟨a, b⟩ := sh_all (ds := ds) fun d hd => h d (List.mem_cons_of_mem _ hd)
    obtain ⟨c, e⟩ := h d List.mem_cons_self
    refine ⟨by simp [PyData.canLayAll0, a, c], ?_⟩
    rw [PyData.depthAll]
    exact Nat.max_le.mpr ⟨e, b⟩
theorem sh_list {n : Nat} {ds : List PyData} (h : ∀ d ∈ ds, Sh n d) : Sh (n + 1) (.list ds) := by
  obtain ⟨a, b⟩ := sh_all h
  exact ⟨by rw [PyData.canLay0]; exact a, by rw [PyData.depth]; omega⟩
theorem sh_tup {n : Nat} {ds : List PyData} (h : ∀ d ∈ ds, Sh n d) : Sh (n + 1) (.tuple ds) := by
  obtain ⟨a, b⟩ := sh_all h
  exact ⟨by rw [PyData.canLay0]; exact a, by rw [PyData.depth]; omega⟩
/-- a list of numbers from 0 on, as items; as a tuple -/
def inz (l : List Nat) : List PyData := l.map fun (k : Nat) => PyData.int (k : Int)
def nd (l : List Nat) : PyData := .tuple (inz l)
theorem ints_len (l : List Nat) : (inz l).length = l.length := List.length_map _
theorem ints_get {l : List Nat} {i k : Nat} (h : l[i]? = some k) : (inz l)[i]? = some (.int (k : Int)) := by
  unfold inz
  rw [List.getElem?_map, h]
  rfl
theorem ints_mem {l : List Nat} {d : PyData} (h : d ∈ inz l) : ∃ k ∈ l, d = .int (k : Int) := by
  obtain ⟨k, a, b⟩ := List.mem_map.mp h
  exact ⟨k, a, b.symm⟩
theorem sh_ints {l : List Nat} {n : Nat} : ∀ d ∈ inz l, Sh n d := fun d h => by
  obtain ⟨k, _, rfl⟩ := ints_mem h
  exact sh_int _
theorem sh_nd (l : List Nat) : Sh 1 (nd l) := sh_tup sh_ints
theorem sh_nds (ls : List (List Nat)) : ∀ d ∈ ls.map nd, Sh 1 d := fun d h => by
  obtain ⟨l, _, rfl⟩ := List.mem_map.mp h
  exact sh_nd l
theorem eqvAll_ints : ∀ a b : List Nat, PyData.eqvAll (inz a) (inz b) = decide (a = b)
  | [], [] => by simp [inz, PyData.eqvAll]
  | [], _ :: _ => by simp [inz, PyData.eqvAll]
  | _ :: _, [] => by simp [inz, PyData.eqvAll]
  | x :: a, y :: b => by
    show PyData.eqvAll (.int (x : Int) :: inz a) (.int (y : Int) :: inz b) = _
    rw [PyData.eqvAll, eqvAll_ints a b, PyData.eqv]
    by_cases h : x = y <;> by_cases h2 : a = b <;> simp [h, h2] <;> omega
theorem eqv_nd (a b : List Nat) : PyData.eqv (nd a) (nd b) = decide (a = b) := by
  show PyData.eqv (.tuple _) (.tuple _) = _
  rw [PyData.eqv]
  exact eqvAll_ints a b
theorem eqv_listI (a b : List Nat) : PyData.eqv (.list (inz a)) (.list (inz b)) = decide (a = b) := by
  rw [PyData.eqv]
  exact eqvAll_ints a b
theorem eqv_nil (ds : List PyData) : PyData.eqv (.list ds) (.list []) = ds.isEmpty := by
  rw [PyData.eqv]
  cases ds <;> simp [PyData.eqvAll]
theorem eqvAll_nds : ∀ a b : List (List Nat), PyData.eqvAll (a.map nd) (b.map nd) = decide (a = b)
  | [], [] => by simp [PyData.eqvAll]
  | [], _ :: _ => by simp [PyData.eqvAll]
  | _ :: _, [] => by simp [PyData.eqvAll]
  | x :: a, y :: b => by
    rw [List.map_cons, List.map_cons, PyData.eqvAll, eqvAll_nds a b, eqv_nd]
    by_cases h : x = y <;> by_cases h2 : a = b <;> simp [h, h2]
theorem nd_inj {a b : List Nat} (h : nd a = nd b) : a = b := by
  have := eqv_nd a b
  rw [h, eqv_nd] at this
  simpa using this.symm
section
variable {X : Cx} {a b c e : Expr} {es : List Expr} {ρ ρ1 ρ2 : DEnv} {x y z d : PyData} {ds : List PyData} {pos p : Pos} {u : Bool} {k j : Nat} {n : Str}

/-! ### in, not in -/
theorem rdin {K} (hx : SeqAt.shaped x = true) (hy : SeqAt.shaped (.list ds) = true) : RD K (rInD K) x (.list ds) (.bool (ds.any fun z => PyData.eqv z x)) := fun u v H B Q _ a b q => ⟨x, ds, a.dp, b.dp, hx, hy, q _ H (Same.refl H) (.bl _)⟩
theorem rdnin {K} (hx : SeqAt.shaped x = true) (hy : SeqAt.shaped (.list ds) = true) : RD K (rNotInD K) x (.list ds) (.bool (!ds.any fun z => PyData.eqv z x)) := fun u v H B Q _ a b q => ⟨x, ds, a.dp, b.dp, hx, hy, q _ H (Same.refl H) (.bl _)⟩
theorem tx_notInL (hu : X.A.units + 65 < cLine) (hx : SeqAt.shaped x = true) (hy : SeqAt.shaped (.list ds) = true) (ha : EX X a ρ x) (hb : EX X b ρ (.list ds)) (hm : behindInMarks .NotIn b = false := by rfl) : TX X (.Compare a [.NotIn] [b] pos) ρ (!ds.any fun z => PyData.eqv z x) :=
  tx_cmp (op_notInD hu) (rdnin hx hy) ha hb hm
theorem at_ints {K : PySem.W.Frag} {H : Hp} {B : Ban} : ∀ {l : List Nat} {vs : List V}, AtAll K H B vs (inz l) → vs = l.map fun (k : Nat) => V.int (k : Int)
  | [], _, h => by
    have h : AtAll K H B _ [] := h
    cases h; rfl
  | m :: l, _, h => by
    have h : AtAll K H B _ (.int (m : Int) :: inz l) := h
    cases h with
    | cons h g =>
      cases h
      rw [at_ints g]
      rfl
theorem ints_at {K : PySem.W.Frag} {H : Hp} {B : Ban} : ∀ (l : List Nat), AtAll K H B (l.map fun (k : Nat) => V.int (k : Int)) (inz l)
  | [] => .nil
  | _ :: l => .cons (.int _) (ints_at l)
theorem inV_nat (k : Nat) : ∀ l : List Nat, inV (.int (k : Int)) (l.map fun (k : Nat) => V.int (k : Int)) = decide (k ∈ l)
  | [] => rfl
  | m :: l => by
    have ih := inV_nat k l
    unfold inV at ih ⊢
    show (eqV (.int (m : Int)) (.int (k : Int)) || List.any _ _) = _
    rw [ih]
    show (((m : Int) == (k : Int)) || _) = _
    have e : ((m : Int) == (k : Int)) = decide (k = m) := by
      rw [Bool.beq_eq_decide_eq]
      exact decide_eq_decide.mpr (by omega)
    rw [e]
    by_cases h : k = m <;> by_cases h2 : k ∈ l <;> simp [h, h2]
theorem flat_nat (l : List Nat) : (l.map fun (k : Nat) => V.int (k : Int)).all flatV = true := by
  rw [List.all_map]
  exact List.all_eq_true.mpr fun _ _ => rfl
theorem rd_notIn {K} {m : Nat} {l : List Nat} : RD K (rIn K true) (.int (m : Int)) (nd l) (.bool (!decide (m ∈ l))) := fun u v H B Q _ a b q => by
  cases a
  have b : At K H B v (.tuple (inz l)) := b
  cases b with
  | @tup t xs _ h g =>
    have e := at_ints g
    subst e
    refine ⟨t, _, rfl, .inr h, rfl, flat_nat l, ?_⟩
    rw [if_pos rfl, inV_nat]
    exact q _ H (Same.refl H) (.bl _)
theorem tx_notInT {m : Nat} {l : List Nat} (ha : EX X a ρ (.int (m : Int))) (hb : EX X b ρ (nd l)) (hm : behindInMarks .NotIn b = false := by rfl) : TX X (.Compare a [.NotIn] [b] pos) ρ (!decide (m ∈ l)) := tx_cmp op_notIn_seq rd_notIn ha hb hm
end
end Fw
/-! Faultworks, part E: sorted lists of tuples of numbers. -/
namespace Fw
open PySem PySem.Spec PyProof.Rows L2 PySem.W

/-! ### the order of tuples -/
def castL (l : List Nat) : List Int := l.map fun (k : Nat) => (k : Int)
theorem inz_cast (l : List Nat) : inz l = (castL l).map .int := by
  unfold inz castL
  rw [List.map_map]
  rfl
theorem cast_lt : ∀ a b : List Nat, castL a < castL b ↔ a < b
  | [], [] => by simp [castL]
  | [], _ :: _ => by simp [castL]
  | _ :: _, [] => by simp [castL]
  | x :: a, y :: b => by
    have ih := cast_lt a b
    show ((x : Int) :: castL a) < ((y : Int) :: castL b) ↔ _
    rw [List.cons_lt_cons_iff, List.cons_lt_cons_iff, ih]
    constructor
    · rintro (h | ⟨h, h2⟩)
      · exact .inl (by omega)
      · exact .inr ⟨by omega, h2⟩
    · rintro (h | ⟨h, h2⟩)
      · exact .inl (by omega)
      · exact .inr ⟨by omega, h2⟩
def leN (a b : List Nat) : Bool := !decide (b < a)
theorem dataLt_nd (a b : List Nat) : dataLt (nd a) (nd b) = decide (a < b) := by
  show dataLt (.tuple (inz a)) (.tuple (inz b)) = _
  rw [dataLt_tuple, inz_cast, inz_cast]
  exact (dataLt_ints _ _).trans (decide_eq_decide.mpr (cast_lt a b))
theorem dataLe_nd {β : Type} (f : β → List Nat) : dataLe false (fun b => nd (f b)) = fun a b => leN (f a) (f b) := by
  rw [dataLe_eq]
  funext a b
  show (!dataLt (nd (f b)) (nd (f a))) = _
  rw [dataLt_nd]
  rfl
def srt (ls : List (List Nat)) : List (List Nat) := ls.mergeSort leN
theorem leN_iff {a b : List Nat} : leN a b = true ↔ a ≤ b := by
  unfold leN
  rw [Bool.not_eq_true', decide_eq_false_iff_not]
  exact List.not_lt
theorem srt_perm (ls : List (List Nat)) : (srt ls).Perm ls := List.mergeSort_perm _ _
theorem srt_le (ls : List (List Nat)) : (srt ls).Pairwise (· ≤ ·) := by
  have t : ∀ a b c : List Nat, leN a b = true → leN b c = true → leN a c = true := fun a b c h1 h2 => leN_iff.mpr (List.le_trans (leN_iff.mp h1) (leN_iff.mp h2))
  have u : ∀ a b : List Nat, (leN a b || leN b a) = true := fun a b => by
    rcases List.le_total a b with h | h
    · rw [leN_iff.mpr h, Bool.true_or]
    · rw [leN_iff.mpr h, Bool.or_true]
  have p : (ls.mergeSort leN).Pairwise (fun a b => leN a b = true) := List.pairwise_mergeSort t u ls
  exact p.imp fun {a b} h => leN_iff.mp h
theorem srt_one {l m : List (List Nat)} (hm : m.Pairwise (· ≤ ·)) (hp : l.Perm m) : srt l = m :=
  List.Perm.eq_of_pairwise (le := (· ≤ ·)) (fun _ _ _ _ h1 h2 => List.le_antisymm h1 h2) (srt_le l) hm ((srt_perm l).trans hp)

/-! ### sorted -/
theorem alike_nd (a b : List Nat) : alike (nd a) (nd b) = true := by
  show alike (.tuple (inz a)) (.tuple (inz b)) = true
  rw [alike, inz_cast, inz_cast]
  exact alike_ints _ _
theorem depth_nd (a : List Nat) : (nd a).depth = 1 := by
  show PyData.depth (.tuple (inz a)) = 1
  rw [PyData.depth, inz_cast, depth_ints]
theorem sorts_few {prog : Program} {w : World} {A : Around} {s : Shared} {vs : List Value} {ds : List PyData} (e : EachIs (fun v d => ∃ as, Reads s.heap v d as) vs ds) (hal : AllAlike ds) (hn : ∀ d ∈ ds, d ≠ .none) (h1 : ds.length ≤ 1) (hu : ∀ d, d ∈ ds → A.units + d.depth < cLine) :
    SortsAt prog w A s (dataKind s.heap ds) vs where
  keys := fun v hv => by
    obtain ⟨d, hd, as, r⟩ := e.left v hv
    exact ⟨_, dataKind_some hal hd r⟩
  kind := ⟨general', fun E x y a b Q ha hb hq => by
    obtain ⟨d, as, hd, ra, rfl⟩ := dataKind_inv ha
    obtain ⟨d', as', hd', rb, rfl⟩ := dataKind_inv hb
    have go : wpAny (model prog w) A (oneLt' false x y) Q E s := oneLt_alike (f := false) (fun z => nomatch z) ra rb (hal d hd d' hd') (hn d hd) (Nat.lt_of_le_of_lt (Nat.add_le_add_left (Nat.min_le_left _ _) _) (hu d hd)) hq
    exact go, fun h2 => absurd h2 (by rw [e.length]; omega)⟩
section
variable {X : Cx}
def rSrtN (K : PySem.W.Frag) : List V → Hp → VK → Prop := fun vs H Q => ∃ (a : Addr) (ps : List (V × List Nat)), vs = [V.ref a] ∧ SqL K H a (ps.map (·.1)) ∧ (∀ p ∈ ps, Dp K H p.1 (nd p.2)) ∧ ((∀ p ∈ ps, p.2 ≠ []) ∨ ps.length ≤ 1) ∧ ps.length ≤ 100000 ∧
  ∀ (ps' : List (V × List Nat)) (q : Addr), ps'.Perm ps → ps'.map (·.2) = srt (ps.map (·.2)) → H q = none → Q (.ref q) (upd H q (.lst (ps'.map (·.1))))
theorem each_of_vals {h : Heap} : ∀ {ps : List (V × List Nat)} {us : List Value}, Vals (ps.map (·.1)) us → (∀ p ∈ ps, ∀ u, RelV p.1 u → ∃ as, Reads h u (nd p.2) as) → EachIs (fun u p => RelV p.1 u) us ps ∧ EachIs (fun u p => ∃ as, Reads h u (nd p.2) as) us ps
  | [], _, .nil, _ => ⟨.nil, .nil⟩
  | p :: ps, _, .cons r t, hp => by
    obtain ⟨a, b⟩ := each_of_vals t fun q hq => hp q (List.mem_cons_of_mem _ hq)
    exact ⟨.cons r a, .cons (hp p List.mem_cons_self _ r) b⟩
theorem vals_of_each : ∀ {ps : List (V × List Nat)} {us : List Value}, EachIs (fun u p => RelV p.1 u) us ps → Vals (ps.map (·.1)) us
  | _, _, .nil => .nil
  | _, _, .cons r t => .cons r (vals_of_each t)
theorem cr_srtN (hu : X.A.units + 64 < cLine) : CallR X (.builtin "sorted") (rSrtN X.K) := by
  intro pins s σ H vs us Q I r h
  obtain ⟨a, ps, rfl, hs, hd, hne, hz, q⟩ := h
  obtain ⟨its, rv, hl, _⟩ := I.list hs
  rw [Vals.ref1 r]
  obtain ⟨e, er⟩ := each_of_vals (h := s.heap) rv fun p hp u ru => Dp.reads I _ _ _ (hd p hp) ru
  have hal : AllAlike (ps.map fun p => nd p.2) := AllAlike.of fun b b' => alike_nd _ _
  have hbd : ∀ d, d ∈ ps.map (fun p => nd p.2) → X.A.in1.in1.units + d.depth < cLine := fun d hd => by
    obtain ⟨p, _, rfl⟩ := List.mem_map.mp hd
    rw [depth_nd]
    show X.A.units + 2 + 1 < cLine
    omega
  have er' : EachIs (fun v (b : V × List Nat) => ∃ as, Reads (sortingHeap (copyHeap s.heap its) (s.heap.objs.size + 1) its) v (nd b.2) as) its ps := er.mono fun _ _ ⟨as, r⟩ => ⟨as, PyProof.Rows.Reads.keeps (fun _ _ => sorting_copy_old) r⟩
  have em := each_map (R := fun v d => ∃ as, Reads (sortingHeap (copyHeap s.heap its) (s.heap.objs.size + 1) its) v d as) (fun (b : V × List Nat) => nd b.2) er'
  have hlen : its.length = ps.length := e.length
  have S : SortsAt X.prog X.w X.A.in1.in1 { s with heap := sortingHeap (copyHeap s.heap its) (s.heap.objs.size + 1) its } (dataKind (sortingHeap (copyHeap s.heap its) (s.heap.objs.size + 1) its) (ps.map fun p => nd p.2)) its := by
    rcases hne with hne | hne
    · refine SortsAt.data (s := { s with heap := sortingHeap (copyHeap s.heap its) (s.heap.objs.size + 1) its }) em hal (.inl fun d hd => ?_) hbd
      obtain ⟨p, hp, rfl⟩ := List.mem_map.mp hd
      cases hp2 : p.2 with
      | nil => exact absurd hp2 (hne p hp)
      | cons x l => exact ⟨_, inz l, rfl⟩
    · refine sorts_few (s := { s with heap := sortingHeap (copyHeap s.heap its) (s.heap.objs.size + 1) its }) em hal (fun d hd => ?_) (by rw [List.length_map]; exact hne) hbd
      obtain ⟨p, hp, rfl⟩ := List.mem_map.mp hd
      exact fun z => nomatch z
  refine sorted_vals hl.isList S (by rw [hlen]; exact Nat.le_trans hz (by decide)) ?_
  have eo := sortVals_data (h' := sortingHeap (copyHeap s.heap its) (s.heap.objs.size + 1) its) (R := fun u (p : V × List Nat) => RelV p.1 u) (enc := fun p => nd p.2) false e er' hal
  rw [dataLe_nd] at eo
  have pm : (ps.mergeSort fun a b => leN a.2 b.2).Perm ps := List.mergeSort_perm _ _
  have em2 : (ps.mergeSort fun a b => leN a.2 b.2).map (·.2) = srt (ps.map (·.2)) := sort_maps (fun p : V × List Nat => p.2) fun _ _ _ _ => rfl
  obtain ⟨ep, he'⟩ := PyProof.Rows.sortedAll_at s.heap its (sortVals (dataKind (sortingHeap (copyHeap s.heap its) (s.heap.objs.size + 1) its) (ps.map fun p => nd p.2)) false its its).toArray
  refine ⟨.ref _, upd H (s.heap.objs.size + 1) (.lst ((ps.mergeSort fun a b => leN a.2 b.2).map (·.1))), I.laid (t' := s.toks) (fun _ _ => PyProof.Rows.sortedAll_old) (Nat.le_succ _) ⟨?_, _, ep, vals_of_each eo, he'⟩, rfl, q _ _ pm em2 (I.hok.fresh (Nat.le_succ _))⟩
  rw [List.length_map, pm.length_eq]
  exact Nat.le_trans hz (by decide)
end
/-- the values of a list of tuples, each with what it stands for -/
theorem at_pairs {K : PySem.W.Frag} {H : Hp} {B : Ban} : ∀ {ls : List (List Nat)} {vs : List V}, AtAll K H B vs (ls.map nd) → ∃ ps : List (V × List Nat), ps.map (·.1) = vs ∧ ps.map (·.2) = ls ∧ ∀ p ∈ ps, At K H B p.1 (nd p.2)
  | [], _, h => by cases h; exact ⟨[], rfl, rfl, fun p hp => by cases hp⟩
  | l :: ls, _, h => by
    cases h with
    | cons h g =>
      obtain ⟨ps, h1, h2, h3⟩ := at_pairs g
      refine ⟨(_, l) :: ps, by rw [List.map_cons, h1], by rw [List.map_cons, h2], fun p hp => ?_⟩
      rcases List.mem_cons.mp hp with rfl | hp
      · exact h
      · exact h3 p hp
theorem pairs_at {K : PySem.W.Frag} {H : Hp} {B : Ban} : ∀ {ps : List (V × List Nat)}, (∀ p ∈ ps, At K H B p.1 (nd p.2)) → AtAll K H B (ps.map (·.1)) ((ps.map (·.2)).map nd)
  | [], _ => .nil
  | p :: ps, h => .cons (h p List.mem_cons_self) (pairs_at fun q hq => h q (List.mem_cons_of_mem _ hq))
section
variable {X : Cx} {a b c e : Expr} {es : List Expr} {ρ ρ1 ρ2 : DEnv} {x y z d : PyData} {ds : List PyData} {pos p : Pos} {u : Bool} {k j : Nat} {n : Str}
theorem ex_sortedN {ls : List (List Nat)} (hm : X.mg "sorted" = none) (hr : Room k X.A) (hne : (∀ l ∈ ls, l ≠ []) ∨ ls.length ≤ 1) (hz : ls.length ≤ 100000) (ha : EX X a ρ (.list (ls.map nd)))
    (he : starEach [a] X.env = (false, eval a X.env) :: starEach [] X.env := by rfl) (hg : Gl X "sorted" := by rfl) : EX X (.Call (.Name "sorted" p) [a] [] pos) ρ (.list ((srt ls).map nd)) :=
  ex_bi (cr_srtN hr.units) hm (by decide +kernel) (ax_cons ha ax_nil he) (fun vs H B Q hd h q => by
    obtain ⟨v, rfl, h'⟩ := atAll1 h
    cases h' with
    | @lst t xs _ h2 nb g =>
      obtain ⟨ps, rfl, rfl, hp⟩ := at_pairs g
      refine ⟨t, ps, rfl, .of h2, fun p hp' => (hp p hp').dp, ?_, by rwa [List.length_map] at hz, fun ps' q' pm e2 hq => ?_⟩
      · rcases hne with hne | hne
        · exact .inl fun p hp' => hne _ (List.mem_map.mpr ⟨p, hp', rfl⟩)
        · exact .inr (by rwa [List.length_map] at hne)
      · refine q _ _ (same_new hq) (.lst upd_same (hd.no hq) ?_)
        rw [← e2]
        exact (pairs_at fun p hp' => hp p (pm.mem_iff.mp hp')).mono (same_new hq)) hg (by decide) (by decide) he rfl
end
end Fw
/-! Faultworks, part F: sorted(set(t)) of a tuple of numbers, of a tuple of tuples of numbers. -/
namespace Fw
open PySem PySem.Spec PyProof.Rows L2 PySem.W

/-! ### set(t), t a tuple of tuples of ints -/
abbrev newSet (w : World) : Obj := { cls := .type "set", dict := none, data := .set #[] 0 (.fresh 0 0 (!w.params.followText "set-order")) }
section
variable {P : Program} {w : World} {A : Around} {E : Value → Shared → Prop} {s : Shared}
set_option maxHeartbeats 8000000 in
theorem set_of_tup {l : Addr} {its : Array Value} (ks : List (Addr × List Int)) {Q : Value → Shared → Prop} (calm : A.handled = none) (ht : s.heap.IsTuple l its) (eit : its.toList = ks.map fun p => Value.ref p.1)
    (hks : ∀ p ∈ ks, IsT P w s.heap p.2 p.1) (few : ks.length < 64) (room : A.units + 3 < cLine)
    (fin : ∀ (g : Heap) (tk : Nat) L es ep t, SetTR P w g s.heap.objs.size L es ep t → Got ks ks.length L → (∀ b o, s.heap.get? b = some o → g.get? b = some o) → Q (.ref s.heap.objs.size) { s with heap := g, toks := tk }) :
    wpAny (model P w) A (call (.type "set") [.ref l]) Q E s := by
  have esz : its.size = ks.length := by have q := congrArg List.length eit; rwa [Array.length_toList, List.length_map] at q
  obtain ⟨c, tl, hmro⟩ := F.called_set.mro
  have f1 := F.called_set.made
  have f2 := F.called_set.sub
  refine wpAny_call (codeAny_of_tree (show wpAny _ _ (callAny (.type "set") _) _ _ _ from wpAny_pure ⟨Code.quiet_builtin _ (by decide +kernel), codeAny_builtin F.entry_type_call ?_⟩))
  rw [Around.under_plain (weight_type_call_type "set" [.ref l] []) rfl]
  have f3 := F.called_set.notType
  have f4 := F.called_set.canCreate
  have f5 := F.typeCall_set_1 (.ref l)
  repeat (any_goals (first | assumption | wp_step))
  refine codeAny_mono (code_set_led1 (.ref l) (E := E) (Q₁ := fun ob s₁ => ob = .ref s.heap.objs.size ∧ s₁ = { s with heap := s.heap.push (newSet w) }) ⟨rfl, rfl⟩) fun r s₁ hr => ?_
  cases r with
  | error e => exact hr
  | ok fl =>
    cases fl with
    | next => exact hr.elim
    | brk => exact hr.elim
    | cont => exact hr.elim
    | ret ob =>
      obtain ⟨rfl, rfl⟩ := hr
      have at1 : (s.heap.push (newSet w)).get? s.heap.objs.size = some (newSet w) := Heap.get?_push_size _ rfl
      have ty1 : Shared.TypeIs { s with heap := s.heap.push (newSet w) } (.ref s.heap.objs.size) "set" := ⟨_, at1, rfl⟩
      have f6 := F.called_set.init.lookup
      have f7 := F.called_set.init.bind (.ref s.heap.objs.size)
      repeat (any_goals (first | assumption | wp_step))
      refine codeAny_mono (codeAny_call_builtin (R := wants (fun r s₂ => r = .none ∧ ∃ g tk L es ep t, s₂ = { s with heap := g, toks := tk } ∧ SetTR P w g s.heap.objs.size L es ep t ∧ Got ks ks.length L ∧ (∀ b o, s.heap.get? b = some o → g.get? b = some o)) E)
        F.called_set.init.plain F.entry_set_init (check_set_init_1 ty1 ?_)) fun r₂ s₂ h₂ => ?_
      · obtain ⟨ol, atl, cl, nl, dl⟩ := ht
        obtain ⟨oc, od, oda, osl⟩ := ol
        simp only at cl dl
        subst cl; subst dl
        have f8 := F.sub_tuple_set
        have f9 := F.sub_tuple_frozenset
        have f0 : (Value.type "tuple" == Value.type "dict") = false := by decide
        have atl1 : (s.heap.push (newSet w)).get? l = some { cls := .type "tuple", dict := od, data := .seq its nl, slots := osl } := Heap.get?_push_of_some _ atl
        have tup1 : (s.heap.push (newSet w)).IsTuple l its := ⟨_, atl1, rfl, nl, rfl⟩
        unfold Builtin.«set.__init__» noKeywords Builtin.Frozenset.updateFrom
        generalize hIT : pyIter = IT
        wp_walk
        subst hIT
        refine wpAny_pyIter_tuple tup1 (wpAny_bind (wpAny_runValue ?_))
        have lt1 : l < s.heap.objs.size := Heap.lt_size atl
        have calm3 : A.in1.in1.in1.handled = none := by simp [calm]
        have ne1 : l ≠ (s.heap.push (newSet w)).objs.size := by rw [Heap.size_push]; exact Nat.ne_of_lt (Nat.lt_succ_of_lt lt1)
        have nin : s.heap.objs.size ∉ [(s.heap.push (newSet w)).objs.size, l] := by
          rw [Heap.size_push]
          intro z
          rcases List.mem_cons.mp z with z | z
          · exact Nat.ne_of_lt (Nat.lt_succ_self _) z
          · exact Nat.ne_of_gt lt1 (List.mem_singleton.mp z)
        have gives : ∀ (i : Nat) (v : Value), its[i]? = some v → ∃ p, ks[i]? = some p ∧ v = .ref p.1 := fun i v hv => by
          have q : its.toList[i]? = some v := by rw [Array.getElem?_toList]; exact hv
          rw [eit, List.getElem?_map] at q
          obtain ⟨p, e1, e2⟩ := Option.map_eq_some_iff.mp q
          exact ⟨p, e1, e2.symm⟩
        have unk : ∀ b, s.heap.objs.size ≤ b → s.heap.get? b = none := fun b hb => Heap.get?_none_of_le hb
        refine set_update_tups ((Walks.tuple calm3 _ l ne1 its).toS) s.heap.objs.size nin ks esz few gives s.heap hks (unk _ (Nat.le_refl _)) (fun b hb => unk b ?_) room (its.size - 0) 0 _ (by omega) (Nat.zero_le _)
          ⟨⟨_, Heap.get?_push_size _ rfl, rfl, rfl⟩, tup1.push _⟩ (fun b o e => Heap.get?_push_of_some _ (Heap.get?_push_of_some _ e)) ⟨[], #[], 0, _, setTR_fresh (Heap.get?_push_of_some _ at1), Got.zero ks⟩ fun s' L es ep t mv R got kp => ?_
        · rw [List.mem_singleton.mp hb, Heap.size_push]; exact Nat.le_succ _
        · obtain ⟨g, gs, dr, tk, os⟩ := s'
          have q1 : gs = s.gens := mv.gens
          have q2 : dr = s.drawn := mv.drawn
          have q3 : os = s.os := mv.os
          subst q1; subst q2; subst q3
          rw [esz] at got
          exact wpAny_pure (wpAny_pure ⟨rfl, g, tk, L, es, ep, t, rfl, R, got, kp⟩)
      · cases r₂ with
        | error e => exact h₂
        | ok fl₂ =>
          cases fl₂ with
          | next => exact h₂.elim
          | brk => exact h₂.elim
          | cont => exact h₂.elim
          | ret r =>
            obtain ⟨rfl, g, tk, L, es, ep, t, rfl, R, got, kp⟩ := h₂
            repeat (any_goals (first | assumption | wp_step))
            exact fin _ _ _ _ _ _ R got kp
end
end Fw
/-! Faultworks, part G: sorted(set(t)), upon data. -/
namespace Fw
open PySem PySem.Spec PyProof.Rows L2 PySem.W

def dI (l : List Int) : PyData := .tuple (l.map .int)
theorem reads_items {P : Program} {w : World} {h : Heap} : ∀ {k : List Int} {vs : List Value}, ItemsAre (intKind P w) k vs → ∃ as, ReadsAll h vs (k.map .int) as
  | _, _, .nil => ⟨[], .nil⟩
  | _, _, .cons h1 t => by
    obtain ⟨tk, rfl⟩ := Value.isInt_shape h1
    obtain ⟨as, r⟩ := reads_items t
    exact ⟨_, .cons (.int _ _) r⟩
theorem reads_isT {P : Program} {w : World} {h : Heap} {k : List Int} {b : Addr} (x : IsT P w h k b) : ∃ as, Reads h (.ref b) (dI k) as := by
  obtain ⟨o, its, n, h1, h2, h3, h4⟩ := x
  obtain ⟨as, r⟩ := reads_items (h := h) h4
  exact ⟨as, .tuple h1 h2 h3 r⟩
theorem alike_dI (a b : List Int) : alike (dI a) (dI b) = true := by
  show alike (.tuple _) (.tuple _) = true
  rw [alike]
  exact alike_ints _ _
theorem depth_dI (a : List Int) : (dI a).depth = 1 := by
  show PyData.depth (.tuple _) = 1
  rw [PyData.depth, depth_ints]
def leI (a b : List Int) : Bool := !decide (b < a)
theorem leI_iff {a b : List Int} : leI a b = true ↔ a ≤ b := by
  unfold leI
  rw [Bool.not_eq_true', decide_eq_false_iff_not]
  exact List.not_lt
theorem dataLe_dI {β : Type} (f : β → List Int) : dataLe false (fun b => dI (f b)) = fun a b => leI (f a) (f b) := by
  rw [dataLe_eq]
  funext a b
  show (!dataLt (.tuple _) (.tuple _)) = _
  rw [dataLt_tuple]
  exact congrArg Bool.not (dataLt_ints _ _)
theorem sort_leI {α : Type} (f : α → List Int) (l : List α) : (l.mergeSort fun a b => leI (f a) (f b)).Pairwise (fun a b => f a ≤ f b) := by
  have t : ∀ a b c : α, leI (f a) (f b) = true → leI (f b) (f c) = true → leI (f a) (f c) = true := fun a b c h1 h2 => leI_iff.mpr (List.le_trans (leI_iff.mp h1) (leI_iff.mp h2))
  have u : ∀ a b : α, (leI (f a) (f b) || leI (f b) (f a)) = true := fun a b => by
    rcases List.le_total (f a) (f b) with h | h
    · rw [leI_iff.mpr h, Bool.true_or]
    · rw [leI_iff.mpr h, Bool.or_true]
  have p : (l.mergeSort fun a b => leI (f a) (f b)).Pairwise (fun a b => leI (f a) (f b) = true) := List.pairwise_mergeSort t u l
  exact p.imp fun {a b} h => leI_iff.mp h
section
variable {P : Program} {w : World} {A : Around} {E : Value → Shared → Prop} {s : Shared}
theorem each_refs {h : Heap} : ∀ {L : List (Addr × List Int)} {us : List Value}, us = L.map (fun q => Value.ref q.1) → (∀ q ∈ L, IsT P w h q.2 q.1) → EachIs (fun v q => v = Value.ref q.1) us L ∧ EachIs (fun v q => ∃ as, Reads h v (dI q.2) as) us L
  | [], _, rfl, _ => ⟨.nil, .nil⟩
  | q :: L, _, rfl, hp => by
    obtain ⟨a, b⟩ := each_refs (L := L) rfl fun r hr => hp r (List.mem_cons_of_mem _ hr)
    exact ⟨.cons rfl a, .cons (reads_isT (hp q List.mem_cons_self)) b⟩
theorem refs_each : ∀ {L : List (Addr × List Int)} {us : List Value}, EachIs (fun v q => v = Value.ref q.1) us L → us = L.map fun q => Value.ref q.1
  | _, _, .nil => rfl
  | _, _, .cons r t => by rw [r, refs_each t]; rfl
/-- sorted(set) of tuples of any lengths -/
theorem sorted_setV {a : Addr} {L : List (Addr × List Int)} {es : Array (Int × Value)} {ep : Nat} {t : SetTable} {Q : Value → Shared → Prop} (R : SetTR P w s.heap a L es ep t) (calm : A.handled = none) (room : A.units + 64 < cLine) (ne : (∀ q ∈ L, q.2 ≠ []) ∨ L.length ≤ 1)
    (fin : ∀ s' p (out : List Value) (c : Nat) (L' : List (Addr × List Int)), (∀ b o, s.heap.get? b = some o → s'.heap.get? b = some o) → s'.gens = s.gens → s'.os = s.os → s.heap.objs.size ≤ p → s'.heap.get? p = some (seqObj "list" out.toArray c) →
      out = L'.map (fun q => Value.ref q.1) → (∀ q ∈ L', q ∈ L) → (L'.map (·.2)).Perm (L.map (·.2)) → (L'.map (·.2)).Pairwise (· ≤ ·) → Q (.ref p) s') : wpAny (model P w) A (call (.builtin "sorted") [.ref a]) Q E s := by
  obtain ⟨o, ho, hx, hdt⟩ := R.ob
  have few := R.few
  have esz := R.size
  refine Calls.call_function_entry kind_sorted plain_sorted entry_sorted (args_sorted1 _) ?_
  unfold Builtin.«sorted»
  refine wpAny_bind (m := checkCount "sorted" 1 1 _) (wpAny_pure (wpAny_bind (collect_set (A := A.in1) calm ⟨o, ho, hx.1, hdt⟩ R.fits (by unfold scanBound; omega) R.tab.ris R.led fun s1 vs k1 hz g1 o1 pm => ?_)))
  have ees : es.toList.map (·.2) = L.map fun q => Value.ref q.1 := by
    rw [R.rows]
    show (List.map _ L).map _ = _
    rw [List.map_map]
    rfl
  rw [ees] at pm
  obtain ⟨L1, e1, p1⟩ : ∃ L1 : List (Addr × List Int), vs = L1.map (fun q => Value.ref q.1) ∧ L1.Perm L := by
    clear fin hz few esz ees ne
    have key : ∀ (l m : List Value), l.Perm m → ∀ M : List (Addr × List Int), m = M.map (fun q => Value.ref q.1) → ∃ L1 : List (Addr × List Int), l = L1.map (fun q => Value.ref q.1) ∧ L1.Perm M := by
      intro l m pm
      induction pm with
      | nil => intro M e; exact ⟨M, e, .refl _⟩
      | cons x _ ih =>
        intro M e
        cases M with
        | nil => cases e
        | cons q M =>
          rw [List.map_cons] at e
          injection e with e2 e3
          obtain ⟨L1, e4, p4⟩ := ih M e3
          exact ⟨q :: L1, by rw [List.map_cons, e4, e2], p4.cons _⟩
      | swap x y l =>
        intro M e
        cases M with
        | nil => cases e
        | cons q M =>
          cases M with
          | nil => cases e
          | cons r M =>
            rw [List.map_cons, List.map_cons] at e
            injection e with e2 e3
            injection e3 with e3 e4
            exact ⟨r :: q :: M, by rw [List.map_cons, List.map_cons, e2, e3, e4], List.Perm.swap _ _ _⟩
      | trans _ _ ih1 ih2 =>
        intro M e
        obtain ⟨L2, e2, p2⟩ := ih2 M e
        obtain ⟨L3, e3, p3⟩ := ih1 L2 e2
        exact ⟨L3, e3, p3.trans p2⟩
    exact key _ _ pm L rfl
  have vlen : vs.length = L.length := by rw [e1, List.length_map, p1.length_eq]
  have vsz : vs.length ≤ sizeLine := by rw [vlen, sizeLine_eq]; omega
  refine wpAny_bind (wpAny_newList ?_ vsz)
  have atD : (s1.heap.push (seqObj "list" vs.toArray 0)).get? s1.heap.objs.size = some (seqObj "list" vs.toArray 0) := Heap.get?_push_size _ rfl
  have notD : ∀ {b : Addr} {u : Obj}, s.heap.get? b = some u → b ≠ s1.heap.objs.size := fun e => Nat.ne_of_lt (Heap.lt_size (k1 _ _ e))
  let hs := sortingHeap (s1.heap.push (seqObj "list" vs.toArray 0)) s1.heap.objs.size vs
  have keepS : ∀ b u, s.heap.get? b = some u → hs.get? b = some u := fun b u e => sortingHeap_old (notD e) (Heap.get?_push_of_some _ (k1 b u e))
  obtain ⟨ea, eb⟩ := each_refs (P := P) (w := w) (h := hs) e1 fun q hq => isT_keep (R.tup q (p1.mem_iff.mp hq)) keepS
  have hal : AllAlike (L1.map fun q => dI q.2) := AllAlike.of fun b b' => alike_dI _ _
  have hbd : ∀ d, d ∈ L1.map (fun q => dI q.2) → A.in1.in1.units + d.depth < cLine := fun d hd => by
    obtain ⟨q, _, rfl⟩ := List.mem_map.mp hd
    rw [depth_dI]
    show A.units + 2 + 1 < cLine
    omega
  have em := each_map (R := fun v d => ∃ as, Reads hs v d as) (fun (q : Addr × List Int) => dI q.2) eb
  have S : SortsAt P w A.in1.in1 { s1 with heap := hs } (dataKind hs (L1.map fun q => dI q.2)) vs := by
    rcases ne with ne | ne
    · refine SortsAt.data (s := { s1 with heap := hs }) em hal (.inl fun d hd => ?_) hbd
      obtain ⟨q, hq, rfl⟩ := List.mem_map.mp hd
      cases hq2 : q.2 with
      | nil => exact absurd hq2 (ne q (p1.mem_iff.mp hq))
      | cons x l => exact ⟨_, l.map .int, rfl⟩
    · refine sorts_few (s := { s1 with heap := hs }) em hal (fun d hd => ?_) (by rw [List.length_map, p1.length_eq]; exact ne) hbd
      obtain ⟨q, hq, rfl⟩ := List.mem_map.mp hd
      exact fun z => nomatch z
  have eo := sortVals_data (h' := hs) (R := fun v (q : Addr × List Int) => v = Value.ref q.1) (enc := fun q => dI q.2) false ea eb hal
  rw [dataLe_dI] at eo
  have pm2 : (L1.mergeSort fun a b => leI a.2 b.2).Perm L1 := List.mergeSort_perm _ _
  refine wpAny_bind (wpAny_holding (wpAny_call_entry slot_list_sort ⟨_, atD, rfl⟩ entry_list_sort (list_sort_vals (s := { s1 with heap := s1.heap.push (seqObj "list" vs.toArray 0) }) atD S vsz ⟨_, rfl, ?_⟩) (args_list_sort _)))
  obtain ⟨c, hc⟩ := sortedHeap_at (vs := vs) (out := (sortVals (dataKind hs (L1.map fun q => dI q.2)) false vs vs).toArray) atD
  refine wpAny_pure ⟨_, rfl, fin _ s1.heap.objs.size _ c (L1.mergeSort fun a b => leI a.2 b.2) (fun b u e => ?_) g1 o1 hz hc (refs_each eo) (fun q hq => p1.mem_iff.mp (pm2.mem_iff.mp hq)) ((pm2.trans p1).map _) (List.pairwise_map.mpr (sort_leI (fun q : Addr × List Int => q.2) L1))⟩
  have lt := Heap.lt_size (k1 b u e)
  show (sortedHeap _ s1.heap.objs.size vs _).get? b = some u
  rw [sortedHeap_old (notD e) (by rw [size_push']; exact Nat.lt_succ_of_lt lt)]
  exact Heap.get?_push_of_some _ (k1 b u e)
end

/-! ### as calls of values -/
section
variable {X : Cx}
def rSetTT (K : PySem.W.Frag) (P : Program) (w : World) : List V → Hp → VK → Prop := fun xs H Q => ∃ (l : Addr) (ks : List (Addr × List Int)), xs = [V.ref l] ∧ SqT K H l (ks.map fun p => V.ref p.1) ∧ (∀ p ∈ ks, SqT K H p.1 (p.2.map V.int)) ∧ ks.length < 64 ∧
  ∀ a L, H a = none → (∀ p ∈ L, p ∈ ks) → (∀ p ∈ ks, p.2 ∈ L.map (·.2)) → L.length ≤ ks.length → Q (.ref a) (upd H a (SetTO P w a L))
theorem cr_setTT (hc : X.calm = true) (hu : X.A.units + 64 < cLine) : CallR X (.type "set") (rSetTT X.K X.prog X.w) := by
  intro pins s σ H xs us Q I r h
  obtain ⟨l, ks, rfl, hl, hk, few, q⟩ := h
  rw [Vals.ref1 r]
  obtain ⟨its, rv, ht, hz⟩ := I.tuple hl
  have fresh : H s.heap.objs.size = none := I.hok.fresh (Nat.le_refl _)
  refine set_of_tup (P := X.prog) (w := X.w) ks (I.ok.hd hc) ht (by simpa using refs_of_vals rv) (fun p hp => I.isT (hk p hp)) few (by omega) fun g tk L es ep t R got k => ?_
  exact ⟨.ref s.heap.objs.size, upd H s.heap.objs.size (SetTO X.prog X.w s.heap.objs.size L), I.laid (t' := tk) k (Nat.le_refl _) (setTO_new R.t0), rfl, q _ L fresh (fun p hp => List.mem_of_mem_take (got.sub p hp)) (fun p hp => got.all p (by rw [List.take_length]; exact hp)) got.len⟩
def rSrtST (K : PySem.W.Frag) (P : Program) (w : World) : List V → Hp → VK → Prop := fun vs H Q => ∃ (a : Addr) (L : List (Addr × List Int)), vs = [V.ref a] ∧ H a = some (SetTO P w a L) ∧ (∀ p ∈ L, SqT K H p.1 (p.2.map V.int)) ∧ ((∀ q ∈ L, q.2 ≠ []) ∨ L.length ≤ 1) ∧
  ∀ (L' : List (Addr × List Int)) (p : Addr), (∀ q ∈ L', q ∈ L) → (L'.map (·.2)).Perm (L.map (·.2)) → (L.map (·.2)).Nodup → (L'.map (·.2)).Pairwise (· ≤ ·) → H p = none → Q (.ref p) (upd H p (.lst (L'.map fun q => V.ref q.1)))
theorem cr_srtST (hc : X.calm = true) (hu : X.A.units + 64 < cLine) : CallR X (.builtin "sorted") (rSrtST X.K X.prog X.w) := by
  intro pins s σ H vs us Q I r h
  obtain ⟨a, L, rfl, ha, hk, ne, q⟩ := h
  have R0 : SetT0 X.prog X.w s.heap a L := (I.hok a _ ha).1
  obtain ⟨es, ep, t, R⟩ := R0.full fun p hp => I.isT (hk p hp)
  rw [Vals.ref1 r]
  refine sorted_setV R (I.ok.hd hc) hu ne fun s' p out c L' k g o hp hg hout hsub pm pw => ?_
  have few : L'.length < 64 := by
    have e := pm.length_eq
    rw [List.length_map, List.length_map] at e
    rw [e]
    exact R.few
  have hlen : (L'.map fun q => V.ref q.1).length ≤ sizeLine := by rw [List.length_map, sizeLine_eq]; omega
  have fresh : H p = none := I.hok.fresh hp
  have hv : Vals (L'.map fun q => V.ref q.1) out := by rw [hout]; exact vals_of_refs L'
  obtain ⟨h', g', d', t', o'⟩ := s'
  have e1 : g' = s.gens := g
  have e2 : o' = s.os := o
  subst e1; subst e2
  exact ⟨.ref p, upd H p (.lst (L'.map fun q => V.ref q.1)), I.call (ch := []) (g' := s.gens) (d' := d') (t' := t') (Un.laid k hp fresh) (I.hok.laid k hp ⟨hlen, out, c, hv, hg⟩) I.bare (fun _ z => nomatch z), rfl, q L' p hsub pm R.nd pw fresh⟩
def rSetTI (K : PySem.W.Frag) (w : World) : List V → Hp → VK → Prop := fun xs H Q => ∃ (l : Addr) (ns : List Int), xs = [V.ref l] ∧ SqT K H l (ns.map V.int) ∧ ns.length ≤ 60 ∧
  ∀ a n, H a = none → n ≤ ns.length → Q (.ref a) (upd H a (SetO w a (fun j => decide (j ∈ ns)) n))
theorem cr_setTI (hc : X.calm = true) : CallR X (.type "set") (rSetTI X.K X.w) := by
  intro pins s σ H xs us Q I r h
  obtain ⟨l, ns, rfl, hl, few, q⟩ := h
  rw [Vals.ref1 r]
  obtain ⟨its, rv, ht, hz⟩ := I.tuple hl
  refine call_set_tupI (P := X.prog) (w := X.w) ns (I.ok.hd hc) ht (by simpa using rv.ints) (by unfold scanBound; omega) fun g tk c R hcn k => ?_
  exact ⟨.ref s.heap.objs.size, upd H s.heap.objs.size (SetO X.w s.heap.objs.size (fun j => decide (j ∈ ns)) c), I.laid (t' := tk) k (Nat.le_refl _) (setO_new R), rfl, q _ c (I.hok.fresh (Nat.le_refl _)) hcn⟩
end
end Fw
/-! Faultworks, part H: sorted(set(t)) upon data; a tuple taken apart. -/
namespace Fw
open PySem PySem.Spec PyProof.Rows L2

theorem castL_inj {a b : List Nat} (h : castL a = castL b) : a = b := by
  have e : ∀ l : List Nat, (castL l).map Int.toNat = l := fun l => by
    unfold castL
    rw [List.map_map]
    conv => rhs; rw [← List.map_id l]
    exact List.map_congr_left fun k _ => Int.toNat_natCast k
  rw [← e a, h, e b]
theorem castL_asc {l : List Nat} (h : l.Pairwise (· < ·)) : (castL l).Pairwise (· < ·) :=
  List.pairwise_map.mpr (h.imp fun h => by omega)
theorem asc_one {α : Type} [LT α] (ir : ∀ a : α, ¬ a < a) (asym : ∀ a b : α, a < b → ¬ b < a) {l m : List α} (hl : l.Pairwise (· < ·)) (hm : m.Pairwise (· < ·)) (h : ∀ k, k ∈ l ↔ k ∈ m) : l = m := by
  have nn : ∀ {l : List α}, l.Pairwise (· < ·) → l.Nodup := fun {l} hl => List.Pairwise.imp (S := fun a b => a ≠ b) (fun {a b} h e => ir a (by rw [← e] at h; exact h)) hl
  have n1 := nn hl
  have n2 := nn hm
  exact List.Perm.eq_of_pairwise (le := (· < ·)) (fun a b _ _ h1 h2 => absurd h2 (asym a b h1)) hl hm ((List.perm_ext_iff_of_nodup n1 n2).mpr h)
theorem at_castL {K : PySem.W.Frag} {H : Hp} {B : Ban} {l : List Nat} {vs : List V} (h : AtAll K H B vs (inz l)) : vs = (castL l).map V.int := by
  rw [inz_cast] at h
  exact h.of_ints
/-- tuples of numbers, by their addresses -/
theorem at_keys {K : PySem.W.Frag} {H : Hp} {B : Ban} : ∀ {ls : List (List Nat)} {vs : List V}, AtAll K H B vs (ls.map nd) → ∃ ks : List (Addr × List Int), vs = ks.map (fun p => V.ref p.1) ∧ ks.map (·.2) = ls.map castL ∧ ∀ p ∈ ks, SqT K H p.1 (p.2.map V.int)
  | [], _, h => by cases h; exact ⟨[], rfl, rfl, fun p hp => by cases hp⟩
  | l :: ls, _, h => by
    cases h with
    | cons h g =>
      have h : At K H B _ (.tuple (inz l)) := h
      obtain ⟨ks, h1, h2, h3⟩ := at_keys g
      cases h with
      | @tup t xs _ hs ha =>
        have e := at_castL ha
        subst e
        refine ⟨(t, castL l) :: ks, by rw [List.map_cons, h1], by rw [List.map_cons, h2, List.map_cons], fun p hp => ?_⟩
        rcases List.mem_cons.mp hp with rfl | hp
        · exact hs
        · exact h3 p hp
theorem keys_at {K : PySem.W.Frag} {H : Hp} {B : Ban} : ∀ {L : List (Addr × List Int)} {ls : List (List Nat)}, L.map (·.2) = ls.map castL → (∀ p ∈ L, SqT K H p.1 (p.2.map V.int)) → AtAll K H B (L.map fun q => V.ref q.1) (ls.map nd)
  | [], [], _, _ => .nil
  | [], _ :: _, e, _ => by cases e
  | _ :: _, [], e, _ => by cases e
  | q :: L, l :: ls, e, h => by
    rw [List.map_cons, List.map_cons] at e
    injection e with e1 e2
    refine .cons ?_ (keys_at e2 fun p hp => h p (List.mem_cons_of_mem _ hp))
    have hs := h q List.mem_cons_self
    rw [e1] at hs
    refine At.tup hs ?_
    rw [inz_cast]
    exact .ints
section
variable {X : Cx} {a b c e : Expr} {es : List Expr} {ρ ρ1 ρ2 : DEnv} {x y z d : PyData} {ds : List PyData} {pos pos2 p p2 : Pos} {u : Bool} {k j : Nat} {n : Str}
theorem ex_srtSetI {l : List Nat} (hm : X.mg "sorted" = none) (hm2 : X.mg "set" = none) (asc : l.Pairwise (· < ·)) (few : l.length ≤ 60) (ha : EX X a ρ (nd l)) (hc : X.calm = true := by rfl) (hg : Gl X "sorted" := by rfl) (hg2 : Gl X "set" := by rfl)
    (he : starEach [a] X.env = (false, eval a X.env) :: starEach [] X.env := by rfl)
    (he2 : starEach [.Call (.Name "set" p2) [a] [] pos2] X.env = (false, eval (.Call (.Name "set" p2) [a] [] pos2) X.env) :: starEach [] X.env := by rfl) :
    EX X (.Call (.Name "sorted" p) [.Call (.Name "set" p2) [a] [] pos2] [] pos) ρ (.list (inz l)) := fun σ H B Q hE q =>
  PE.w (pe_callB (cr_sortedSet hc) hg hm (by decide +kernel) (pa_cons (pe_callTy (cr_setTI hc) hg2 hm2 (by decide +kernel) (pa_cons pe_w pa_nil he) (by decide) (by decide) he rfl) pa_nil he2) (by decide) (by decide) he2 rfl)
    (ha σ H B _ hE fun v H1 s1 a1 => by
      have a1 : At X.K H1 B v (.tuple (inz l)) := a1
      cases a1 with
      | @tup t xs _ hs ga =>
        have e := at_castL ga
        subst e
        have lc : (castL l).length = l.length := List.length_map _
        refine ⟨t, castL l, rfl, hs, by omega, fun sA n hsA hn => ⟨sA, _, n, rfl, upd_same, by omega, fun ns' D asc' mem _ hD => ?_⟩⟩
        have e : ns' = castL l := asc_one (fun a => Int.lt_irrefl a) (fun a b h => by omega) asc' (castL_asc asc) fun k => by rw [mem k, decide_eq_true_iff]
        subst e
        refine q _ _ ((s1.trans (same_new hsA)).trans (same_new hD)) (.lst upd_same (((hE.dom.mono s1).mono (same_new hsA)).no hD) ?_)
        rw [inz_cast]
        exact .ints)
theorem ex_srtSetN {ls : List (List Nat)} (hm : X.mg "sorted" = none) (hm2 : X.mg "set" = none) (hr : Room k X.A) (asc : ls.Pairwise (· < ·)) (few : ls.length < 64) (ne : (∀ l ∈ ls, l ≠ []) ∨ ls.length ≤ 1) (ha : EX X a ρ (.tuple (ls.map nd))) (hc : X.calm = true := by rfl) (hg : Gl X "sorted" := by rfl) (hg2 : Gl X "set" := by rfl)
    (he : starEach [a] X.env = (false, eval a X.env) :: starEach [] X.env := by rfl)
    (he2 : starEach [.Call (.Name "set" p2) [a] [] pos2] X.env = (false, eval (.Call (.Name "set" p2) [a] [] pos2) X.env) :: starEach [] X.env := by rfl) :
    EX X (.Call (.Name "sorted" p) [.Call (.Name "set" p2) [a] [] pos2] [] pos) ρ (.list (ls.map nd)) := fun σ H B Q hE q =>
  PE.w (pe_callB (cr_srtST hc hr.units) hg hm (by decide +kernel) (pa_cons (pe_callTy (cr_setTT hc hr.units) hg2 hm2 (by decide +kernel) (pa_cons pe_w pa_nil he) (by decide) (by decide) he rfl) pa_nil he2) (by decide) (by decide) he2 rfl)
    (ha σ H B _ hE fun v H1 s1 a1 => by
      cases a1 with
      | @tup t xs _ hs ga =>
        obtain ⟨ks, rfl, h2, h3⟩ := at_keys ga
        have lk : ks.length = ls.length := by have e := congrArg List.length h2; rwa [List.length_map, List.length_map] at e
        refine ⟨t, ks, rfl, hs, h3, by omega, fun sA L hsA sub all hlen => ?_⟩
        have hs1 : Same H1 (upd H1 sA (SetTO X.prog X.w sA L)) := same_new hsA
        refine ⟨sA, L, rfl, upd_same, fun p hp => sqt_mono hs1 (h3 p (sub p hp)), ?_, fun L' D sub' pm nd' asc' hD => ?_⟩
        · rcases ne with ne | ne
          · refine .inl fun q hq => ?_
            have : q.2 ∈ ks.map (·.2) := List.mem_map.mpr ⟨q, sub q hq, rfl⟩
            rw [h2] at this
            obtain ⟨l, hl, e⟩ := List.mem_map.mp this
            rw [← e]
            intro z
            exact ne l hl (castL_inj (b := []) z)
          · exact .inr (by omega)
        · have ascM : (ls.map castL).Pairwise (· < ·) := List.pairwise_map.mpr (asc.imp fun {a b} h => (cast_lt a b).mpr h)
          have ndL' : (L'.map (·.2)).Nodup := pm.nodup_iff.mpr nd'
          have ascL' : (L'.map (·.2)).Pairwise (· < ·) := asc'.imp₂ (fun a b h1 h2 => by
            rcases Decidable.em (a < b) with h | h
            · exact h
            · exact absurd (List.le_antisymm h1 (List.not_lt.mp h)) h2) ndL'
          have e : L'.map (·.2) = ls.map castL := asc_one (fun a => List.lt_irrefl a) (fun a b h h2 => List.lt_irrefl a (List.lt_trans h h2)) ascL' ascM fun k => by
            rw [pm.mem_iff, ← h2]
            constructor
            · intro h
              obtain ⟨p, hp, e⟩ := List.mem_map.mp h
              exact List.mem_map.mpr ⟨p, sub p hp, e⟩
            · intro h
              obtain ⟨p, hp, e⟩ := List.mem_map.mp h
              rw [← e]
              exact all p hp
          have hs2 := hs1.trans (same_new (o := .lst (L'.map fun q => V.ref q.1)) hD)
          exact q _ _ (s1.trans hs2) (.lst upd_same (((hE.dom.mono s1).mono hs1).no hD) (keys_at e fun p hp => sqt_mono hs2 (h3 p (sub p (sub' p hp)))))
      )
/-- n, m = e, a tuple of two -/
theorem sx_two (i j : Nat) {n m : Str} {px py pt : Pos} {kt} (nd : X.N.Nodup) (he : EX X e ρ (.tuple [x, y])) (hi : X.N[i]? = some n := by rfl) (hj : X.N[j]? = some m := by rfl) (hx : Loc X.env.scope n := by first | exact Or.inl rfl | exact Or.inr rfl) (hy : Loc X.env.scope m := by first | exact Or.inl rfl | exact Or.inr rfl)
    (hf : X.fn n = true ∨ X.env.scope.names.lookup n = some .local := by first | exact .inl rfl | exact .inr rfl | assumption) (hf2 : X.fn m = true ∨ X.env.scope.names.lookup m = some .local := by first | exact .inl rfl | exact .inr rfl | assumption) (hc : X.calm = true := by rfl)
    (h1 : (assignEach [.Name n px, .Name m py] X.env).map (·.2) = assign (.Name n px) X.env :: (assignEach [.Name m py] X.env).map (·.2) := by rfl) (h2 : (assignEach [.Name m py] X.env).map (·.2) = assign (.Name m py) X.env :: (assignEach [] X.env).map (·.2) := by rfl)
    (hl : (assignEach [.Name n px, .Name m py] X.env).length = 2 := by rfl) (hst : (assignEach [.Name n px, .Name m py] X.env).findIdx? (·.1) = none := by rfl)
    (hs : swapsWithSole [.Tuple [.Name n px, .Name m py] kt pt] e pos.line X.env = pure false := by rfl) (hw : swappedStores [.Tuple [.Name n px, .Name m py] kt pt] e X.env = pure none := by rfl)
    (h3 : (assignEach [.Tuple [.Name n px, .Name m py] kt pt] X.env).map (·.2) = [assign (.Tuple [.Name n px, .Name m py] kt pt) X.env] := by rfl) :
    SX X (.Assign [.Tuple [.Name n px, .Name m py] kt pt] e pos) ρ (.nx ((ρ.set i (some x)).set j (some y))) := fun σ H B D hE q =>
  PS.w (ps_asg pe_w (pg_tup hc (pgs_cons (pg_name nd hi hx hf) (pgs_cons (pg_name nd hj hy hf2) pgs_nil h2) h1) hl hst) hs hw h3) (he σ H B _ hE fun v H1 s1 a1 => by
    cases a1 with
    | @tup t xs _ hs ga =>
      cases ga with
      | cons g1 g2 =>
        cases g2 with
        | cons g2 g3 =>
          cases g3
          exact ⟨t, _, rfl, hs, rfl, _, _, rfl, _, _, rfl, rfl, q _ H1 s1 (((hE.mono s1).set i g1).set j g2)⟩)
end
end Fw
/-! Faultworks, part N: the defs upon numbers and ratios. -/
namespace Fw
open PySem PySem.Spec PyProof.Rows L2 FM
/-- a ratio as data -/
abbrev rt (q : Rat) : PyData := .tuple [.int q.num, .int (q.den : Int)]
def W4 (q : Rat) : Prop := Bd 4000 q

/-! ### Euclid's loop -/
theorem run_gcd {X : Cx} {c : Expr} {body : List Stmt} (hc : ∀ a b : Nat, TX X c [some (.int (a : Int)), some (.int (b : Int))] (!decide (b = 0)))
    (hb : ∀ a b : Nat, b ≠ 0 → BX X body [some (.int (a : Int)), some (.int (b : Int))] (.nx [some (.int (b : Int)), some (.int ((a % b : Nat) : Int))])) :
    ∀ (b a : Nat), ∃ n, WhRun X c body n [some (.int (a : Int)), some (.int (b : Int))] [some (.int ((Nat.gcd a b : Nat) : Int)), some (.int 0)] := by
  intro b
  induction b using Nat.strongRecOn with
  | ind b ih =>
    intro a
    by_cases h : b = 0
    · subst h
      refine ⟨0, ?_⟩
      have e : Nat.gcd a 0 = a := Nat.gcd_zero_right a
      rw [e]
      exact .stop ((hc a 0).is (by simp))
    · obtain ⟨n, r⟩ := ih (a % b) (Nat.mod_lt _ (by omega)) b
      refine ⟨n + 1, .step ((hc a b).is (by simp [h])) (hb a b h) ?_⟩
      have e : Nat.gcd b (a % b) = Nat.gcd a b := by rw [Nat.gcd_comm b, ← Nat.gcd_rec, Nat.gcd_comm]
      rw [e] at r
      exact r
theorem sx_gcd {X : Cx} {c : Expr} {body : List Stmt} {pos : Pos} (a b : Nat) (hc : ∀ a b : Nat, TX X c [some (.int (a : Int)), some (.int (b : Int))] (!decide (b = 0)))
    (hb : ∀ a b : Nat, b ≠ 0 → BX X body [some (.int (a : Int)), some (.int (b : Int))] (.nx [some (.int (b : Int)), some (.int ((a % b : Nat) : Int))])) (hp : PassesOwn (model X.prog X.w) X.A X.env X.xe := by exact PassesOwn.never) :
    SX X (.While c body [] pos) [some (.int (a : Int)), some (.int (b : Int))] (.nx [some (.int ((Nat.gcd a b : Nat) : Int)), some (.int 0)]) :=
  let ⟨_, r⟩ := run_gcd hc hb b a
  sx_while r hp
theorem eqv_int (i j : Int) : PyData.eqv (.int i) (.int j) = decide (i = j) := by
  rw [PyData.eqv]
  exact Bool.beq_eq_decide_eq i j
theorem shaped_int (i : Int) : SeqAt.shaped (.int i) = true := rfl
def RGcd (ds : List PyData) (d : PyData) : Prop := ∃ a b : Int, ds = [.int a, .int b] ∧ d = .int ((Int.gcd a b : Nat) : Int)

section
variable {P : Program} {w : World} {K : PySem.W.Frag} {mg : Str → Option Value} {base : Heap}
theorem c_gcd (F : Df K mg "gcd" s_gcd ["one", "other"]) (ma : mg "abs" = none) : Cl P w K mg base 1 "gcd" RGcd := by
  refine cl_mk F sc_gcd (fun ds d ⟨a, b, h, _⟩ => by rw [h]; rfl) ?_
  rintro f cdv A outer s H E hr _ _ ⟨a, b, rfl, rfl⟩
  refine bx_cons (sx_par 0 1 sc_gcd.nd (ex_abs ma (ex_var 0)) (ex_abs ma (ex_var 1))) ?_
  refine bx_cons (sx_gcd a.natAbs b.natAbs (fun a b => ?_) fun a b h => ?_) (bx_ret (sx_ret (ex_var 0)))
  · refine (tx_ne hr (shaped_int _) (shaped_int _) (ex_var 1) ex_int).is ?_
    rw [eqv_int]
    congr 1
    exact decide_eq_decide.mpr (by omega)
  · refine bx_cons (sx_par 0 1 sc_gcd.nd (ex_var 1) ?_) bx_nil
    exact (ex_mod (ex_var 0) (ex_var 1) (by omega)).is (by simp)
def RRed (ds : List PyData) (d : PyData) : Prop := ∃ (n : Int) (m : Nat), 0 < m ∧ m < 2 ^ 9000 ∧ ds = [.int n, .int (m : Int)] ∧ d = rt (mkRat n m)
theorem div_g {n : Int} {m : Nat} (h : 0 < m) (hm : m < 2 ^ 9000) (i : Int) : CDivW i ((Int.gcd n (m : Int) : Nat) : Int) :=
  wide_div (b := 9000) (by have := gcd_pos (n := n) h; omega) (by rw [Int.natAbs_natCast]; exact Nat.lt_of_le_of_lt (gcd_le h) hm) (by decide) (by decide)
theorem rt_mk {n : Int} {m : Nat} (h : 0 < m) : PyData.tuple [.int (n / ((Int.gcd n (m : Int) : Nat) : Int)), .int ((m : Int) / ((Int.gcd n (m : Int) : Nat) : Int))] = rt (mkRat n m) := by
  show _ = PyData.tuple [.int (mkRat n m).num, .int ((mkRat n m).den : Int)]
  rw [mk_num h, mk_den h, Int.natCast_ediv]
theorem c_reduced (F : Df K mg "reduced" s_reduced ["numerator", "denominator"]) (G : Cl P w K mg base 1 "gcd" RGcd) : Cl P w K mg base 2 "reduced" RRed := by
  refine cl_mk F sc_reduced (fun ds d ⟨n, m, _, _, h, _⟩ => by rw [h]; rfl) ?_
  rintro f cdv A outer s H E hr _ _ ⟨n, m, h0, hm, rfl, rfl⟩
  refine bx_cons (sx_set 2 sc_reduced.nd (ex_call G hr (ax_cons (ex_var 0) (ax_cons (ex_var 1) ax_nil)) ⟨n, _, rfl, rfl⟩)) ?_
  refine bx_cons (sx_ifF ((tx_lt (ex_var 1) ex_int).is (decide_eq_false (by omega))) bx_nil) ?_
  refine bx_ret (sx_ret ((ex_tup (ax_cons (ex_fdiv (ex_var 0) (ex_var 2) (div_g h0 hm _)) (ax_cons (ex_fdiv (ex_var 1) (ex_var 2) (div_g h0 hm _)) ax_nil))).is (rt_mk h0)))
/-! ### + - * of ratios -/
def RBin (f : Rat → Rat → Rat) (ds : List PyData) (d : PyData) : Prop := ∃ p q : Rat, W4 p ∧ W4 q ∧ ds = [rt p, rt q] ∧ d = rt (f p q)
theorem den_int (q : Rat) : ((q.den : Int)).natAbs = q.den := Int.natAbs_natCast _
theorem mw_nn {p q : Rat} (h : W4 p) (k : W4 q) : CMulW p.num q.num := wide_mul h.1 k.1 (by decide) (by decide) (by decide)
theorem mw_nd {p q : Rat} (h : W4 p) (k : W4 q) : CMulW p.num (q.den : Int) := wide_mul h.1 (by rw [den_int]; exact k.2) (by decide) (by decide) (by decide)
theorem mw_dd {p q : Rat} (h : W4 p) (k : W4 q) : CMulW (p.den : Int) (q.den : Int) := wide_mul (by rw [den_int]; exact h.2) (by rw [den_int]; exact k.2) (by decide) (by decide) (by decide)
theorem dd_pos (p q : Rat) : 0 < p.den * q.den := Nat.mul_pos p.den_pos q.den_pos
theorem dd_lt {p q : Rat} (h : W4 p) (k : W4 q) : p.den * q.den < 2 ^ 9000 := Nat.lt_of_lt_of_le (mul_lt_pow h.2 k.2) (Nat.pow_le_pow_right (by decide) (by decide))
theorem c_minus (F : Df K mg "minus" s_minus ["one", "other"]) (G : Cl P w K mg base 2 "reduced" RRed) : Cl P w K mg base 3 "minus" (RBin (· - ·)) := by
  refine cl_mk F sc_minus (fun ds d ⟨p, q, _, _, h, _⟩ => by rw [h]; rfl) ?_
  rintro f cdv A outer s H E hr _ _ ⟨p, q, hp, hq, rfl, rfl⟩
  refine bx_ret (sx_ret (ex_call G hr (ax_cons (ex_sub (ex_mul (ex_ixT (i := 0) rfl (ex_var 0) ex_int) (ex_ixT (i := 1) rfl (ex_var 1) ex_int) (mw_nd hp hq)) (ex_mul (ex_ixT (i := 0) rfl (ex_var 1) ex_int) (ex_ixT (i := 1) rfl (ex_var 0) ex_int) (mw_nd hq hp)))
    (ax_cons (ex_mul (ex_ixT (i := 1) rfl (ex_var 0) ex_int) (ex_ixT (i := 1) rfl (ex_var 1) ex_int) (mw_dd hp hq)) ax_nil)) ⟨_, p.den * q.den, dd_pos p q, dd_lt hp hq, by rw [Int.natCast_mul], by rw [← Rat.sub_def']⟩))
theorem c_times (F : Df K mg "times" s_times ["one", "other"]) (G : Cl P w K mg base 2 "reduced" RRed) : Cl P w K mg base 3 "times" (RBin (· * ·)) := by
  refine cl_mk F sc_times (fun ds d ⟨p, q, _, _, h, _⟩ => by rw [h]; rfl) ?_
  rintro f cdv A outer s H E hr _ _ ⟨p, q, hp, hq, rfl, rfl⟩
  refine bx_ret (sx_ret (ex_call G hr (ax_cons (ex_mul (ex_ixT (i := 0) rfl (ex_var 0) ex_int) (ex_ixT (i := 0) rfl (ex_var 1) ex_int) (mw_nn hp hq))
    (ax_cons (ex_mul (ex_ixT (i := 1) rfl (ex_var 0) ex_int) (ex_ixT (i := 1) rfl (ex_var 1) ex_int) (mw_dd hp hq)) ax_nil)) ⟨_, p.den * q.den, dd_pos p q, dd_lt hp hq, by rw [Int.natCast_mul], by rw [← Rat.mul_def']⟩))
def RLt (ds : List PyData) (d : PyData) : Prop := ∃ p q : Rat, W4 p ∧ W4 q ∧ ds = [rt p, rt q] ∧ d = .bool (decide (p < q))
theorem c_below (F : Df K mg "is_below" s_is_below ["one", "other"]) : Cl P w K mg base 1 "is_below" RLt := by
  refine cl_mk F sc_is_below (fun ds d ⟨p, q, _, _, h, _⟩ => by rw [h]; rfl) ?_
  rintro f cdv A outer s H E hr _ _ ⟨p, q, hp, hq, rfl, rfl⟩
  refine bx_ret (sx_ret ((ex_lt (ex_mul (ex_ixT (i := 0) rfl (ex_var 0) ex_int) (ex_ixT (i := 1) rfl (ex_var 1) ex_int) (mw_nd hp hq)) (ex_mul (ex_ixT (i := 0) rfl (ex_var 1) ex_int) (ex_ixT (i := 1) rfl (ex_var 0) ex_int) (mw_nd hq hp))).is ?_))
  congr 1
  exact decide_eq_decide.mpr (Rat.lt_iff p q).symm
/-! ### the law's own -/
theorem c_lgcd (F : Df K mg "_law_gcd" s_l_gcd ["_law_one", "_law_other"]) (ma : mg "abs" = none) (mi : mg "int" = none) : Cl P w K mg base 1 "_law_gcd" RGcd := by
  refine cl_mk F sc_l_gcd (fun ds d ⟨a, b, h, _⟩ => by rw [h]; rfl) ?_
  rintro f cdv A outer s H E hr _ _ ⟨a, b, rfl, rfl⟩
  refine bx_cons (sx_par 0 1 sc_l_gcd.nd (ex_abs ma (ex_var 0)) (ex_abs ma (ex_var 1))) ?_
  refine bx_cons (sx_gcd a.natAbs b.natAbs (fun a b => ?_) fun a b h => ?_) (bx_ret (sx_ret (ex_var 0)))
  · refine (tx_ne hr (shaped_int _) (shaped_int _) (ex_var 1) ex_int).is ?_
    rw [eqv_int]
    congr 1
    exact decide_eq_decide.mpr (by omega)
  · refine bx_cons (sx_par 0 1 sc_l_gcd.nd (ex_var 1) ?_) bx_nil
    exact (ex_mod (ex_int1 mi (ex_var 0)) (ex_var 1) (by omega)).is (by simp)
theorem c_lratio (F : Df K mg "_law_ratio" s_l_ratio ["_law_numerator", "_law_denominator"]) (G : Cl P w K mg base 1 "_law_gcd" RGcd) : Cl P w K mg base 2 "_law_ratio" RRed := by
  refine cl_mk F sc_l_ratio (fun ds d ⟨n, m, _, _, h, _⟩ => by rw [h]; rfl) ?_
  rintro f cdv A outer s H E hr _ _ ⟨n, m, h0, hm, rfl, rfl⟩
  refine bx_cons (sx_set 2 sc_l_ratio.nd (ex_call G hr (ax_cons (ex_var 0) (ax_cons (ex_var 1) ax_nil)) ⟨n, _, rfl, rfl⟩)) ?_
  refine bx_cons (sx_set 2 sc_l_ratio.nd (ex_ifF ((tx_lt (ex_var 1) ex_int).is (decide_eq_false (by omega))) (ex_var 2))) ?_
  refine bx_ret (sx_ret ((ex_tup (ax_cons (ex_fdiv (ex_var 0) (ex_var 2) (div_g h0 hm _)) (ax_cons (ex_fdiv (ex_var 1) (ex_var 2) (div_g h0 hm _)) ax_nil))).is (rt_mk h0)))
theorem c_lplus (F : Df K mg "_law_plus" s_l_plus ["_law_one", "_law_other"]) (G : Cl P w K mg base 2 "_law_ratio" RRed) : Cl P w K mg base 3 "_law_plus" (RBin (· + ·)) := by
  refine cl_mk F sc_l_plus (fun ds d ⟨p, q, _, _, h, _⟩ => by rw [h]; rfl) ?_
  rintro f cdv A outer s H E hr _ _ ⟨p, q, hp, hq, rfl, rfl⟩
  refine bx_ret (sx_ret (ex_call G hr (ax_cons (ex_add (ex_mul (ex_ixT (i := 0) rfl (ex_var 0) ex_int) (ex_ixT (i := 1) rfl (ex_var 1) ex_int) (mw_nd hp hq)) (ex_mul (ex_ixT (i := 0) rfl (ex_var 1) ex_int) (ex_ixT (i := 1) rfl (ex_var 0) ex_int) (mw_nd hq hp)))
    (ax_cons (ex_mul (ex_ixT (i := 1) rfl (ex_var 0) ex_int) (ex_ixT (i := 1) rfl (ex_var 1) ex_int) (mw_dd hp hq)) ax_nil)) ⟨_, p.den * q.den, dd_pos p q, dd_lt hp hq, by rw [Int.natCast_mul], by rw [← Rat.add_def']⟩))
theorem c_ltimes (F : Df K mg "_law_times" s_l_times ["_law_one", "_law_other"]) (G : Cl P w K mg base 2 "_law_ratio" RRed) : Cl P w K mg base 3 "_law_times" (RBin (· * ·)) := by
  refine cl_mk F sc_l_times (fun ds d ⟨p, q, _, _, h, _⟩ => by rw [h]; rfl) ?_
  rintro f cdv A outer s H E hr _ _ ⟨p, q, hp, hq, rfl, rfl⟩
  refine bx_ret (sx_ret (ex_call G hr (ax_cons (ex_mul (ex_ixT (i := 0) rfl (ex_var 0) ex_int) (ex_ixT (i := 0) rfl (ex_var 1) ex_int) (mw_nn hp hq))
    (ax_cons (ex_mul (ex_ixT (i := 1) rfl (ex_var 0) ex_int) (ex_ixT (i := 1) rfl (ex_var 1) ex_int) (mw_dd hp hq)) ax_nil)) ⟨_, p.den * q.den, dd_pos p q, dd_lt hp hq, by rw [Int.natCast_mul], by rw [← Rat.mul_def']⟩))
theorem c_lless (F : Df K mg "_law_less" s_l_less ["_law_one", "_law_other"]) : Cl P w K mg base 1 "_law_less" RLt := by
  refine cl_mk F sc_l_less (fun ds d ⟨p, q, _, _, h, _⟩ => by rw [h]; rfl) ?_
  rintro f cdv A outer s H E hr _ _ ⟨p, q, hp, hq, rfl, rfl⟩
  refine bx_ret (sx_ret ((ex_lt (ex_mul (ex_ixT (i := 0) rfl (ex_var 0) ex_int) (ex_ixT (i := 1) rfl (ex_var 1) ex_int) (mw_nd hp hq)) (ex_mul (ex_ixT (i := 0) rfl (ex_var 1) ex_int) (ex_ixT (i := 1) rfl (ex_var 0) ex_int) (mw_nd hq hp))).is ?_))
  congr 1
  exact decide_eq_decide.mpr (Rat.lt_iff p q).symm
def RTurn (ds : List PyData) (d : PyData) : Prop := ∃ q : Rat, W4 q ∧ ds = [rt q] ∧ d = rt (1 - q)
theorem c_lless_one (F : Df K mg "_law_less_one" s_l_less_one ["_law_one"]) : Cl P w K mg base 1 "_law_less_one" RTurn := by
  refine cl_mk F sc_l_less_one (fun ds d ⟨q, _, h, _⟩ => by rw [h]; rfl) ?_
  rintro f cdv A outer s H E hr _ _ ⟨q, hq, rfl, rfl⟩
  refine bx_ret (sx_ret ((ex_tup (ax_cons (ex_sub (ex_ixT (i := 1) rfl (ex_var 0) ex_int) (ex_ixT (i := 0) rfl (ex_var 0) ex_int)) (ax_cons (ex_ixT (i := 1) rfl (ex_var 0) ex_int) ax_nil))).is ?_))
  obtain ⟨e1, e2⟩ := den_sub_one q
  show _ = PyData.tuple [.int (1 - q).num, .int ((1 - q).den : Int)]
  rw [e1, e2]
theorem rt_one : PyData.tuple [.int 1, .int 1] = rt 1 := rfl
theorem rt_zero : PyData.tuple [.int 0, .int 1] = rt 0 := rfl
theorem w4_one : W4 1 := ⟨Nat.one_lt_two_pow (by decide), Nat.one_lt_two_pow (by decide)⟩
theorem w4_zero : W4 0 := ⟨Nat.two_pow_pos _, Nat.one_lt_two_pow (by decide)⟩
theorem c_turned (F : Df K mg "turned" s_turned ["value"]) (G : Cl P w K mg base 3 "minus" (RBin (· - ·))) (m1 : GlT K mg "ONE" [.int 1, .int 1]) : Cl P w K mg base 4 "turned" RTurn := by
  refine cl_mk F sc_turned (fun ds d ⟨q, _, h, _⟩ => by rw [h]; rfl) ?_
  rintro f cdv A outer s H E hr _ _ ⟨q, hq, rfl, rfl⟩
  exact bx_ret (sx_ret (ex_call G hr (ax_cons (ex_globT m1) (ax_cons (ex_var 0) ax_nil)) ⟨1, q, w4_one, hq, rfl, rfl⟩))
def RWithin (ds : List PyData) (d : PyData) : Prop := ∃ p q r : Rat, W4 p ∧ W4 q ∧ W4 r ∧ ds = [rt p, rt q, rt r] ∧ d = .bool true ∧ p ≤ q ∧ q ≤ r
theorem c_lwithin (F : Df K mg "_law_within" s_l_within ["_law_low", "_law_one", "_law_high"]) (G : Cl P w K mg base 1 "_law_less" RLt) : Cl P w K mg base 2 "_law_within" RWithin := by
  refine cl_mk F sc_l_within (fun ds d ⟨p, q, r, _, _, _, h, _⟩ => by rw [h]; rfl) ?_
  rintro f cdv A outer s H E hr _ _ ⟨p, q, r, hp, hq, hr', rfl, rfl, h1, h2⟩
  refine bx_ret (sx_ret (ex_andT ((ex_not (ex_call G hr (ax_cons (ex_var 1) (ax_cons (ex_var 0) ax_nil)) ⟨q, p, hq, hp, rfl, rfl⟩)).is ?_) (ex_one ((ex_not (ex_call G hr (ax_cons (ex_var 2) (ax_cons (ex_var 1) ax_nil)) ⟨r, q, hr', hq, rfl, rfl⟩)).is ?_))))
  · rw [decide_eq_false (Rat.not_lt.mpr h1)]; rfl
  · rw [decide_eq_false (Rat.not_lt.mpr h2)]; rfl
end
end Fw
/-! Faultworks, part I: more rules. -/
namespace Fw
open PySem PySem.Spec PyProof.Rows L2 FM
theorem filt_all {α : Type} (l : List α) : l.filter (fun _ => true) = l := List.filter_eq_self.mpr fun _ _ => rfl
section
variable {X : Cx} {a b c e : Expr} {es : List Expr} {ρ ρ1 ρ2 : DEnv} {x y z d : PyData} {ds : List PyData} {pos pos2 p p2 : Pos} {u v : Bool} {k j : Nat} {n : Str}
theorem wx_and2 (h : TX X a ρ u) (g : u = true → TX X b ρ v) : WX X (.BoolOp .And [a, b] pos) ρ (u && v) := by
  cases u with
  | true => exact wx_andT h (wx_and1 (g rfl))
  | false => exact wx_andF h
/-- a loop that stores nothing -/
theorem for_keep {i : Nat} {body : List Stmt} : ∀ {ds : List PyData} (ρ : DEnv), (∀ d ∈ ds, BX X body (ρ.set i (some d)) (.nx (ρ.set i (some d)))) → ForRun X i body ds ρ (ρ.set i none) := by
  have le0 : ∀ (ρ : DEnv) (o : Option PyData), Le (ρ.set i none) (ρ.set i o) := fun ρ o => by
    refine ⟨by rw [List.length_set, List.length_set], fun j d q => ?_⟩
    by_cases e : i = j
    · subst e
      by_cases hi : i < ρ.length
      · rw [List.getElem?_set_self hi] at q; cases q
      · rw [List.getElem?_eq_none (by rw [List.length_set]; omega)] at q; cases q
    · rw [List.getElem?_set_ne e] at q ⊢; exact q
  have main : ∀ {ds : List PyData} (ρ : DEnv), (∀ d ∈ ds, BX X body (ρ.set i (some d)) (.nx (ρ.set i (some d)))) → ∀ o, ForRun X i body ds (ρ.set i o) (ρ.set i none) := by
    intro ds
    induction ds with
    | nil => exact fun ρ _ o => le0 ρ o
    | cons d ds ih =>
      intro ρ h o
      refine ⟨ρ.set i (some d), ?_, ih ρ (fun d' hd => h d' (List.mem_cons_of_mem _ hd)) _⟩
      rw [List.set_set]
      exact h d List.mem_cons_self
  intro ds ρ h
  cases ds with
  | nil =>
    refine ⟨by rw [List.length_set], fun j d q => ?_⟩
    by_cases e : i = j
    · subst e
      by_cases hi : i < ρ.length
      · rw [List.getElem?_set_self hi] at q; cases q
      · rw [List.getElem?_eq_none (by rw [List.length_set]; omega)] at q; cases q
    · rw [List.getElem?_set_ne e] at q; exact q
  | cons d ds => exact ⟨ρ.set i (some d), h d List.mem_cons_self, main ρ (fun d' hd => h d' (List.mem_cons_of_mem _ hd)) _⟩
/-- a loop that stores one thing, reckoned from the item -/
theorem for_fold {i s : Nat} {body : List Stmt} {α β : Type} {enc : β → PyData} {st : α → PyData} {g : α → β → α} (ρ : DEnv) (a0 : α) (bs : List β)
    (h : ∀ done b rest, bs = done ++ b :: rest → ∃ ρ1, BX X body ((ρ.set s (some (st (done.foldl g a0)))).set i (some (enc b))) (.nx ρ1) ∧ Le ((ρ.set s (some (st (g (done.foldl g a0) b)))).set i none) ρ1) :
    ForRun X i body (bs.map enc) ((ρ.set s (some (st a0))).set i none) ((ρ.set s (some (st (bs.foldl g a0)))).set i none) := by
  have main : ∀ (rest done : List β) (ρ0 : DEnv), bs = done ++ rest → Le ((ρ.set s (some (st (done.foldl g a0)))).set i none) ρ0 → ForRun X i body (rest.map enc) ρ0 ((ρ.set s (some (st (bs.foldl g a0)))).set i none) := by
    intro rest
    induction rest with
    | nil =>
      intro done ρ0 e l
      rw [List.append_nil] at e
      subst e
      exact l
    | cons b rest ih =>
      intro done ρ0 e l
      obtain ⟨ρ1, hb, l1⟩ := h done b rest e
      refine ⟨ρ1, hb.le ?_, ih (done ++ [b]) ρ1 (by rw [e, List.append_assoc]; rfl) (by rw [List.foldl_append]; exact l1)⟩
      have hl := l.1
      simp only [List.length_set] at hl
      refine ⟨by simp only [List.length_set]; exact hl, fun j d q => ?_⟩
      by_cases ej : i = j
      · subst ej
        by_cases hi : i < ρ0.length
        · rw [List.getElem?_set_self hi]
          rw [List.getElem?_set_self (by rw [List.length_set]; omega)] at q
          exact q
        · rw [List.getElem?_eq_none (by simp only [List.length_set]; omega)] at q; cases q
      · rw [List.getElem?_set_ne ej] at q ⊢
        refine l.2 j d ?_
        rw [List.getElem?_set_ne ej]
        exact q
  exact main bs [] _ rfl (Le.refl _)
theorem sx_setLc (i s : Nat) {y nm : Str} {py : Pos} {tg elt : Expr} {ifs : List Expr} {scope : Scope} {spos : Pos} {β : Type} {enc : β → PyData} {ls : List β} {q : β → Bool} {f : β → PyData} (nd : X.N.Nodup) (hi : IX X tg e ρ (ls.map enc)) (hz : ls.length ≤ 100000)
    (ok : BlkOk X.N X.env.scope scope [(nm, i)]) (hsw : swapsWith (.ListComp elt [⟨tg, e, ifs, 0⟩] scope pos) (some (.Name y py)) spos.line X.env = pure true) (hyl : X.env.scope.names.lookup y = some .local)
    (hg : ∀ (s : Shared) (H : Hp) (C : Addr) (cl : List (Str × Addr)) (fp : List Addr), PG (X.blk s H scope (compEnvC scope cl C X.env) fp) tg (gName i))
    (ht : ∀ d ∈ ls, ∀ (s : Shared) (H : Hp) (C : Addr) (cl : List (Str × Addr)) (fp : List Addr), IfX (X.blk s H scope (compEnvC scope cl C X.env) fp) ifs (ρ.set i (some (enc d))) (q d))
    (he : ∀ d ∈ ls, q d = true → ∀ (s : Shared) (H : Hp) (C : Addr) (cl : List (Str × Addr)) (fp : List Addr), EX (X.blk s H scope (compEnvC scope cl C X.env) fp) elt (ρ.set i (some (enc d))) (f d))
    (hy : X.N[s]? = some y := by rfl) (hc : X.calm = true := by rfl) (hs : ∀ x, foldedSetIterable e X.env x = pure x := by intro _; rfl) :
    SX X (.Assign [.Name y py] (.ListComp elt [⟨tg, e, ifs, 0⟩] scope pos) spos) ρ (.nx (ρ.set s (some (.list ((ls.filter q).map f))))) := fun σ H B D hE qq => by
  obtain ⟨wi, pi, hi⟩ := hi
  exact PS.w (ps_setLc (i := s) (own := [(nm, i)]) (tt := fun σ H Q => ∀ (s : Shared) (H' : Hp) (C : Addr) (cl : List (Str × Addr)) (fp : List Addr), wIfs (X.blk s H' scope (compEnvC scope cl C X.env) fp) ifs σ H Q)
    (te := fun σ H Q => ∀ (s : Shared) (H' : Hp) (C : Addr) (cl : List (Str × Addr)) (fp : List Addr), wE (X.blk s H' scope (compEnvC scope cl C X.env) fp) elt σ H Q) hc nd hy hyl hsw pi ok hg
    (fun s H C cl fp => ⟨fun pins s' σ H' Q I h => h s H C cl fp pins s' I⟩) (fun s H C cl fp => ⟨fun pins s' σ H' Q I h => h s H C cl fp pins s' I⟩) hs)
    (lc_read (n := nm) hi hz ht he σ H B _ hE fun v H1 s1 a1 => qq _ H1 s1 ((hE.mono s1).set s a1))
end
section
variable {P : Program} {w : World} {K : PySem.W.Frag} {mg : Str → Option Value} {base : Heap}
/-- a def that hands back None -/
theorem cl_mk0 {n : Str} {st : Stmt} {N ps : List Str} {k : Nat} {R : List PyData → PyData → Prop} (F : Df K mg n st ps) (S : FnScope N ps (defScope st)) (hl : ∀ ds d, R ds d → ds.length = ps.length)
    (body : ∀ (f : Addr) (cdv : Value) (A : Around) (outer : List PySem.Env) (s : Shared) (H : Hp) (E : XK), Room k (A.deeper (envOfC n (defScope st) s.heap.objs.size f cdv)) → ∀ ds d, R ds d →
      d = .none ∧ ∃ ρ, BX (cxOf CX0 P w K mg base N n (defScope st) f cdv A outer s H E).nox (defBody st) (startD N ds) (.nx ρ)) : Cl P w K mg base (k + 1) n R := by
  obtain ⟨f, fd, F, hm, b⟩ := F.ex
  refine ⟨f, fd, ps, F.ok S (fun vs H Q E h => ?_) (fun cdv A outer s H vs Q E hr h => ?_), hm, F.kp, b⟩
  · obtain ⟨B, ds, d, _, ha, hR, _⟩ := h
    rw [ha.len, hl ds d hR]
  · obtain ⟨B, ds, d, hd, ha, hR, q⟩ := h
    obtain ⟨rfl, ρ, hb⟩ := body f cdv A outer s H E hr ds d hR
    exact ⟨_, pss_w, hb _ H B _ (env_start hd ha) fun σ' H' s1 e1 => q .non H' s1 .non⟩
theorem Cl.imp {k : Nat} {n : Str} {R R' : List PyData → PyData → Prop} (c : Cl P w K mg base k n R) (h : ∀ ds d, R' ds d → R ds d) : Cl P w K mg base k n R' := by
  obtain ⟨f, fd, ps, F, r⟩ := c.ex
  exact ⟨f, fd, ps, F.imp fun vs H Q E ⟨B, ds, d, h1, h2, h3, h4⟩ => ⟨B, ds, d, h1, h2, h _ _ h3, h4⟩, r⟩
end
end Fw
/-! Faultworks, part P: the program's defs upon systems. -/
namespace Fw
open PySem PySem.Spec PyProof.Rows L2 FM
abbrev iE : Nat → PyData := fun (k : Nat) => PyData.int (k : Int)
section
variable {P : Program} {w : World} {K : PySem.W.Frag} {mg : Str → Option Value} {base : Heap}
def RMask (ds : List PyData) (d : PyData) : Prop := ∃ l : List Nat, (∀ k ∈ l, k ≤ 1000) ∧ l.length ≤ 1000 ∧ ds = [nd l] ∧ d = .int ((mask l : Nat) : Int)
theorem sum_cast : ∀ l : List Nat, (l.map fun (k : Nat) => ((2 ^ k : Nat) : Int)).sum = ((mask l : Nat) : Int)
  | [] => rfl
  | a :: l => by
    rw [List.map_cons, List.sum_cons, sum_cast l]
    show _ = ((2 ^ a + mask l : Nat) : Int)
    rw [Int.natCast_add]
theorem c_mask_of (F : Df K mg "mask_of" s_mask_of ["parts"]) (ms : mg "sum" = none) : Cl P w K mg base 1 "mask_of" RMask := by
  refine cl_mk F sc_mask_of (fun ds d ⟨l, _, _, h, _⟩ => by rw [h]; rfl) ?_
  rintro f cdv A outer s H E hr _ _ ⟨l, hl, hz, rfl, rfl⟩
  refine bx_ret (sx_ret ((ex_sum (ns := l.map fun (k : Nat) => ((2 ^ k : Nat) : Int)) ms ((ex_lc 1 (n := "k") (enc := iE) (ls := l) (p := fun _ => true) (f := fun k => .int ((2 ^ k : Nat) : Int)) sc_mask_of.nd (ix_tup (ex_var 0)) (by omega) (blkOk_by (by kernel_rfl))
    (fun _ _ _ _ _ => pg_name (i := 1) sc_mask_of.nd rfl (Or.inl rfl)) (fun _ _ _ _ _ _ _ => ifx_nil) (fun k hk _ _ _ _ _ _ => ex_shl1 ex_int (ex_var 1) (hl k hk))).is ?_)).is (by rw [sum_cast])))
  rw [filt_all, List.map_map]
  rfl
def RParts (ds : List PyData) (d : PyData) : Prop := ∃ m : Nat, ds = [.int (m : Int)] ∧ d = nd (bits 8 m)
theorem bit_test (m k : Nat) : (((m >>> k &&& 1 : Nat) : Int) = 1) ↔ m.testBit k = true := by
  rw [Nat.testBit_eq_decide_div_mod_eq, decide_eq_true_iff, Nat.and_one_is_mod, Nat.shiftRight_eq_div_pow]
  omega
theorem c_parts_of (F : Df K mg "parts_of" s_parts_of ["mask"]) (mt : mg "tuple" = none) (mr : mg "range" = none) (m8 : ∃ t, mg "MOST_PARTS" = some (.int 8 t)) : Cl P w K mg base 1 "parts_of" RParts := by
  refine cl_mk F sc_parts_of (fun ds d ⟨m, h, _⟩ => by rw [h]; rfl) ?_
  rintro f cdv A outer s H E hr _ _ ⟨m, rfl, rfl⟩
  refine bx_ret (sx_ret ((ex_tupL mt (ex_lc 1 (n := "k") (enc := iE) (ls := List.range 8) (p := fun k => m.testBit k) (f := iE) sc_parts_of.nd (ix_range (n := 8) mr (ex_globI m8) (by decide)) (by decide) (blkOk_by (by kernel_rfl))
    (fun _ _ _ _ _ => pg_name (i := 1) sc_parts_of.nd rfl (Or.inl rfl)) (fun k hk _ _ _ _ _ => ifx_one ((tx_eq hr (shaped_int _) (shaped_int _) (ex_band (k := 1) (ex_shr (ex_var 0) (ex_var 1)) ex_int) ex_int).is ?_)) (fun k hk _ _ _ _ _ _ => ex_var 1))).is rfl))
  rw [eqv_int]
  by_cases h : m.testBit k = true
  · rw [h]; exact decide_eq_true ((bit_test m k).mpr h)
  · rw [Bool.not_eq_true] at h
    rw [h]
    exact decide_eq_false fun z => by rw [(bit_test m k).mp z] at h; cases h
def RLeast (ds : List PyData) (d : PyData) : Prop := ∃ ms : List Nat, ms.length ≤ 1000 ∧ ds = [.list (inz ms)] ∧ d = .list (inz (least ms))
theorem cast_eq (a b : Nat) : decide ((a : Int) = (b : Int)) = decide (a = b) := decide_eq_decide.mpr (by omega)
theorem c_least_of (F : Df K mg "least_of" s_least_of ["masks"]) : Cl P w K mg base 1 "least_of" RLeast := by
  refine cl_mk F sc_least_of (fun ds d ⟨m, _, h, _⟩ => by rw [h]; rfl) ?_
  rintro f cdv A outer s H E hr _ _ ⟨ms, hz, rfl, rfl⟩
  refine bx_ret (sx_ret ((ex_lc 1 (n := "a") (enc := iE) (ls := ms) (p := fun a => (ms.filter fun b => !decide (a = b) && decide (a &&& b = b)).isEmpty) (f := iE) sc_least_of.nd (ix_list (ex_var 0)) (by omega) (blkOk_by (by kernel_rfl))
    (fun _ _ _ _ _ => pg_name (i := 1) sc_least_of.nd rfl (Or.inr rfl)) (fun a ha _ _ _ _ _ => ifx_one ((tx_eq hr ((sh_list (n := 0) ?_).ok (by decide)) ((sh_list (n := 0) (fun _ h => by cases h)).ok (by decide))
      (ex_lc 2 (n := "b") (enc := iE) (ls := ms) (p := fun b => !decide (a = b) && decide (a &&& b = b)) (f := iE) sc_least_of.nd (ix_list (ex_var 0)) (by omega) (blkOk_by (by kernel_rfl))
        (fun _ _ _ _ _ => pg_name (i := 2) sc_least_of.nd rfl (Or.inl rfl)) (fun b hb _ _ _ _ _ => ifx_one (tx_w (wx_and2 ((tx_ne hr (shaped_int _) (shaped_int _) (ex_var 1) (ex_var 2)).is (by rw [eqv_int, cast_eq])) fun _ =>
          (tx_eq hr (shaped_int _) (shaped_int _) (ex_band (ex_var 1) (ex_var 2)) (ex_var 2)).is (by rw [eqv_int, cast_eq])))) (fun b hb _ _ _ _ _ _ => ex_var 2)) (ex_lst ax_nil)).is ?_)) (fun a ha _ _ _ _ _ _ => ex_var 1)).is rfl))
  · intro d hd
    obtain ⟨k, _, rfl⟩ := List.mem_map.mp hd
    exact sh_int _
  · rw [eqv_nil]
    generalize ms.filter (fun b => !decide (a = b) && decide (a &&& b = b)) = l
    cases l <;> rfl
end
end Fw
/-! Faultworks, part Q: what is a system, what are chances. -/
namespace Fw
open PySem PySem.Spec PyProof.Rows L2 FM
/-- a system, chances as data -/
abbrev sysD (n : Nat) (ls : List (List Nat)) : PyData := .tuple [.int (n : Int), .tuple (ls.map nd)]
abbrev chD (ps : List Rat) : PyData := .tuple (ps.map rt)
structure Bi (mg : Str → Option Value) : Prop where
  isi : mg "isinstance" = none
  tup : mg "tuple" = none
  lst : mg "list" = none
  int : mg "int" = none
  bol : mg "bool" = none
  str : mg "str" = none
  len : mg "len" = none
  srt : mg "sorted" = none
  set : mg "set" = none
  sum : mg "sum" = none
  rng : mg "range" = none
  abs : mg "abs" = none
section
variable {X : Cx} {a b c e : Expr} {ρ : DEnv} {d : PyData} {pos p q2 : Pos} {u : Bool}
theorem kit_tt : kitB "tuple" "tuple" = some true := by decide +kernel
theorem kit_ii : kitB "int" "int" = some true := by decide +kernel
theorem kit_ib : kitB "int" "bool" = some false := by decide +kernel
theorem kit_tl : kitB "tuple" "list" = some false := by decide +kernel
theorem kit_it : kitB "int" "tuple" = some false := by decide +kernel
theorem kit_il : kitB "int" "list" = some false := by decide +kernel
theorem kit_is : kitB "int" "str" = some false := by decide +kernel
theorem kTT {ds : List PyData} : kitB (tyName (.tuple ds)) "tuple" = some true := kit_tt
theorem kTL {ds : List PyData} : kitB (tyName (.tuple ds)) "list" = some false := kit_tl
theorem kII {i : Int} : kitB (tyName (.int i)) "int" = some true := kit_ii
theorem kIB {i : Int} : kitB (tyName (.int i)) "bool" = some false := kit_ib
theorem kIT {i : Int} : kitB (tyName (.int i)) "tuple" = some false := kit_it
theorem kIL {i : Int} : kitB (tyName (.int i)) "list" = some false := kit_il
theorem kIS {i : Int} : kitB (tyName (.int i)) "str" = some false := kit_is
end
section
variable {P : Program} {w : World} {K : PySem.W.Frag} {mg : Str → Option Value} {base : Heap}
def RIn (ds : List PyData) (d : PyData) : Prop := ∃ i lo hi : Int, lo ≤ i ∧ i ≤ hi ∧ ds = [.int i, .int lo, .int hi] ∧ d = .bool true
theorem c_is_in (F : Df K mg "is_in" s_is_in ["value", "least", "most"]) (M : Bi mg) : Cl P w K mg base 1 "is_in" RIn := by
  refine cl_mk F sc_is_in (fun ds d ⟨_, _, _, _, _, h, _⟩ => by rw [h]; rfl) ?_
  rintro f cdv A outer s H E hr _ _ ⟨i, lo, hi, h1, h2, rfl, rfl⟩
  exact bx_ret (sx_ret (ex_andT (ex_isi M.isi M.int boot_int kII (ex_var 0)) (ex_andT (ex_not (ex_isi M.isi M.bol boot_bool kIB (ex_var 0))) (ex_one ((ex_le2 h1 (ex_var 1) (ex_var 0) (ex_var 2)).is (by rw [decide_eq_true h2]))))))
def RRatio (ds : List PyData) (d : PyData) : Prop := ∃ q : Rat, ds = [rt q] ∧ d = .bool true
theorem sx_pass {X : Cx} {c : Expr} {p q : List Stmt} {ρ : DEnv} {pos : Pos} (h : TX X c ρ false) (hq : q = [] := by rfl) : SX X (.If c p q pos) ρ (.nx ρ) := by
  subst hq
  exact sx_ifF h bx_nil
theorem c_is_ratio (F : Df K mg "is_ratio" s_is_ratio ["value"]) (M : Bi mg) (G : Cl P w K mg base 1 "gcd" RGcd) : Cl P w K mg base 2 "is_ratio" RRatio := by
  refine cl_mk F sc_is_ratio (fun ds d ⟨_, h, _⟩ => by rw [h]; rfl) ?_
  rintro f cdv A outer s H E hr _ _ ⟨q, rfl, rfl⟩
  refine bx_cons (sx_pass (tx_w (wx_orF ((tx_not (tx_val (ex_isi M.isi M.tup boot_tuple kTT (ex_var 0)))).is rfl) (wx_or1 ((tx_ne hr (shaped_int _) (shaped_int _) (ex_lenT M.len (ex_var 0)) ex_int).is (by rw [eqv_int]; rfl)))))) ?_
  refine bx_cons (sx_for 1 (ix_tup (ex_var 0)) (for_keep _ fun d hd => ?_) (pg_name (i := 1) sc_is_ratio.nd rfl (Or.inl rfl))) ?_
  · have hd2 : ∃ i : Int, d = .int i := by
      rcases List.mem_cons.mp hd with h | h
      · exact ⟨_, h⟩
      · exact ⟨_, List.mem_singleton.mp h⟩
    obtain ⟨i, rfl⟩ := hd2
    exact bx_cons (sx_pass (tx_w (wx_orF ((tx_not (tx_val (ex_isi M.isi M.int boot_int kII (ex_var 1)))).is rfl) (wx_or1 (tx_val (ex_isi M.isi M.bol boot_bool kIB (ex_var 1))))))) bx_nil
  · refine bx_ret (sx_ret (ex_andT ((ex_gt (ex_ixT (i := 1) rfl (ex_var 0) ex_int) ex_int).is ?_) (ex_one ((ex_eq hr (shaped_int _) (shaped_int _) (ex_call G hr (ax_cons (ex_ixT (i := 0) rfl (ex_var 0) ex_int) (ax_cons (ex_ixT (i := 1) rfl (ex_var 0) ex_int) ax_nil)) ⟨_, _, rfl, rfl⟩) ex_int).is ?_))))
    · rw [decide_eq_true (by have := q.den_pos; omega)]
    · rw [eqv_int, gcd_rat]
      rfl
def RChance (ds : List PyData) (d : PyData) : Prop := ∃ q : Rat, 0 ≤ q ∧ q ≤ 1 ∧ ds = [rt q] ∧ d = .bool true
theorem c_is_chance (F : Df K mg "is_chance" s_is_chance ["value"]) (G : Cl P w K mg base 2 "is_ratio" RRatio) : Cl P w K mg base 3 "is_chance" RChance := by
  refine cl_mk F sc_is_chance (fun ds d ⟨_, _, _, h, _⟩ => by rw [h]; rfl) ?_
  rintro f cdv A outer s H E hr _ _ ⟨q, h0, h1, rfl, rfl⟩
  obtain ⟨n0, n1⟩ := rat01 h0 h1
  refine bx_ret (sx_ret (ex_andT (ex_call G hr (ax_cons (ex_var 0) ax_nil) ⟨q, rfl, rfl⟩) (ex_one ((ex_le2 n0 ex_int (ex_ixT (i := 0) rfl (ex_var 0) ex_int) (ex_ixT (i := 1) rfl (ex_var 0) ex_int)).is (by rw [decide_eq_true n1])))))
def RSets (ds : List PyData) (d : PyData) : Prop := ∃ (n : Nat) (ls : List (List Nat)), SysOk n ls ∧ ds = [.tuple (ls.map nd), .int (n : Int)] ∧ d = .bool true
theorem tx_neNil {X : Cx} {a b : Expr} {ρ : DEnv} {pos : Pos} {k : Nat} {ds : List PyData} (hr : Room k X.A) (hs : SeqAt.shaped (.list ds) = true) (ha : EX X a ρ (.list ds)) (hb : EX X b ρ (.list [])) : TX X (.Compare a [.NotEq] [b] pos) ρ (!ds.isEmpty) :=
  (tx_ne hr hs ((sh_list (n := 0) (fun _ h => by cases h)).ok (by decide)) ha hb).is (by rw [eqv_nil])
theorem ex_eqNil {X : Cx} {a b : Expr} {ρ : DEnv} {pos : Pos} {k : Nat} {ds : List PyData} (hr : Room k X.A) (hs : SeqAt.shaped (.list ds) = true) (ha : EX X a ρ (.list ds)) (hb : EX X b ρ (.list [])) : EX X (.Compare a [.Eq] [b] pos) ρ (.bool ds.isEmpty) :=
  (ex_eq hr hs ((sh_list (n := 0) (fun _ h => by cases h)).ok (by decide)) ha hb).is (by rw [eqv_nil])
theorem tx_eqNil {X : Cx} {a b : Expr} {ρ : DEnv} {pos : Pos} {k : Nat} {ds : List PyData} (hr : Room k X.A) (hs : SeqAt.shaped (.list ds) = true) (ha : EX X a ρ (.list ds)) (hb : EX X b ρ (.list [])) : TX X (.Compare a [.Eq] [b] pos) ρ ds.isEmpty :=
  (tx_eq hr hs ((sh_list (n := 0) (fun _ h => by cases h)).ok (by decide)) ha hb).is (by rw [eqv_nil])
theorem sh_map {β : Type} {n : Nat} {l : List β} {f : β → PyData} (h : ∀ b ∈ l, Sh n (f b)) (hn : n + 1 ≤ 64 := by decide) : SeqAt.shaped (.list (l.map f)) = true :=
  (sh_list fun d hd => by obtain ⟨b, hb, rfl⟩ := List.mem_map.mp hd; exact h b hb).ok hn
theorem c_are_sets (F : Df K mg "are_sets" s_are_sets ["value", "many"]) (M : Bi mg) (GI : Cl P w K mg base 1 "is_in" RIn) (GM : Cl P w K mg base 1 "mask_of" RMask) : Cl P w K mg base 2 "are_sets" RSets := by
  refine cl_mk F sc_are_sets (fun ds d ⟨_, _, _, h, _⟩ => by rw [h]; rfl) ?_
  rintro f cdv A outer s H E hr _ _ ⟨n, ls, S, rfl, rfl⟩
  refine bx_cons (sx_pass ((tx_not (tx_val (ex_isi M.isi M.tup boot_tuple kTT (ex_var 0)))).is rfl)) ?_
  refine bx_cons (sx_for 2 (ix_tup (ex_var 0)) (for_keep _ fun d hd => ?_) (pg_name (i := 2) sc_are_sets.nd rfl (Or.inl rfl))) ?_
  · obtain ⟨l, hl, rfl⟩ := List.mem_map.mp hd
    have hlen := S.len l hl
    refine bx_cons (sx_pass (tx_w (wx_orF ((tx_not (tx_val (ex_isi M.isi M.tup boot_tuple kTT (ex_var 2)))).is rfl) (wx_or1 ((tx_neNil hr (sh_map (n := 0) fun _ _ => sh_int _)
      (ex_lc 5 (n := "k") (enc := iE) (ls := l) (p := fun _ => false) (f := iE) sc_are_sets.nd (ix_tup (ex_var 2)) (by omega) (blkOk_by (by kernel_rfl)) (fun _ _ _ _ _ => pg_name (i := 5) sc_are_sets.nd rfl (Or.inl rfl))
        (fun k hk _ _ _ _ _ => ifx_one ((tx_not (u := true) (tx_val (ex_call (R := RIn) GI hr (ax_cons (ex_var 5) (ax_cons ex_int (ax_cons (ex_sub (ex_var 1) ex_int) ax_nil))) ⟨_, _, _, by omega, by have := S.lt l hl k hk; omega, rfl, rfl⟩))).is rfl)) (fun k hk _ _ _ _ _ _ => ex_var 5)) (ex_lst ax_nil)).is ?_))))) ?_
    · rw [List.filter_eq_nil_iff.mpr fun _ _ => Bool.false_ne_true]
      rfl
    · refine bx_cons (sx_pass ((tx_ne hr (sh_map (n := 0) fun _ _ => sh_int _) (sh_map (n := 0) fun _ _ => sh_int _) (ex_lstT M.lst (ex_var 2)) (ex_srtSetI M.srt M.set (S.asc l hl) (by omega) (ex_var 2))).is ?_)) bx_nil
      show (!PyData.eqv (.list (inz l)) (.list (inz l))) = false
      rw [eqv_listI, decide_eq_true rfl]
      rfl
  refine bx_cons (sx_pass ((tx_ne hr (sh_map (n := 1) fun l _ => sh_nd l) (sh_map (n := 1) fun l _ => sh_nd l) (ex_lstT M.lst (ex_var 0)) (ex_srtSetN M.srt M.set hr S.srt (by have := S.few; omega) S.ne (ex_var 0))).is ?_)) ?_
  · rw [PyData.eqv, eqvAll_nds, decide_eq_true rfl]
    rfl
  refine bx_cons (sx_set 3 sc_are_sets.nd (ex_lc 2 (n := "one") (enc := nd) (ls := ls) (p := fun _ => true) (f := fun l => iE (mask l)) sc_are_sets.nd (ix_tup (ex_var 0)) (by have := S.few; omega) (blkOk_by (by kernel_rfl)) (fun _ _ _ _ _ => pg_name (i := 2) sc_are_sets.nd rfl (Or.inl rfl))
    (fun l hl _ _ _ _ _ => ifx_nil) (fun l hl _ _ _ _ _ _ => ex_call GM hr (ax_cons (ex_var 2) ax_nil) ⟨l, fun k hk => by have := S.lt l hl k hk; have := S.n8; omega, by have := S.len l hl; omega, rfl, rfl⟩))) ?_
  refine bx_ret (sx_ret ((ex_eqNil hr (sh_map (n := 0) fun _ _ => sh_int _) (ex_lc 4 (n := "a") (enc := iE) (ls := ls.map mask) (p := fun _ => false) (f := iE) sc_are_sets.nd (ix_list ((ex_var 3).is ?_)) (by rw [List.length_map]; have := S.few; omega) (blkOk_by (by kernel_rfl)) (fun _ _ _ _ _ => pg_name (i := 4) sc_are_sets.nd rfl (Or.inr rfl))
    (fun a ha _ _ _ _ _ => ifx_one ((tx_neNil hr (sh_map (n := 0) fun _ _ => sh_int _) (ex_lc 6 (n := "b") (enc := iE) (ls := ls.map mask) (p := fun b => !decide (a = b) && decide (a &&& b = a)) (f := iE) sc_are_sets.nd (ix_list ((ex_var 3).is ?_)) (by rw [List.length_map]; have := S.few; omega) (blkOk_by (by kernel_rfl)) (fun _ _ _ _ _ => pg_name (i := 6) sc_are_sets.nd rfl (Or.inl rfl))
      (fun b hb _ _ _ _ _ => ifx_one (tx_w (wx_and2 ((tx_ne hr (shaped_int _) (shaped_int _) (ex_var 4) (ex_var 6)).is (by rw [eqv_int, cast_eq])) fun _ =>
          (tx_eq hr (shaped_int _) (shaped_int _) (ex_band (ex_var 4) (ex_var 6)) (ex_var 4)).is (by rw [eqv_int, cast_eq])))) (fun b hb _ _ _ _ _ _ => ex_var 6)) (ex_lst ax_nil)).is ?_)) (fun a ha _ _ _ _ _ _ => ex_var 4)) (ex_lst ax_nil)).is ?_))
  · rw [filt_all, List.map_map]; rfl
  · rw [filt_all, List.map_map]; rfl
  · rw [S.masks a ha]; rfl
  · rw [List.filter_eq_nil_iff.mpr fun _ _ => Bool.false_ne_true]
    rfl
end
end Fw
/-! Faultworks, part K: sorted(d.keys()); a dict that is filled. -/
namespace Fw
open PySem PySem.Spec PyProof.Rows L2 PySem.W
/-- the view that d.keys() gives -/
def ViewO (p d : Addr) : HO := .ext fun h => KdlKeysView h p d
section
variable {X : Cx}
def rKeys : V → List V → Hp → VK → Prop := fun x xs H Q => ∃ (d : Addr) (kvs : List (Key × V)), x = .ref d ∧ xs = [] ∧ H d = some (.dK kvs) ∧ ∀ p, H p = none → Q (.ref p) (upd H p (ViewO p d))
theorem mt_keys : MtR X "dict.keys" rKeys := by
  intro pins s σ H x xs v us Q I rx rxs h
  obtain ⟨d, kvs, rfl, rfl, hd, q⟩ := h
  cases rx
  cases rxs
  obtain ⟨_, lo, vs, _, D⟩ := dk_of I.hok hd
  refine call_meetsIn PySem.F.slot_dict_keys D.typeIs PySem.F.entry_dict_keys (PySem.F.args_dict_keys_1 _) (kdl_meets_keys (mixKind X.prog X.w) d lo) ⟨⟨vs, D⟩, ?_⟩
  have at1 := Heap.get?_push_size s.heap (o := { cls := .type "dict_keys", data := .fields #[.ref d] }) rfl
  refine ⟨.ref s.heap.objs.size, upd H s.heap.objs.size (ViewO s.heap.objs.size d), I.laid (t' := s.toks) (fun b u e => Heap.get?_push_of_some _ e) (Nat.le_refl _) ?_, rfl, q _ (I.hok.fresh (Nat.le_refl _))⟩
  exact ⟨⟨_, at1, rfl, rfl⟩, ⟨_, at1⟩, fun h1 h2 ⟨o, ho, r⟩ k => ⟨o, k o ho, r⟩⟩
def rSrtKeys : List V → Hp → VK → Prop := fun xs H Q => ∃ (p d : Addr) (kvs : List (Key × V)) (ks : List Int), xs = [.ref p] ∧ H p = some (ViewO p d) ∧ H d = some (.dK kvs) ∧ kvs.map (·.1) = ks.map Sum.inl ∧ ks.length < 64 ∧
  ∀ (ys : List Int) (q : Addr), ys.Perm ks → ys.Pairwise (· ≤ ·) → H q = none → Q (.ref q) (upd H q (.lst (ys.map V.int)))
theorem cr_srtKeys (calm : X.calm = true) : CallR X (.builtin "sorted") rSrtKeys := by
  intro pins s σ H xs us Q I r h
  obtain ⟨p, d, kvs, ks, rfl, hp, hd, hk, few, q⟩ := h
  rw [Vals.ref1 r]
  have view : KdlKeysView s.heap p d := (I.hok p _ hp).1
  obtain ⟨_, lo, vs, rel, D⟩ := dk_of I.hok hd
  obtain ⟨ep, dat⟩ := D.dictAt
  have ek : vs.map (·.1) = ks.map Sum.inl := rel.keys.symm.trans hk
  have el : vs.length = ks.length := by have e := congrArg List.length ek; rwa [List.length_map, List.length_map] at e
  refine Calls.call_function_entry kind_sorted plain_sorted entry_sorted (args_sorted1 _) ?_
  unfold Builtin.«sorted»
  refine wpAny_bind (m := checkCount "sorted" 1 1 _) (wpAny_pure (wpAny_bind (kdu_collect (A := X.A.in1) (kdl_keys (knd := mixKind X.prog X.w) (r := p) (d := d) (kvs := vs) (ep := ep)) (I.ok.hd calm) ⟨view, dat⟩ (by rw [el, sizeLine_eq]; omega) fun g tk acc kp got => ?_)))
  have al : acc.toList.length = ks.length := by rw [Array.length_toList, got.1, el]
  have ia : IntsAre acc.toList ks := ints_each al fun j v e => by
    obtain ⟨k, x, e1, e2⟩ := got.2 j v (by rw [← Array.getElem?_toList]; exact e)
    have e3 : (ks.map (Sum.inl : Int → Key))[j]? = some k := by rw [← ek, List.getElem?_map, e1]; rfl
    rw [List.getElem?_map] at e3
    obtain ⟨y, e4, rfl⟩ := Option.map_eq_some_iff.mp e3
    rcases keyIs_shape (show keyIs (Sum.inl y) v = true from e2) with ⟨i, t, z, ev⟩ | ⟨_, _, z, _⟩
    · cases z; exact ⟨y, t, e4, ev⟩
    · cases z
  have I1 : Inv X pins σ H { s with heap := g, toks := tk } := I.kept kp
  refine wpAny_bind (wpAny_newList ?_ (by rw [al, sizeLine_eq]; omega))
  have atL : (g.push (seqObj "list" acc.toList.toArray 0)).get? g.objs.size = some (seqObj "list" acc.toList.toArray 0) := Heap.get?_push_size _ rfl
  refine wpAny_bind (wpAny_holding (wpAny_call_entry slot_list_sort ⟨_, atL, rfl⟩ entry_list_sort (list_sort_tree (s := { s with heap := g.push (seqObj "list" acc.toList.toArray 0), toks := tk }) atL ia (by omega) fun out ys g1 g2 g3 => ⟨_, rfl, ?_⟩) (args_list_sort _)))
  obtain ⟨c, hc⟩ := sortedHeap_at (vs := acc.toList) (out := out) atL
  have lenY : (ys.map V.int).length ≤ sizeLine := by rw [List.length_map, g2.length_eq, sizeLine_eq]; omega
  refine wpAny_pure ⟨_, rfl, .ref g.objs.size, upd H g.objs.size (.lst (ys.map V.int)), I1.laid (t' := tk) (fun b u e => ?_) (Nat.le_refl _) (show ObjOk X.prog X.w _ _ _ (.lst (ys.map V.int)) from ⟨lenY, out.toList, c, vals_of_ints g1, by rw [Array.toArray_toList]; exact hc⟩), rfl, q ys _ g2 g3 (I1.hok.fresh (Nat.le_refl _))⟩
  have lt : b < g.objs.size := Heap.lt_size e
  rw [sortedHeap_old (Nat.ne_of_lt lt) (by rw [size_push']; exact Nat.lt_succ_of_lt lt)]
  exact Heap.get?_push_of_some _ e
end
end Fw
/-! Faultworks, part L: cuts_of. -/
namespace Fw
open PySem PySem.Spec PyProof.Rows L2 FM
/-- all but d is as it was -/
def But (d : Addr) (H H' : Hp) : Prop := ∀ a o, a ≠ d → H a = some o → H' a = some o
theorem But.refl (d : Addr) (H : Hp) : But d H H := fun _ _ _ h => h
theorem But.trans {d : Addr} {H H1 H2 : Hp} (a : But d H H1) (b : But d H1 H2) : But d H H2 := fun c o n h => b c o n (a c o n h)
theorem same_but {d : Addr} {H H' : Hp} (h : Same H H') : But d H H' := fun c o _ e => h c o e
theorem but_upd {d : Addr} {H : Hp} {o : HO} : But d H (upd H d o) := fun c u n e => by rw [upd_ne n]; exact e
/-- a dict's keys -/
def Filled (H : Hp) (d : Addr) (C : Nat → Prop) : Prop := ∃ (kvs : List (Key × V)) (ks : List Nat), H d = some (.dK kvs) ∧ kvs.map (·.1) = ks.map (fun (m : Nat) => (Sum.inl (m : Int) : Key)) ∧ ks.Nodup ∧ ∀ m, m ∈ ks ↔ C m
theorem Filled.same {H H' : Hp} {d : Addr} {C : Nat → Prop} (h : Filled H d C) (e : Same H H') : Filled H' d C := by
  obtain ⟨kvs, ks, h1, r⟩ := h
  exact ⟨kvs, ks, e _ _ h1, r⟩
theorem Filled.iff {H : Hp} {d : Addr} {C C' : Nat → Prop} (h : Filled H d C) (e : ∀ m, C m ↔ C' m) : Filled H d C' := by
  obtain ⟨kvs, ks, h1, h2, h3, h4⟩ := h
  exact ⟨kvs, ks, h1, h2, h3, fun m => (h4 m).trans (e m)⟩
theorem keys_put {kvs : List (Key × V)} {ks : List Nat} (h : kvs.map (·.1) = ks.map (fun (m : Nat) => (Sum.inl (m : Int) : Key))) (hn : ks.Nodup) (m : Nat) (v : V) :
    ∃ ks' : List Nat, (putK kvs (Sum.inl (m : Int) : Key) v).map (·.1) = ks'.map (fun (m : Nat) => (Sum.inl (m : Int) : Key)) ∧ ks'.Nodup ∧ ∀ x, x ∈ ks' ↔ x ∈ ks ∨ x = m := by
  have hval : valV kvs (Sum.inl (m : Int) : Key) = none ↔ m ∉ ks := by
    have e : valV kvs (Sum.inl (m : Int) : Key) = none ↔ (Sum.inl (m : Int) : Key) ∉ kvs.map (·.1) := by
      unfold valV
      rw [Option.map_eq_none_iff, List.find?_eq_none]
      constructor
      · intro z w
        obtain ⟨p, hp, e⟩ := List.mem_map.mp w
        exact z p hp (decide_eq_true e)
      · intro z p hp w
        exact z (List.mem_map.mpr ⟨p, hp, of_decide_eq_true w⟩)
    rw [e, h]
    constructor
    · intro z w; exact z (List.mem_map.mpr ⟨m, w, rfl⟩)
    · intro z w
      obtain ⟨x, hx, e⟩ := List.mem_map.mp w
      have e2 : (x : Int) = (m : Int) := Sum.inl.inj e
      exact z (by rwa [show x = m by omega] at hx)
  by_cases hm : m ∈ ks
  · refine ⟨ks, ?_, hn, fun x => ⟨.inl, fun z => z.elim id fun e => e ▸ hm⟩⟩
    rw [← h]
    have hne : valV kvs (Sum.inl (m : Int) : Key) ≠ none := fun z => hval.mp z hm
    unfold putK
    split
    · rw [List.map_map]
      refine List.map_congr_left fun p hp => ?_
      show (if _ then _ else _ : Key × V).1 = p.1
      split <;> rfl
    · rename_i hx
      exfalso
      refine hne (hval.mpr fun w => hx ?_)
      have : (Sum.inl (m : Int) : Key) ∈ kvs.map (·.1) := by rw [h]; exact List.mem_map.mpr ⟨m, w, rfl⟩
      obtain ⟨p, hp, e⟩ := List.mem_map.mp this
      first
        | exact List.any_eq_true.mpr ⟨p, hp, decide_eq_true e⟩
        | exact ⟨p, hp, e⟩
  · refine ⟨ks ++ [m], ?_, ?_, fun x => by rw [List.mem_append, List.mem_singleton]⟩
    · rw [putK_new v (hval.mpr hm), List.map_append, List.map_append, h]
      rfl
    · rw [List.nodup_append]
      exact ⟨hn, by simp, fun a ha b hb e => by rw [List.mem_singleton.mp hb] at e; exact hm (e ▸ ha)⟩
/-- less may be known of a slot -/
theorem Env.forget' {K : PySem.W.Frag} {H : Hp} {B : Ban} {σ : L2.St} {ρ : DEnv} (h : Env K H B σ ρ) (i : Nat) : Env K H B σ (ρ.set i none) := h.le ⟨List.length_set, fun x d z => by
  by_cases ei : i = x
  · subst ei
    by_cases hi : i < ρ.length
    · rw [List.getElem?_set_self hi] at z; cases z
    · rw [List.getElem?_eq_none (by rw [List.length_set]; omega)] at z; cases z
  · rwa [List.getElem?_set_ne ei] at z⟩
theorem Env.opq {K : PySem.W.Frag} {H : Hp} {B : Ban} {σ : L2.St} {ρ : DEnv} (h : Env K H B σ ρ) (i : Nat) (v : Option V) (hi : ρ[i]? = some none) : Env K H B (σ.set i v) ρ := ⟨h.dom, by rw [List.length_set]; exact h.len, fun x d z => by
  by_cases ei : i = x
  · subst ei; rw [hi] at z; cases z
  · rw [List.getElem?_set_ne ei]; exact h.get x d z⟩
theorem Env.free {K : PySem.W.Frag} {H : Hp} {B : Ban} {D : Addr} {σ : L2.St} {ρ : DEnv} (h : Env K H (Fw.ban B D) σ ρ) : Env K H B σ ρ := ⟨fun a b => h.dom a (.inl b), h.len, fun x d z => let ⟨v, a, b⟩ := h.get x d z; ⟨v, a, at_free d v b⟩⟩
/-! ### blocks that fill a dict -/
section
variable {X : Cx} {a b c e : Expr} {es : List Expr} {st : Stmt} {sts : List Stmt} {ρ ρ1 ρ2 : DEnv} {d : PyData} {pos pos' : Pos} {u : Bool} {C C1 C2 : Nat → Prop} {j : Nat}
def FX (X : Cx) (j : Nat) (sts : List Stmt) (ρ : DEnv) (C : Nat → Prop) (ρ' : DEnv) (C' : Nat → Prop) : Prop :=
  ∀ (σ : L2.St) (H : Hp) (B : Ban) (D : Ends) (d : Addr), Env X.K H (ban B d) σ ρ → σ[j]? = some (some (.ref d)) → Filled H d C →
    (∀ σ' H', But d H H' → Env X.K H' (ban B d) σ' ρ' → σ'[j]? = some (some (.ref d)) → Filled H' d C' → D.nx σ' H') → wSs X sts D σ H
def FS (X : Cx) (j : Nat) (st : Stmt) (ρ : DEnv) (C : Nat → Prop) (ρ' : DEnv) (C' : Nat → Prop) : Prop :=
  ∀ (σ : L2.St) (H : Hp) (B : Ban) (D : Ends) (d : Addr), Env X.K H (ban B d) σ ρ → σ[j]? = some (some (.ref d)) → Filled H d C →
    (∀ σ' H', But d H H' → Env X.K H' (ban B d) σ' ρ' → σ'[j]? = some (some (.ref d)) → Filled H' d C' → D.nx σ' H') → wS X st D σ H
theorem fx_one (h : FS X j st ρ C ρ1 C1) : FX X j [st] ρ C ρ1 C1 := fun σ H B D d hE hj hF q => PSs.w (pss_one ps_w) (h σ H B D d hE hj hF q)
theorem FS.run (h : FS X j st ρ C ρ1 C1) (σ : L2.St) (H : Hp) (B : Ban) (D : Ends) (d : Addr) (hE : Env X.K H (ban B d) σ ρ) (hj : σ[j]? = some (some (.ref d))) (hF : Filled H d C)
    (q : ∀ σ' H', But d H H' → Env X.K H' (ban B d) σ' ρ1 → σ'[j]? = some (some (.ref d)) → Filled H' d C1 → D.nx σ' H') : wS X st D σ H := h σ H B D d hE hj hF q
theorem FS.iff (h : FS X j st ρ C ρ1 C1) (e : ∀ m, C1 m ↔ C2 m) : FS X j st ρ C ρ1 C2 := fun σ H B D d hE hj hF q => h σ H B D d hE hj hF fun σ' H' b e1 j1 f1 => q σ' H' b e1 j1 (f1.iff e)
theorem FS.iff' {C0 : Nat → Prop} (h : FS X j st ρ C ρ1 C1) (e0 : ∀ m, C0 m ↔ C m) (e : ∀ m, C1 m ↔ C2 m) : FS X j st ρ C0 ρ1 C2 := fun σ H B D d hE hj hF q => h σ H B D d hE hj (hF.iff e0) fun σ' H' b e1 j1 f1 => q σ' H' b e1 j1 (f1.iff e)
theorem fx_nil : FX X j [] ρ C ρ C := fun σ H B D d hE hj hF q => PSs.w pss_nil (q σ H (But.refl d H) hE hj hF)
theorem FX.iff (h : FX X j sts ρ C ρ1 C1) (e : ∀ m, C1 m ↔ C2 m) : FX X j sts ρ C ρ1 C2 := fun σ H B D d hE hj hF q => h σ H B D d hE hj hF fun σ' H' b e1 j1 f1 => q σ' H' b e1 j1 (f1.iff e)
theorem FX.le (h : FX X j sts ρ1 C ρ2 C1) (l : Le ρ1 ρ) : FX X j sts ρ C ρ2 C1 := fun σ H B D d hE hj hF q => h σ H B D d (hE.le l) hj hF q
/-- the dict's own object is put anew: what else is known stands -/
theorem env_put {K : PySem.W.Frag} {H : Hp} {B : Ban} {σ : L2.St} {ρ : DEnv} {D : Addr} {kvs : List (Key × V)} (h : Env K H B σ ρ) (hD : H D = some (.dK kvs)) (hB : B D) (o : HO) : Env K (upd H D o) B σ ρ := by
  have tup : ∀ {a : Addr} {xs : List V}, SqT K H a xs → SqT K (upd H D o) a xs := fun {a xs} h => by
    rcases h with (h | ⟨u, h⟩) | h
    · exact .inl (.inl (by rw [upd_ne (ne_of h hD (by intro z; cases z))]; exact h))
    · exact .inl (.inr ⟨u, by rw [upd_ne (ne_of h hD (by intro z; cases z))]; exact h⟩)
    · exact .inr h
  have main : (∀ (d : PyData) (v : V), At K H B v d → At K (upd H D o) B v d) := fun d v h => by
    refine At.rec (motive_1 := fun v d _ => At K (upd H D o) B v d) (motive_2 := fun vs ds _ => AtAll K (upd H D o) B vs ds) .non (fun b => .bl b) (fun i => .int i) (fun h nb g ih => .lst (by rw [upd_ne (fun q => nb (by rw [q]; exact hB))]; exact h) nb ih)
      (fun h g ih => .tup (tup h) ih) .nil (fun h g i1 i2 => .cons i1 i2) h
  refine ⟨fun a b => ?_, h.len, fun i d q => let ⟨v, a, b⟩ := h.get i d q; ⟨v, a, main d v b⟩⟩
  unfold upd
  split
  · exact fun z => nomatch z
  · exact h.dom a b
theorem Filled.put {H : Hp} {d : Addr} {C : Nat → Prop} (h : Filled H d C) (m : Nat) (v : V) (hC : ∀ x, C x → x < 64) : ∃ kvs, H d = some (.dK kvs) ∧ kvs.length < sizeLine ∧ Filled (upd H d (.dK (putK kvs (Sum.inl (m : Int) : Key) v))) d fun x => C x ∨ x = m := by
  obtain ⟨kvs, ks, h1, h2, h3, h4⟩ := h
  obtain ⟨ks', k1, k2, k3⟩ := keys_put h2 h3 m v
  refine ⟨kvs, h1, ?_, _, ks', upd_same, k1, k2, fun x => by rw [k3, h4]⟩
  have l1 : ks.length ≤ (List.range 64).length := nat_nodup_len ks (List.range 64) h3 fun x hx => List.mem_range.mpr (hC x ((h4 x).mp hx))
  have l2 : kvs.length = ks.length := by have e := congrArg List.length h2; rwa [List.length_map, List.length_map] at e
  rw [l2]
  rw [List.length_range] at l1
  exact Nat.lt_of_le_of_lt l1 (by decide)
/-- longer[e] = True -/
theorem fx_put {n : Str} {k2 p1 p2 p3} {m : Nat} (hu : X.A.units + 1 < cLine) (he : EX X e ρ (.int (m : Int))) (hC : ∀ x, C x → x < 64) (hN : X.N[j]? = some n := by rfl) (hv : Vis X.env.scope n := by first | exact Or.inl rfl | exact Or.inr (Or.inl rfl) | exact Or.inr (Or.inr rfl))
    (hd : (n == ("__debug__" : Str)) = false := by decide) (hcd : (n == ("__classdict__" : Str)) = false := by decide) (hs : swapsWith (.Constant (.bool true) k2 p2) (some (.Subscript (.Name n p1) e p3)) pos.line X.env = pure false := by rfl) :
    FS X j (.Assign [.Subscript (.Name n p1) e p3] (.Constant (.bool true) k2 p2) pos) ρ C ρ (fun x => C x ∨ x = m) := fun σ H B D d hE hj hF q =>
  PS.w (ps_dput hu (pe_var hN hv hd hcd) pe_w pe_bl hs) ⟨.ref d, hj, he σ H _ _ hE fun v H1 s1 a1 => by
    cases a1
    obtain ⟨kvs, k1, k2, k3⟩ := (hF.same s1).put m (.bl true) hC
    refine ⟨d, _, rfl, DPut.k (k := Sum.inl (m : Int)) k1 k2, ?_⟩
    exact q σ _ ((same_but s1).trans but_upd) (env_put (hE.mono s1) k1 (.inr rfl) _) hj k3⟩
theorem fx_if {p q : List Stmt} (h : TX X c ρ u) (g : u = true → FX X j p ρ C ρ1 C1) (g' : u = false → FX X j q ρ C ρ1 C1) : FS X j (.If c p q pos) ρ C ρ1 C1 := fun σ H B D d hE hj hF qq => by
  cases u with
  | true =>
    exact PS.w (ps_if pt_w pss_w pss_never) (h σ H _ _ hE fun H1 s1 => iteT (g rfl σ H1 B D d (hE.mono s1) hj (hF.same s1) fun σ' H' b => qq σ' H' ((same_but s1).trans b)))
  | false =>
    exact PS.w (ps_if pt_w pss_never pss_w) (h σ H _ _ hE fun H1 s1 => iteF (g' rfl σ H1 B D d (hE.mono s1) hj (hF.same s1) fun σ' H' b => qq σ' H' ((same_but s1).trans b)))
theorem but_t {K : PySem.W.Frag} {H H' : Hp} {d t : Addr} {xs : List V} {C : Nat → Prop} (h : SqT K H t xs) (hF : Filled H d C) (b : But d H H') : SqT K H' t xs := by
  obtain ⟨kvs, _, hd, _⟩ := hF
  rcases h with (h | ⟨u, h⟩) | h
  · exact .inl (.inl (b _ _ (ne_of h hd (by intro z; cases z)) h))
  · exact .inl (.inr ⟨u, b _ _ (ne_of h hd (by intro z; cases z)) h⟩)
  · exact .inr h
/-- for n in m, m a name that holds a tuple of numbers -/
theorem fx_forT (i t : Nat) {n m : Str} {p1 p2 : Pos} {body : List Stmt} {l : List Nat} {Cs : List Nat → Nat → Prop} (nd : X.N.Nodup) (hij : i ≠ j) (hρ : ρ[t]? = some (some (Fw.nd l))) (h : ∀ done k rest, l = done ++ k :: rest → FX X j body (ρ.set i (some (iE k))) (Cs done) (ρ.set i (some (iE k))) (Cs (done ++ [k])))
    (hN : X.N[i]? = some n := by rfl) (hx : Loc X.env.scope n := by first | exact Or.inl rfl | exact Or.inr rfl) (hf : X.fn n = true ∨ X.env.scope.names.lookup n = some .local := by first | exact .inl rfl | exact .inr rfl | assumption)
    (hNt : X.N[t]? = some m := by rfl) (hv : Vis X.env.scope m := by first | exact Or.inl rfl | exact Or.inr (Or.inl rfl) | exact Or.inr (Or.inr rfl)) (hd : (m == ("__debug__" : Str)) = false := by decide) (hcd : (m == ("__classdict__" : Str)) = false := by decide)
    (hp : PassesOwn (model X.prog X.w) X.A X.env X.xe := by exact PassesOwn.never) (hc : X.calm = true := by rfl) : FS X j (.For (.Name n p1) (.Name m p2) body [] pos) ρ (Cs []) (ρ.set i none) (Cs l) := fun σ H B D d hE hj hF q => by
  obtain ⟨v, hσ, av⟩ := hE.get t _ hρ
  have av : At X.K H (ban B d) v (.tuple (inz l)) := av
  cases av with
  | @tup ad xs _ hs ga =>
    have ex := at_ints ga
    subst ex
    refine PS.w (ps_for hp hc (pi_tup (pe_var hNt hv hd hcd)) (pg_name nd hN hx hf) pss_w) ⟨.ref ad, hσ, ad, rfl, ⟨_, hs⟩, ?_⟩
    refine for_tup (K := X.K) (xs := l.map fun (k : Nat) => V.int (k : Int)) (fun r σ' H' => But d H H' ∧ Env X.K H' (ban B d) σ' (ρ.set i none) ∧ σ'[j]? = some (some (.ref d)) ∧ Filled H' d (Cs (l.take r))) ⟨But.refl d H, ?_, hj, hF⟩ (fun r σ' H' _ ⟨b, _⟩ => but_t hs hF b) ?_ ?_
    · refine hE.le ⟨List.length_set, fun x d' z => ?_⟩
      by_cases ei : i = x
      · subst ei
        by_cases hi : i < ρ.length
        · rw [List.getElem?_set_self hi] at z; cases z
        · rw [List.getElem?_eq_none (by rw [List.length_set]; omega)] at z; cases z
      · rwa [List.getElem?_set_ne ei] at z
    · rintro r x σ' H' hx' ⟨b, hE', hj', hF'⟩
      rw [List.getElem?_map] at hx'
      obtain ⟨k, hk, rfl⟩ := Option.map_eq_some_iff.mp hx'
      have hr : r < l.length := (List.getElem?_eq_some_iff.mp hk).1
      have el : l = l.take r ++ k :: l.drop (r + 1) := by
        have := (List.getElem?_eq_some_iff.mp hk).2
        rw [← this, ← List.drop_eq_getElem_cons hr, List.take_append_drop]
      have et : l.take (r + 1) = l.take r ++ [k] := by rw [List.take_add_one, hk]; rfl
      have hE2 := hE'.set i (At.int (K := X.K) (H := H') (B := ban B d) (k : Int))
      rw [List.set_set] at hE2
      refine h (l.take r) k (l.drop (r + 1)) el _ H' B _ d hE2 (by rw [List.getElem?_set_ne hij]; exact hj') hF' fun σ2 H2 b2 e2 j2 f2 => ⟨b.trans b2, ?_, j2, by rw [et]; exact f2⟩
      refine e2.le ⟨by rw [List.length_set, List.length_set], fun x d' z => ?_⟩
      by_cases ei : i = x
      · subst ei
        by_cases hi : i < ρ.length
        · rw [List.getElem?_set_self hi] at z; cases z
        · rw [List.getElem?_eq_none (by rw [List.length_set]; omega)] at z; cases z
      · rw [List.getElem?_set_ne ei] at z ⊢; exact z
    · rintro σ' H' ⟨b, hE', hj', hF'⟩
      rw [List.length_map, List.take_length] at hF'
      exact q σ' H' b hE' hj' hF'
/-- .. a list of numbers -/
theorem fx_forL (i t : Nat) {n m : Str} {p1 p2 : Pos} {body : List Stmt} {l : List Nat} {Cs : List Nat → Nat → Prop} (nd : X.N.Nodup) (hij : i ≠ j) (hρ : ρ[t]? = some (some (.list (inz l)))) (h : ∀ done k rest, l = done ++ k :: rest → FX X j body (ρ.set i (some (iE k))) (Cs done) (ρ1.set i (some (iE k))) (Cs (done ++ [k]))) (hl : Le (ρ.set i none) (ρ1.set i none))
    (hN : X.N[i]? = some n := by rfl) (hx : Loc X.env.scope n := by first | exact Or.inl rfl | exact Or.inr rfl) (hf : X.fn n = true ∨ X.env.scope.names.lookup n = some .local := by first | exact .inl rfl | exact .inr rfl | assumption)
    (hNt : X.N[t]? = some m := by rfl) (hv : Vis X.env.scope m := by first | exact Or.inl rfl | exact Or.inr (Or.inl rfl) | exact Or.inr (Or.inr rfl)) (hd : (m == ("__debug__" : Str)) = false := by decide) (hcd : (m == ("__classdict__" : Str)) = false := by decide)
    (hp : PassesOwn (model X.prog X.w) X.A X.env X.xe := by exact PassesOwn.never) (hc : X.calm = true := by rfl) : FS X j (.For (.Name n p1) (.Name m p2) body [] pos) ρ (Cs []) (ρ.set i none) (Cs l) := fun σ H B D d hE hj hF q => by
  obtain ⟨v, hσ, av⟩ := hE.get t _ hρ
  cases av with
  | @lst ad xs _ hs nb ga =>
    have ex := at_ints ga
    subst ex
    have nad : ad ≠ d := fun e => nb (.inr e)
    refine PS.w (ps_for hp hc (pi_list (pe_var hNt hv hd hcd)) (pg_name nd hN hx hf) pss_w) ⟨.ref ad, hσ, ad, rfl, ⟨_, .of hs⟩, ?_⟩
    refine for_list (K := X.K) (xs := l.map fun (k : Nat) => V.int (k : Int)) (fun r σ' H' => But d H H' ∧ Env X.K H' (ban B d) σ' (ρ.set i none) ∧ σ'[j]? = some (some (.ref d)) ∧ Filled H' d (Cs (l.take r))) ⟨But.refl d H, ?_, hj, hF⟩ (fun r σ' H' _ ⟨b, _⟩ => .of (b _ _ nad hs)) ?_ ?_
    · refine hE.le ⟨List.length_set, fun x d' z => ?_⟩
      by_cases ei : i = x
      · subst ei
        by_cases hi : i < ρ.length
        · rw [List.getElem?_set_self hi] at z; cases z
        · rw [List.getElem?_eq_none (by rw [List.length_set]; omega)] at z; cases z
      · rwa [List.getElem?_set_ne ei] at z
    · rintro r x σ' H' hx' ⟨b, hE', hj', hF'⟩
      rw [List.getElem?_map] at hx'
      obtain ⟨k, hk, rfl⟩ := Option.map_eq_some_iff.mp hx'
      have hr : r < l.length := (List.getElem?_eq_some_iff.mp hk).1
      have el : l = l.take r ++ k :: l.drop (r + 1) := by
        have := (List.getElem?_eq_some_iff.mp hk).2
        rw [← this, ← List.drop_eq_getElem_cons hr, List.take_append_drop]
      have et : l.take (r + 1) = l.take r ++ [k] := by rw [List.take_add_one, hk]; rfl
      have hE2 := hE'.set i (At.int (K := X.K) (H := H') (B := ban B d) (k : Int))
      rw [List.set_set] at hE2
      refine h (l.take r) k (l.drop (r + 1)) el _ H' B _ d hE2 (by rw [List.getElem?_set_ne hij]; exact hj') hF' fun σ2 H2 b2 e2 j2 f2 => ⟨b.trans b2, ?_, j2, by rw [et]; exact f2⟩
      refine (e2.forget' i).le ?_
      rw [List.set_set]
      exact hl
    · rintro σ' H' ⟨b, hE', hj', hF'⟩
      rw [List.length_map, List.take_length] at hF'
      exact q σ' H' b hE' hj' hF'
end
end Fw
/-! Faultworks, part O: cuts_of, and what stands over it. -/
namespace Fw
open PySem PySem.Spec PyProof.Rows L2 FM
/-- the least cuts, ascending -/
noncomputable def cutsOf (ls : List (List Nat)) : List (List Nat) := srt ((allMT ls).map (bits 8))
theorem foldl_snoc {α : Type} : ∀ (done acc : List α), done.foldl (fun a b => a ++ [b]) acc = acc ++ done
  | [], acc => by simp
  | x :: l, acc => by rw [List.foldl_cons, foldl_snoc l]; simp
section
variable {P : Program} {w : World} {K : PySem.W.Frag} {mg : Str → Option Value} {base : Heap}
def RCuts (ds : List PyData) (d : PyData) : Prop := ∃ (n : Nat) (ls : List (List Nat)), SysOk n ls ∧ ds = [sysD n ls] ∧ d = .tuple ((cutsOf ls).map nd)
/-- the keys that one cut brings -/
def Brings (c : Nat) (p : List Nat) (m : Nat) : Prop := (c &&& mask p ≠ 0 ∧ m = c) ∨ (c &&& mask p = 0 ∧ ∃ k ∈ p, m = c ||| 2 ^ k)
theorem c_cuts_of (F : Df K mg "cuts_of" s_cuts_of ["system"]) (M : Bi mg) (GM : Cl P w K mg base 1 "mask_of" RMask) (GL : Cl P w K mg base 1 "least_of" RLeast) (GP : Cl P w K mg base 1 "parts_of" RParts) : Cl P w K mg base 2 "cuts_of" RCuts := by
  refine cl_mk F sc_cuts_of (fun ds d ⟨_, _, _, h, _⟩ => by rw [h]; rfl) ?_
  rintro f cdv A outer s H E hr _ _ ⟨n, ls, S, rfl, rfl⟩
  have lt6 : ∀ l ∈ ls, ∀ k ∈ l, k < 6 := fun l hl k hk => Nat.lt_of_lt_of_le (S.lt l hl k hk) S.n8
  refine bx_cons (sx_set 1 sc_cuts_of.nd ((ex_lst (ax_cons ex_int ax_nil)).is (show _ = PyData.list (inz (allMT [])) by rw [allMT_nil]; rfl))) ?_
  refine bx_cons ((sx_for 2 (ix_tup (ex_ixT (i := 1) rfl (ex_var 0) ex_int)) (for_fold (s := 1) (i := 2) (enc := nd) (st := fun done => PyData.list (inz (allMT done))) (g := fun a b => a ++ [b]) [some (sysD n ls), none, none, none, none, none] [] ls fun done p rest hls => ?_)
    (pg_name (i := 2) sc_cuts_of.nd rfl (Or.inl rfl))).le (Le.same (Le.same (Le.drop (Le.same (Le.same (Le.same Le.nil))))))) ?_
  · rw [foldl_snoc, List.nil_append]
    have hp : p ∈ ls := by rw [hls]; exact List.mem_append_right _ List.mem_cons_self
    have sub : ∀ q ∈ done ++ [p], q ∈ ls := fun q hq => by
      rw [hls]
      rcases List.mem_append.mp hq with h | h
      · exact List.mem_append_left _ h
      · rw [List.mem_singleton.mp h]; exact List.mem_append_right _ List.mem_cons_self
    have hm64 : ∀ m ∈ allMT done, m < 64 := fun m hm => List.mem_range.mp (List.mem_filter.mp hm).1
    refine ⟨[some (sysD n ls), some (.list (inz (allMT (done ++ [p])))), some (nd p), none, none, none], fun σ H1 B D hE q => ?_, Le.same (Le.same (Le.drop (Le.same (Le.same (Le.same Le.nil)))))⟩
    refine PSs.w (pss_cons (ps_set (i := 3) sc_cuts_of.nd rfl (Or.inl rfl) pe_dnewK) (pss_cons ps_w (pss_one (ps_set (i := 1) sc_cuts_of.nd rfl (Or.inl rfl) (pe_call (ds := []) (dvs := []) GL.ex.choose_spec.choose_spec.choose_spec.1 (hr.mono (by decide)) (by rfl) GL.ex.choose_spec.choose_spec.choose_spec.2.1 GL.ex.choose_spec.choose_spec.choose_spec.2.2.1 GL.ex.choose_spec.choose_spec.choose_spec.2.2.2 .nil pass0
      (pa_cons (pe_callB (cr_srtKeys rfl) (by rfl) M.srt (by decide +kernel) (pa_cons (pe_bm0 PySem.F.plainAttrs_dict PySem.F.slot_dict_keys PySem.F.type_dict_keys mt_keys (pv 3)) pa_nil)) pa_nil)))))) ?_
    intro d hd
    have s0 : Same H1 (upd H1 d (.dK [])) := same_new hd
    have hE2 : Env K (upd H1 d (.dK [])) (ban B d) (σ.set 3 (some (.ref d))) [some (sysD n ls), some (.list (inz (allMT done))), some (nd p), none, none, none] := (hE.ban hd s0 (by rw [upd_same]; exact fun z => nomatch z)).opq 3 _ rfl
    have lenσ : 3 < σ.length := by rw [hE.len]; exact Nat.le_of_ble_eq_true rfl
    have lp := S.len p hp
    have bd : ∀ c ∈ allMT done, ∀ m, Brings c p m → m < 64 := fun c hc m hb => (longer_lt hm64 (lt6 p hp) ⟨c, hc, hb⟩).1
    refine FS.run (fx_forL (j := 3) (ρ := [some (sysD n ls), some (.list (inz (allMT done))), some (nd p), none, none, none]) (ρ1 := [some (sysD n ls), some (.list (inz (allMT done))), some (nd p), none, none, none]) 4 1 (l := allMT done) (Cs := fun dn m => ∃ c ∈ dn, Brings c p m) sc_cuts_of.nd (by decide) rfl (fun dn c rest2 hdc => ?_) (Le.refl _))
      (σ.set 3 (some (.ref d))) _ B _ d hE2 (List.getElem?_set_self lenσ) ⟨[], [], upd_same, rfl, List.nodup_nil, fun m => ⟨fun z => (by cases z), fun ⟨c, hc, _⟩ => (by cases hc)⟩⟩ fun σ' H2 b2 e2 j2 f2 => ?_
    · have hc : c ∈ allMT done := by rw [hdc]; exact List.mem_append_right _ List.mem_cons_self
      have hdn : ∀ c ∈ dn, c ∈ allMT done := fun c hc => by rw [hdc]; exact List.mem_append_left _ hc
      have bC : ∀ x, (∃ c ∈ dn, Brings c p x) → x < 64 := fun x ⟨c', h1, h2⟩ => bd c' (hdn c' h1) x h2
      have snoc : ∀ m, (∃ c' ∈ dn ++ [c], Brings c' p m) ↔ (∃ c' ∈ dn, Brings c' p m) ∨ Brings c p m := fun m => by
        constructor
        · rintro ⟨c', h1, h2⟩
          rcases List.mem_append.mp h1 with h | h
          · exact .inl ⟨c', h, h2⟩
          · rw [List.mem_singleton.mp h] at h2; exact .inr h2
        · rintro (⟨c', h1, h2⟩ | h)
          · exact ⟨c', List.mem_append_left _ h1, h2⟩
          · exact ⟨c, List.mem_append_right _ (List.mem_singleton.mpr rfl), h⟩
      refine fx_one (fx_if (u := !decide (c &&& mask p = 0)) ((tx_ne hr (shaped_int _) (shaped_int _) (ex_band (ex_var 4) (ex_call GM hr (ax_cons (ex_var 2) ax_nil) ⟨p, fun k hk => by have := lt6 p hp k hk; omega, by omega, rfl, rfl⟩)) ex_int).is ?_) (fun hu => ?_) fun hu => ?_)
      · rw [eqv_int]
        congr 1
        exact decide_eq_decide.mpr (by omega)
      · have hu : ¬ c &&& mask p = 0 := by simpa using hu
        refine fx_one ((fx_put (m := c) (hu_of hr) (ex_var 4) bC).iff fun m => ?_)
        rw [snoc]
        exact or_congr Iff.rfl ⟨fun z => .inl ⟨hu, z⟩, fun z => z.elim (fun z => z.2) fun z => absurd z.1 hu⟩
      · have hu : c &&& mask p = 0 := by simpa using hu
        refine fx_one ((fx_forT (ρ := [some (sysD n ls), some (.list (inz (allMT done))), some (nd p), none, some (iE c), none]) 5 2 (l := p) (Cs := fun dk m => (∃ c' ∈ dn, Brings c' p m) ∨ ∃ k ∈ dk, m = c ||| 2 ^ k) sc_cuts_of.nd (by decide) rfl (fun dk k rest3 hdk => ?_)).iff' ?_ ?_)
        · have hk : ∀ k' ∈ dk ++ [k], k' ∈ p := fun k' h => by
            rw [hdk]
            rcases List.mem_append.mp h with h | h
            · exact List.mem_append_left _ h
            · rw [List.mem_singleton.mp h]; exact List.mem_append_right _ List.mem_cons_self
          have hk6 := lt6 p hp k (hk k (List.mem_append_right _ (List.mem_singleton.mpr rfl)))
          refine fx_one ((fx_put (m := c ||| 2 ^ k) (hu_of hr) (ex_bor (ex_var 4) (ex_shl1 ex_int (ex_var 5) (by omega))) fun x hx => ?_).iff fun m => ?_)
          · rcases hx with hx | ⟨k', h1, h2⟩
            · exact bC x hx
            · exact bd c hc x (.inr ⟨hu, k', hk k' (List.mem_append_left _ h1), h2⟩)
          · constructor
            · rintro ((h | ⟨k', h1, h2⟩) | h)
              · exact .inl h
              · exact .inr ⟨k', List.mem_append_left _ h1, h2⟩
              · exact .inr ⟨k, List.mem_append_right _ (List.mem_singleton.mpr rfl), h⟩
            · rintro (h | ⟨k', h1, h2⟩)
              · exact .inl (.inl h)
              · rcases List.mem_append.mp h1 with h | h
                · exact .inl (.inr ⟨k', h, h2⟩)
                · rw [List.mem_singleton.mp h] at h2; exact .inr h2
        · intro m
          exact ⟨fun z => .inl z, fun z => z.elim id fun ⟨k, hk, _⟩ => (by cases hk)⟩
        · intro m
          rw [snoc]
          exact or_congr Iff.rfl ⟨fun z => .inr ⟨hu, z⟩, fun z => z.elim (fun z => absurd hu z.1) fun z => z.2⟩
    · obtain ⟨kvs, ks, k1, k2, k3, k4⟩ := f2
      have s2 : Same H1 H2 := fun a o ha => b2 a o (ne_of_none ha hd) (s0 a o ha)
      refine ⟨.ref d, j2, .inr (.inr (.inl ⟨rfl, .inl ⟨kvs, k1⟩⟩)), d, kvs, rfl, rfl, k1, fun pv hpv => ?_⟩
      have npd : d ≠ pv := ne_of_none k1 hpv
      have hmem : ∀ m, m ∈ ks ↔ Longer (allMT done) p m := fun m => (k4 m).trans Iff.rfl
      have hlen : ks.length ≤ ((List.range 64).filter fun m => decide (m ≠ 0)).length := nat_nodup_len ks _ k3 fun x hx => by
        obtain ⟨h1, h2⟩ := longer_lt hm64 (lt6 p hp) ((hmem x).mp hx)
        exact List.mem_filter.mpr ⟨List.mem_range.mpr h1, decide_eq_true h2⟩
      have h63 : ((List.range 64).filter fun m => decide (m ≠ 0)).length = 63 := by decide
      refine ⟨pv, d, kvs, castL ks, rfl, upd_same, by rw [upd_ne npd]; exact k1, by rw [k2]; unfold castL; rw [List.map_map]; rfl, by unfold castL; rw [List.length_map]; omega, fun ys q' pm asc hq' => ?_⟩
      have nys : ys.Nodup := pm.nodup_iff.mpr (List.pairwise_map.mpr (List.Pairwise.imp (S := fun a b => ((a : Nat) : Int) ≠ ((b : Nat) : Int)) (fun {a b} h => by omega) k3))
      have asc' : ys.Pairwise (· < ·) := asc.imp₂ (fun a b h1 h2 => by omega) nys
      have ey : ys = castL (longerL (allMT done) p) := asc_one (fun a => Int.lt_irrefl a) (fun a b h => by omega) asc' (castL_asc (longerL_asc _ _)) fun k => by
        rw [pm.mem_iff]
        unfold castL
        rw [List.mem_map, List.mem_map]
        constructor
        · rintro ⟨m, h1, h2⟩
          exact ⟨m, (mem_longerL hm64 (lt6 p hp)).mpr ((hmem m).mp h1), h2⟩
        · rintro ⟨m, h1, h2⟩
          exact ⟨m, (hmem m).mpr ((mem_longerL hm64 (lt6 p hp)).mp h1), h2⟩
      subst ey
      have s3 : Same H2 (upd H2 pv (ViewO pv d)) := same_new hpv
      have s4 := s3.trans (same_new (o := HO.lst ((castL (longerL (allMT done) p)).map V.int)) hq')
      have e4 := (e2.mono s4).free
      refine ⟨B, [.list (inz (longerL (allMT done) p))], .list (inz (least (longerL (allMT done) p))), e4.dom, .cons (.lst upd_same ((e2.free.dom.mono s3).no hq') ?_) .nil, ⟨_, Nat.le_trans (longerL_len _ _) (by decide), rfl, rfl⟩, fun v H5 s5 a5 => ?_⟩
      · rw [inz_cast]
        exact .ints
      · rw [least_longer (fun q hq => lt6 q (sub q hq)) (S.asc p hp)] at a5
        exact q _ H5 ((s2.trans s4).trans s5) ((e4.mono s5).set 1 a5)
  · refine bx_ret (sx_ret (ex_tupL M.tup ((ex_sortedN (ls := (allMT ls).map (bits 8)) M.srt hr ?_ (by rw [List.length_map]; have := allMT_len ls; omega) ((ex_lc 4 (n := "cut") (enc := iE) (ls := allMT ls) (p := fun _ => true) (f := fun m => nd (bits 8 m)) sc_cuts_of.nd (ix_list ((ex_var 1).is ?_)) (by have := allMT_len ls; omega) (blkOk_by (by kernel_rfl))
      (fun _ _ _ _ _ => pg_name (i := 4) sc_cuts_of.nd rfl (Or.inl rfl)) (fun _ _ _ _ _ _ _ => ifx_nil) (fun m hm _ _ _ _ _ _ => ex_call GP hr (ax_cons (ex_var 4) ax_nil) ⟨m, rfl, rfl⟩)).is ?_)))))
    · refine anti_ne ?_ fun a ha b hb hab => ?_
      · refine List.pairwise_map.mpr (List.Pairwise.imp_of_mem (fun {a b} ha hb h e => ?_) (allMT_asc ls))
        have ea := mask_bits (n := 8) (m := a) (Nat.lt_of_lt_of_le (List.mem_range.mp (List.mem_filter.mp ha).1) (by decide))
        have eb := mask_bits (n := 8) (m := b) (Nat.lt_of_lt_of_le (List.mem_range.mp (List.mem_filter.mp hb).1) (by decide))
        rw [e, eb] at ea
        omega
      · obtain ⟨x, hx, rfl⟩ := List.mem_map.mp ha
        obtain ⟨y, hy, rfl⟩ := List.mem_map.mp hb
        have hxm := (mem_allMT lt6).mp hx
        have hym := (mem_allMT lt6).mp hy
        have hx8 : x < 2 ^ 8 := Nat.lt_of_lt_of_le (List.mem_range.mp (List.mem_filter.mp hx).1) (by decide)
        refine congrArg (bits 8) (hym.2 x (fun k hk => ?_) hxm.1)
        have hk8 : k < 8 := Classical.byContradiction fun z => by
          rw [Nat.testBit_lt_two_pow (Nat.lt_of_lt_of_le hx8 (Nat.pow_le_pow_right (by decide) (by omega)))] at hk
          cases hk
        exact (mem_bits.mp (hab k (mem_bits.mpr ⟨hk8, hk⟩))).2
    · rw [foldl_snoc]; rfl
    · rw [filt_all, List.map_map]; rfl
end
end Fw
/-! Faultworks, part R: the bounds. -/
namespace Fw
open PySem PySem.Spec PyProof.Rows L2 FM
section
variable {P : Program} {w : World} {K : PySem.W.Frag} {mg : Str → Option Value} {base : Heap}
def RIsSys (ds : List PyData) (d : PyData) : Prop := ∃ (n : Nat) (ls : List (List Nat)), SysOk n ls ∧ ds = [sysD n ls] ∧ d = .bool true
theorem c_is_system (F : Df K mg "is_system" s_is_system ["value"]) (M : Bi mg) (GI : Cl P w K mg base 1 "is_in" RIn) (GS : Cl P w K mg base 2 "are_sets" RSets) (m8 : ∃ t, mg "MOST_PARTS" = some (.int 8 t)) : Cl P w K mg base 3 "is_system" RIsSys := by
  refine cl_mk F sc_is_system (fun ds d ⟨_, _, _, h, _⟩ => by rw [h]; rfl) ?_
  rintro f cdv A outer s H E hr _ _ ⟨n, ls, S, rfl, rfl⟩
  refine bx_cons (sx_pass (tx_w (wx_orF ((tx_not (tx_val (ex_isi M.isi M.tup boot_tuple kTT (ex_var 0)))).is rfl) (wx_orF ((tx_ne hr (shaped_int _) (shaped_int _) (ex_lenT M.len (ex_var 0)) ex_int).is (by rw [eqv_int]; rfl))
    (wx_or1 ((tx_not (u := true) (tx_val (ex_call (R := RIn) GI hr (ax_cons (ex_ixT (i := 0) rfl (ex_var 0) ex_int) (ax_cons ex_int (ax_cons (ex_globI m8) ax_nil))) ⟨(n : Int), 1, 8, by have := S.n1; omega, by have := S.n8; omega, rfl, rfl⟩))).is rfl)))))) ?_
  exact bx_ret (sx_ret (ex_call GS hr (ax_cons (ex_ixT (i := 1) rfl (ex_var 0) ex_int) (ax_cons (ex_ixT (i := 0) rfl (ex_var 0) ex_int) ax_nil)) ⟨n, ls, S, rfl, rfl⟩))
def RNeedS (ds : List PyData) (d : PyData) : Prop := ∃ (n : Nat) (ls : List (List Nat)), SysOk n ls ∧ ds = [sysD n ls] ∧ d = .none
theorem c_need_system (F : Df K mg "need_system" s_need_system ["system"]) (G : Cl P w K mg base 3 "is_system" RIsSys) : Cl P w K mg base 4 "need_system" RNeedS := by
  refine cl_mk0 F sc_need_system (fun ds d ⟨_, _, _, h, _⟩ => by rw [h]; rfl) ?_
  rintro f cdv A outer s H E hr _ _ ⟨n, ls, S, rfl, rfl⟩
  exact ⟨rfl, _, bx_cons (sx_pass ((tx_not (u := true) (tx_val (ex_call (R := RIsSys) G hr (ax_cons (ex_var 0) ax_nil) ⟨n, ls, S, rfl, rfl⟩))).is rfl)) bx_nil⟩
structure ChOk (n : Nat) (ps : List Rat) : Prop where
  len : ps.length = n
  p0 : ∀ q ∈ ps, 0 ≤ q
  p1 : ∀ q ∈ ps, q ≤ 1
  bd : ∀ q ∈ ps, Bd 4 q
def RNeedC (ds : List PyData) (d : PyData) : Prop := ∃ (n : Nat) (ls : List (List Nat)) (ps : List Rat), ChOk n ps ∧ n ≤ 100 ∧ ds = [sysD n ls, chD ps] ∧ d = .none
theorem c_need_chances (F : Df K mg "need_chances" s_need_chances ["system", "chances"]) (M : Bi mg) (G : Cl P w K mg base 3 "is_chance" RChance) : Cl P w K mg base 4 "need_chances" RNeedC := by
  refine cl_mk0 F sc_need_chances (fun ds d ⟨_, _, _, _, _, h, _⟩ => by rw [h]; rfl) ?_
  rintro f cdv A outer s H E hr _ _ ⟨n, ls, ps, S, hn, rfl, rfl⟩
  refine ⟨rfl, _, bx_cons (sx_pass (tx_w (wx_orF ((tx_not (tx_val (ex_isi M.isi M.tup boot_tuple kTT (ex_var 1)))).is rfl) (wx_or1 ((tx_ne hr (shaped_int _) (shaped_int _) (ex_lenT M.len (ex_var 1)) (ex_ixT (i := 0) rfl (ex_var 0) ex_int)).is ?_)))))
    (bx_cons (sx_pass ((tx_neNil hr (sh_map (n := 1) fun q _ => sh_tup fun d hd => ?_) (ex_lc 2 (n := "one") (enc := rt) (ls := ps) (p := fun _ => false) (f := rt) sc_need_chances.nd (ix_tup (ex_var 1)) (by have := S.len; omega) (blkOk_by (by kernel_rfl)) (fun _ _ _ _ _ => pg_name (i := 2) sc_need_chances.nd rfl (Or.inl rfl))
      (fun q hq _ _ _ _ _ => ifx_one ((tx_not (u := true) (tx_val (ex_call (R := RChance) G hr (ax_cons (ex_var 2) ax_nil) ⟨q, S.p0 q hq, S.p1 q hq, rfl, rfl⟩))).is rfl)) (fun k hk _ _ _ _ _ _ => ex_var 2)) (ex_lst ax_nil)).is ?_)) bx_nil)⟩
  · rw [eqv_int, List.length_map, S.len, decide_eq_true rfl]
    rfl
  · rcases List.mem_cons.mp hd with h | h
    · rw [h]; exact sh_int _
    · rw [List.mem_singleton.mp h]; exact sh_int _
  · rw [List.filter_eq_nil_iff.mpr fun _ _ => Bool.false_ne_true]
    rfl
def RProd (ds : List PyData) (d : PyData) : Prop := ∃ (qs : List Rat) (b : Nat), (∀ q ∈ qs, Bd b q) ∧ b ≤ 4000 ∧ 1 + b * qs.length ≤ 4000 ∧ ds = [.list (qs.map rt)] ∧ d = rt (mulAll qs)
theorem part_w4 {qs done : List Rat} {q : Rat} {rest : List Rat} {b : Nat} (h : ∀ q ∈ qs, Bd b q) (hb : 1 + b * qs.length ≤ 4000) (e : qs = done ++ q :: rest) : W4 (done.foldl (· * ·) 1) := by
  have h1 := mulAll_bd (b := b) (qs := done) fun r hr => h r (by rw [e]; exact List.mem_append_left _ hr)
  refine Bd.mono h1 ?_
  have hl : done.length ≤ qs.length := by rw [e, List.length_append]; omega
  have := Nat.mul_le_mul_left b hl
  omega
theorem c_product_of (F : Df K mg "product_of" s_product_of ["values"]) (G : Cl P w K mg base 3 "times" (RBin (· * ·))) (m1 : GlT K mg "ONE" [.int 1, .int 1]) : Cl P w K mg base 4 "product_of" RProd := by
  refine cl_mk F sc_product_of (fun ds d ⟨_, _, _, _, _, h, _⟩ => by rw [h]; rfl) ?_
  rintro f cdv A outer s H E hr _ _ ⟨qs, b, hq, hb, hbl, rfl, rfl⟩
  refine bx_cons (sx_set 1 sc_product_of.nd (ex_globT m1)) ?_
  refine bx_cons ((sx_for 2 (ix_list (ex_var 0)) (for_fold (s := 1) (i := 2) (enc := rt) (st := rt) (g := (· * ·)) [some (.list (qs.map rt)), none, none] 1 qs fun done q rest e => ⟨_, bx_cons (sx_set 1 sc_product_of.nd
    (ex_call G hr (ax_cons (ex_var 1) (ax_cons (ex_var 2) ax_nil)) ⟨done.foldl (· * ·) 1, q, part_w4 hq hbl e, Bd.mono (hq q (by rw [e]; exact List.mem_append_right _ List.mem_cons_self)) hb, rfl, rfl⟩)) bx_nil, Le.same (Le.same (Le.drop Le.nil))⟩)
    (pg_name (i := 2) sc_product_of.nd rfl (Or.inl rfl))).le (Le.same (Le.same (Le.same Le.nil)))) ?_
  exact bx_ret (sx_ret (ex_var 1))
theorem mx_T {a q : Rat} (h : a < q) : mx a q = q := by unfold mx; rw [if_pos h]
theorem mx_F {a q : Rat} (h : ¬ a < q) : mx a q = a := by unfold mx; rw [if_neg h]
def RGreat (ds : List PyData) (d : PyData) : Prop := ∃ (qs : List Rat) (a : Rat), (∀ q ∈ qs, W4 q) ∧ W4 a ∧ ds = [.list (qs.map rt), rt a] ∧ d = rt (qs.foldl mx a)
theorem c_greatest (F : Df K mg "greatest" s_greatest ["values", "start"]) (G : Cl P w K mg base 1 "is_below" RLt) : Cl P w K mg base 2 "greatest" RGreat := by
  refine cl_mk F sc_greatest (fun ds d ⟨_, _, _, _, h, _⟩ => by rw [h]; rfl) ?_
  rintro f cdv A outer s H E hr _ _ ⟨qs, a, hq, ha, rfl, rfl⟩
  refine bx_cons (sx_set 2 sc_greatest.nd (ex_var 1)) ?_
  refine bx_cons ((sx_for 3 (ix_list (ex_var 0)) (for_fold (s := 2) (i := 3) (enc := rt) (st := rt) (g := mx) [some (.list (qs.map rt)), some (rt a), none, none] a qs fun done q rest e => ?_)
    (pg_name (i := 3) sc_greatest.nd rfl (Or.inl rfl))).le (Le.same (Le.same (Le.same (Le.same Le.nil))))) ?_
  · have hw : W4 (done.foldl mx a) := mx_fold_mem done a ha fun r hr => hq r (by rw [e]; exact List.mem_append_left _ hr)
    have hw2 : W4 q := hq q (by rw [e]; exact List.mem_append_right _ List.mem_cons_self)
    refine ⟨_, bx_cons (sx_set 2 sc_greatest.nd (ex_if (u := decide (done.foldl mx a < q)) (d := rt (mx (done.foldl mx a) q)) (tx_val (ex_call G hr (ax_cons (ex_var 2) (ax_cons (ex_var 3) ax_nil)) ⟨done.foldl mx a, q, hw, hw2, rfl, rfl⟩)) (fun h => (ex_var 3).is ?_) fun h => (ex_var 2).is ?_)) bx_nil, Le.same (Le.same (Le.same (Le.drop Le.nil)))⟩
    · rw [mx_T (of_decide_eq_true h)]
    · have h2 := of_decide_eq_false h
      rw [mx_F h2]
  · exact bx_ret (sx_ret (ex_var 2))
/-- the chance that all parts of a path work; that some part of a cut does not fail -/
def pr (ps : List Rat) (l : List Nat) : Rat := mulAll (l.map fun k => ps.getD k 0)
def qr (ps : List Rat) (l : List Nat) : Rat := mulAll (l.map fun k => 1 - ps.getD k 0)
theorem getD_bd {n : Nat} {ps : List Rat} (S : ChOk n ps) {k : Nat} (hk : k < n) : ps[k]? = some (ps.getD k 0) ∧ Bd 4 (ps.getD k 0) ∧ 0 ≤ ps.getD k 0 ∧ ps.getD k 0 ≤ 1 := by
  have h : k < ps.length := by rw [S.len]; exact hk
  have e : ps.getD k 0 = ps[k] := by rw [List.getD_eq_getElem?_getD, List.getElem?_eq_getElem h]; rfl
  rw [e]
  have hm : ps[k] ∈ ps := List.getElem_mem h
  exact ⟨List.getElem?_eq_getElem h, S.bd _ hm, S.p0 _ hm, S.p1 _ hm⟩
theorem rt_get {ps : List Rat} {k : Nat} {q : Rat} (h : ps[k]? = some q) : (ps.map rt)[k]? = some (rt q) := by rw [List.getElem?_map, h]; rfl
def RPaths (ds : List PyData) (d : PyData) : Prop := ∃ (n : Nat) (ls : List (List Nat)) (ps : List Rat), SysOk n ls ∧ ChOk n ps ∧ ds = [sysD n ls, chD ps] ∧ d = .list ((ls.map (pr ps)).map rt)
theorem c_path_chances (F : Df K mg "path_chances" s_path_chances ["system", "chances"]) (G : Cl P w K mg base 4 "product_of" RProd) : Cl P w K mg base 5 "path_chances" RPaths := by
  refine cl_mk F sc_path_chances (fun ds d ⟨_, _, _, _, _, h, _⟩ => by rw [h]; rfl) ?_
  rintro f cdv A outer s H E hr _ _ ⟨n, ls, ps, S, C, rfl, rfl⟩
  refine bx_ret (sx_ret ((ex_lc 2 (n := "path") (enc := nd) (ls := ls) (p := fun _ => true) (f := fun l => rt (pr ps l)) sc_path_chances.nd (ix_tup (ex_ixT (i := 1) rfl (ex_var 0) ex_int)) (by have := S.few; omega) (blkOk_by (by kernel_rfl))
    (fun _ _ _ _ _ => pg_name (i := 2) sc_path_chances.nd rfl (Or.inl rfl)) (fun _ _ _ _ _ _ _ => ifx_nil) (fun l hl _ _ _ _ _ _ => ex_call G hr (ax_cons ((ex_lc 3 (n := "k") (enc := iE) (ls := l) (p := fun _ => true) (f := fun k => rt (ps.getD k 0)) sc_path_chances.nd (ix_tup (ex_var 2)) (by have := S.len l hl; omega) (blkOk_by (by kernel_rfl))
      (fun _ _ _ _ _ => pg_name (i := 3) sc_path_chances.nd rfl (Or.inl rfl)) (fun _ _ _ _ _ _ _ => ifx_nil) (fun k hk _ _ _ _ _ _ => ex_ixT (rt_get (getD_bd C (S.lt l hl k hk)).1) (ex_var 1) (ex_var 3))).is ?_) ax_nil)
        ⟨l.map fun k => ps.getD k 0, 4, fun q hq => ?_, by decide, by rw [List.length_map]; have := S.len l hl; omega, rfl, rfl⟩)).is ?_))
  · rw [filt_all, List.map_map]; rfl
  · rw [filt_all, List.map_map]; rfl
  · obtain ⟨k, hk, rfl⟩ := List.mem_map.mp hq
    exact (getD_bd C (S.lt l hl k hk)).2.1
end
end Fw
/-! Faultworks, part T: the bounds by single cuts, and the answer. -/
namespace Fw
open PySem PySem.Spec PyProof.Rows L2 FM
theorem bit_small {n m k : Nat} (h : m < 2 ^ n) (hk : m.testBit k = true) : k < n := Classical.byContradiction fun z => by
  rw [Nat.testBit_lt_two_pow (Nat.lt_of_lt_of_le h (Nat.pow_le_pow_right (by decide) (by omega)))] at hk
  cases hk
theorem sys_lt6 {n : Nat} {ls : List (List Nat)} (S : SysOk n ls) : ∀ l ∈ ls, ∀ k ∈ l, k < 6 := fun l hl k hk => Nat.lt_of_lt_of_le (S.lt l hl k hk) S.n8
theorem mem_cuts {n : Nat} {ls : List (List Nat)} (S : SysOk n ls) {c : List Nat} : c ∈ cutsOf ls ↔ ∃ m, MT ls m ∧ c = bits 8 m := by
  unfold cutsOf
  rw [(srt_perm _).mem_iff, List.mem_map]
  constructor
  · rintro ⟨m, h, rfl⟩; exact ⟨m, (mem_allMT (sys_lt6 S)).mp h, rfl⟩
  · rintro ⟨m, h, rfl⟩; exact ⟨m, (mem_allMT (sys_lt6 S)).mpr h, rfl⟩
theorem cuts_lt {n : Nat} {ls : List (List Nat)} (S : SysOk n ls) {c : List Nat} (hc : c ∈ cutsOf ls) : (∀ k ∈ c, k < n) ∧ c.length ≤ 8 := by
  obtain ⟨m, hm, rfl⟩ := (mem_cuts S).mp hc
  have hm2 := mt_lt S.lt hm
  refine ⟨fun k hk => bit_small hm2 (mem_bits.mp hk).2, ?_⟩
  exact Nat.le_trans (List.length_filter_le _ _) (by rw [List.length_range]; exact Nat.le_refl _)
theorem cuts_len (ls : List (List Nat)) : (cutsOf ls).length ≤ 64 := by
  unfold cutsOf
  rw [(srt_perm _).length_eq, List.length_map]
  exact allMT_len ls
theorem fold01 : ∀ (qs : List Rat) (a : Rat), 0 ≤ a → a ≤ 1 → (∀ q ∈ qs, 0 ≤ q ∧ q ≤ 1) → 0 ≤ qs.foldl (· * ·) a ∧ qs.foldl (· * ·) a ≤ a
  | [], a, h0, _, _ => ⟨h0, Rat.le_refl⟩
  | q :: qs, a, h0, h1, h => by
    have hq := h q List.mem_cons_self
    have m0 : 0 ≤ a * q := Rat.mul_nonneg h0 hq.1
    have m1 : a * q ≤ a := by
      have := Rat.mul_le_mul_of_nonneg_left hq.2 h0
      rwa [Rat.mul_one] at this
    have ih := fold01 qs (a * q) m0 (Rat.le_trans m1 h1) fun r hr => h r (List.mem_cons_of_mem _ hr)
    exact ⟨ih.1, Rat.le_trans ih.2 m1⟩
theorem mul01 {qs : List Rat} (h : ∀ q ∈ qs, 0 ≤ q ∧ q ≤ 1) : 0 ≤ mulAll qs ∧ mulAll qs ≤ 1 := fold01 qs 1 (by decide) Rat.le_refl h
theorem turn01 {q : Rat} (h : 0 ≤ q ∧ q ≤ 1) : 0 ≤ 1 - q ∧ 1 - q ≤ 1 := ⟨by grind, by grind⟩
theorem pr01 {n : Nat} {ps : List Rat} (C : ChOk n ps) {l : List Nat} (h : ∀ k ∈ l, k < n) : 0 ≤ pr ps l ∧ pr ps l ≤ 1 := mul01 fun q hq => by
  obtain ⟨k, hk, rfl⟩ := List.mem_map.mp hq
  exact (getD_bd C (h k hk)).2.2
theorem qr01 {n : Nat} {ps : List Rat} (C : ChOk n ps) {l : List Nat} (h : ∀ k ∈ l, k < n) : 0 ≤ qr ps l ∧ qr ps l ≤ 1 := mul01 fun q hq => by
  obtain ⟨k, hk, rfl⟩ := List.mem_map.mp hq
  exact turn01 (getD_bd C (h k hk)).2.2
theorem turn_bd {n : Nat} {ps : List Rat} (C : ChOk n ps) {k : Nat} (h : k < n) : Bd 4 (1 - ps.getD k 0) := (getD_bd C h).2.1.turn (getD_bd C h).2.2.1 (getD_bd C h).2.2.2
theorem pr_bd {n : Nat} {ps : List Rat} (C : ChOk n ps) {l : List Nat} (h : ∀ k ∈ l, k < n) (hl : l.length ≤ 8) : Bd 33 (pr ps l) := Bd.mono (mulAll_bd fun q hq => by
  obtain ⟨k, hk, rfl⟩ := List.mem_map.mp hq
  exact (getD_bd C (h k hk)).2.1) (by rw [List.length_map]; omega)
theorem qr_bd {n : Nat} {ps : List Rat} (C : ChOk n ps) {l : List Nat} (h : ∀ k ∈ l, k < n) (hl : l.length ≤ 8) : Bd 33 (qr ps l) := Bd.mono (mulAll_bd fun q hq => by
  obtain ⟨k, hk, rfl⟩ := List.mem_map.mp hq
  exact turn_bd C (h k hk)) (by rw [List.length_map]; omega)
/-- one less each cut's chance to fail -/
noncomputable def cutCh (ps : List Rat) (ls : List (List Nat)) : List Rat := (cutsOf ls).map fun c => 1 - qr ps c
theorem cutCh_mem {n : Nat} {ls : List (List Nat)} {ps : List Rat} (S : SysOk n ls) (C : ChOk n ps) : ∀ q ∈ cutCh ps ls, 0 ≤ q ∧ q ≤ 1 ∧ Bd 33 q := fun q hq => by
  obtain ⟨c, hc, rfl⟩ := List.mem_map.mp hq
  obtain ⟨h1, h2⟩ := cuts_lt S hc
  have := turn01 (qr01 C h1)
  exact ⟨this.1, this.2, (qr_bd C h1 h2).turn (qr01 C h1).1 (qr01 C h1).2⟩
theorem w4_of {b : Nat} {q : Rat} (h : Bd b q) (hb : b ≤ 4000 := by decide) : W4 q := Bd.mono h hb
noncomputable def lowOf (ps : List Rat) (ls : List (List Nat)) : Rat := (ls.map (pr ps)).foldl mx 0
noncomputable def highOf (ps : List Rat) (ls : List (List Nat)) : Rat := 1 - ((cutCh ps ls).map (1 - ·)).foldl mx 0
section
variable {P : Program} {w : World} {K : PySem.W.Frag} {mg : Str → Option Value} {base : Heap}
def RCutCh (ds : List PyData) (d : PyData) : Prop := ∃ (n : Nat) (ls : List (List Nat)) (ps : List Rat), SysOk n ls ∧ ChOk n ps ∧ ds = [sysD n ls, chD ps] ∧ d = .list ((cutCh ps ls).map rt)
theorem c_cut_chances (F : Df K mg "cut_chances" s_cut_chances ["system", "chances"]) (GC : Cl P w K mg base 2 "cuts_of" RCuts) (GT : Cl P w K mg base 4 "turned" RTurn) (G : Cl P w K mg base 4 "product_of" RProd) : Cl P w K mg base 5 "cut_chances" RCutCh := by
  refine cl_mk F sc_cut_chances (fun ds d ⟨_, _, _, _, _, h, _⟩ => by rw [h]; rfl) ?_
  rintro f cdv A outer s H E hr _ _ ⟨n, ls, ps, S, C, rfl, rfl⟩
  refine bx_ret (sx_ret ((ex_lc 2 (n := "cut") (enc := nd) (ls := cutsOf ls) (p := fun _ => true) (f := fun l => rt (1 - qr ps l)) sc_cut_chances.nd (ix_tup (ex_call GC hr (ax_cons (ex_var 0) ax_nil) ⟨n, ls, S, rfl, rfl⟩)) (by have := cuts_len ls; omega) (blkOk_by (by kernel_rfl))
    (fun _ _ _ _ _ => pg_name (i := 2) sc_cut_chances.nd rfl (Or.inl rfl)) (fun _ _ _ _ _ _ _ => ifx_nil) (fun l hl _ _ _ _ _ _ => ?_)).is ?_))
  · obtain ⟨h1, h2⟩ := cuts_lt S hl
    refine ex_call GT hr (ax_cons (ex_call G hr (ax_cons ((ex_lc 3 (n := "k") (enc := iE) (ls := l) (p := fun _ => true) (f := fun k => rt (1 - ps.getD k 0)) sc_cut_chances.nd (ix_tup (ex_var 2)) (by omega) (blkOk_by (by kernel_rfl))
      (fun _ _ _ _ _ => pg_name (i := 3) sc_cut_chances.nd rfl (Or.inl rfl)) (fun _ _ _ _ _ _ _ => ifx_nil) (fun k hk _ _ _ _ _ _ => ex_call GT hr (ax_cons (ex_ixT (rt_get (getD_bd C (h1 k hk)).1) (ex_var 1) (ex_var 3)) ax_nil) ⟨ps.getD k 0, w4_of (getD_bd C (h1 k hk)).2.1, rfl, rfl⟩)).is
        (show _ = PyData.list ((l.map fun k => 1 - ps.getD k 0).map rt) by rw [filt_all, List.map_map]; rfl)) ax_nil)
        ⟨l.map fun k => 1 - ps.getD k 0, 4, fun q hq => ?_, by decide, by rw [List.length_map]; omega, rfl, rfl⟩) ax_nil) ⟨qr ps l, w4_of (qr_bd C h1 h2), rfl, rfl⟩
    obtain ⟨k, hk, rfl⟩ := List.mem_map.mp hq
    exact turn_bd C (h1 k hk)
  · rw [filt_all]; unfold cutCh; rw [List.map_map]; rfl
def RBounds (ds : List PyData) (d : PyData) : Prop := ∃ (n : Nat) (ls : List (List Nat)) (ps : List Rat), SysOk n ls ∧ ChOk n ps ∧ ds = [sysD n ls, chD ps] ∧ d = .tuple [rt (lowOf ps ls), rt (highOf ps ls)]
theorem fmx_mem {Q : Rat → Prop} {qs : List Rat} {a : Rat} (ha : Q a) (h : ∀ q ∈ qs, Q q) : Q (qs.foldl mx a) := mx_fold_mem qs a ha h
theorem c_single_bounds (F : Df K mg "single_bounds" s_single_bounds ["system", "chances"]) (GS : Cl P w K mg base 4 "need_system" RNeedS) (GN : Cl P w K mg base 4 "need_chances" RNeedC) (GP : Cl P w K mg base 5 "path_chances" RPaths) (GC : Cl P w K mg base 5 "cut_chances" RCutCh)
    (GG : Cl P w K mg base 2 "greatest" RGreat) (GT : Cl P w K mg base 4 "turned" RTurn) (m0 : GlT K mg "ZERO" [.int 0, .int 1]) : Cl P w K mg base 6 "single_bounds" RBounds := by
  refine cl_mk F sc_single_bounds (fun ds d ⟨_, _, _, _, _, h, _⟩ => by rw [h]; rfl) ?_
  rintro f cdv A outer s H E hr _ _ ⟨n, ls, ps, S, C, rfl, rfl⟩
  have hp : ∀ q ∈ ls.map (pr ps), W4 q := fun q hq => by
    obtain ⟨l, hl, rfl⟩ := List.mem_map.mp hq
    exact w4_of (pr_bd C (S.lt l hl) (by have := S.len l hl; omega))
  have hc : ∀ q ∈ (cutCh ps ls).map (1 - ·), 0 ≤ q ∧ q ≤ 1 ∧ W4 q := fun q hq => by
    obtain ⟨l, hl, rfl⟩ := List.mem_map.mp hq
    obtain ⟨h1, h2, h3⟩ := cutCh_mem S C l hl
    have := turn01 ⟨h1, h2⟩
    exact ⟨this.1, this.2, w4_of (h3.turn h1 h2)⟩
  refine bx_cons (sx_expr (ex_call GS hr (ax_cons (ex_var 0) ax_nil) ⟨n, ls, S, rfl, rfl⟩)) ?_
  refine bx_cons (sx_expr (ex_call GN hr (ax_cons (ex_var 0) (ax_cons (ex_var 1) ax_nil)) ⟨n, ls, ps, C, by have := S.n8; omega, rfl, rfl⟩)) ?_
  refine bx_cons (sx_set 2 sc_single_bounds.nd (ex_call GG hr (ax_cons (ex_call GP hr (ax_cons (ex_var 0) (ax_cons (ex_var 1) ax_nil)) ⟨n, ls, ps, S, C, rfl, rfl⟩) (ax_cons ((ex_globT m0).is rt_zero) ax_nil)) ⟨ls.map (pr ps), 0, hp, w4_zero, rfl, rfl⟩)) ?_
  refine bx_ret (sx_ret (ex_tup (ax_cons (ex_var 2) (ax_cons (ex_call GT hr (ax_cons (ex_call GG hr (ax_cons ((ex_lc 3 (n := "one") (enc := rt) (ls := cutCh ps ls) (p := fun _ => true) (f := fun q => rt (1 - q)) sc_single_bounds.nd (ix_list (ex_call GC hr (ax_cons (ex_var 0) (ax_cons (ex_var 1) ax_nil)) ⟨n, ls, ps, S, C, rfl, rfl⟩))
    (by unfold cutCh; rw [List.length_map]; have := cuts_len ls; omega) (blkOk_by (by kernel_rfl)) (fun _ _ _ _ _ => pg_name (i := 3) sc_single_bounds.nd rfl (Or.inl rfl)) (fun _ _ _ _ _ _ _ => ifx_nil)
      (fun q hq _ _ _ _ _ _ => ex_call GT hr (ax_cons (ex_var 3) ax_nil) ⟨q, w4_of (cutCh_mem S C q hq).2.2, rfl, rfl⟩)).is (show _ = PyData.list (((cutCh ps ls).map (1 - ·)).map rt) by rw [filt_all, List.map_map]; rfl)) (ax_cons ((ex_globT m0).is rt_zero) ax_nil))
        ⟨(cutCh ps ls).map (1 - ·), 0, fun q hq => (hc q hq).2.2, w4_zero, rfl, rfl⟩) ax_nil) ⟨_, fmx_mem w4_zero fun q hq => (hc q hq).2.2, rfl, rfl⟩) ax_nil))))
end
end Fw
/-! Faultworks, part U: the law's own defs that only reckon. -/
namespace Fw
open PySem PySem.Spec PyProof.Rows L2 FM
/-- all states of n parts -/
def st : Nat → List (List Nat)
  | 0 => [[]]
  | n + 1 => (st n).map (· ++ [0]) ++ (st n).map (· ++ [1])
theorem st_len : ∀ n, (st n).length = 2 ^ n
  | 0 => rfl
  | n + 1 => by
    show ((st n).map (· ++ [0]) ++ (st n).map (· ++ [1])).length = _
    rw [List.length_append, List.length_map, List.length_map, st_len n, Nat.pow_succ]
    omega
theorem st_mem : ∀ {n : Nat} {s : List Nat}, s ∈ st n ↔ s.length = n ∧ ∀ k ∈ s, k = 0 ∨ k = 1
  | 0, s => by
    constructor
    · intro h
      rw [List.mem_singleton.mp h]
      exact ⟨rfl, fun k hk => by cases hk⟩
    · intro h
      exact List.mem_singleton.mpr (List.eq_nil_of_length_eq_zero h.1)
  | n + 1, s => by
    show s ∈ (st n).map (· ++ [0]) ++ (st n).map (· ++ [1]) ↔ _
    rw [List.mem_append, List.mem_map, List.mem_map]
    constructor
    · rintro (⟨t, h, rfl⟩ | ⟨t, h, rfl⟩)
      · obtain ⟨h1, h2⟩ := st_mem.mp h
        refine ⟨by rw [List.length_append, h1]; rfl, fun k hk => ?_⟩
        rcases List.mem_append.mp hk with hk | hk
        · exact h2 k hk
        · exact .inl (List.mem_singleton.mp hk)
      · obtain ⟨h1, h2⟩ := st_mem.mp h
        refine ⟨by rw [List.length_append, h1]; rfl, fun k hk => ?_⟩
        rcases List.mem_append.mp hk with hk | hk
        · exact h2 k hk
        · exact .inr (List.mem_singleton.mp hk)
    · rintro ⟨h1, h2⟩
      have hne : s ≠ [] := fun z => by rw [z] at h1; cases h1
      have e := List.dropLast_concat_getLast hne
      have hm : s.dropLast ∈ st n := st_mem.mpr ⟨by rw [List.length_dropLast, h1]; rfl, fun k hk => h2 k (List.dropLast_subset _ hk)⟩
      rcases h2 _ (List.getLast_mem hne) with h | h
      · exact .inl ⟨_, hm, by rw [h] at e; exact e⟩
      · exact .inr ⟨_, hm, by rw [h] at e; exact e⟩
theorem st_le {n : Nat} (h : n ≤ 6) : (st n).length ≤ 64 := by
  rw [st_len]
  exact Nat.le_trans (Nat.pow_le_pow_right (by decide) h) (by decide)
/-- does this path stand; does the system work -/
def ups (s l : List Nat) : Bool := (l.filter fun k => decide (s.getD k 0 = 0)).isEmpty
def wk (ls : List (List Nat)) (s : List Nat) : Bool := !(ls.filter (ups s)).isEmpty
theorem ups_iff {s l : List Nat} : ups s l = true ↔ ∀ k ∈ l, s.getD k 0 ≠ 0 := by
  unfold ups
  rw [List.isEmpty_iff, List.filter_eq_nil_iff]
  exact ⟨fun h k hk z => h k hk (decide_eq_true z), fun h k hk z => h k hk (of_decide_eq_true z)⟩
theorem wk_iff {ls : List (List Nat)} {s : List Nat} : wk ls s = true ↔ ∃ l ∈ ls, ∀ k ∈ l, s.getD k 0 ≠ 0 := by
  unfold wk
  constructor
  · intro h
    cases e : ls.filter (ups s) with
    | nil => rw [e] at h; cases h
    | cons l r =>
      have hm : l ∈ ls.filter (ups s) := by rw [e]; exact List.mem_cons_self
      obtain ⟨h1, h2⟩ := List.mem_filter.mp hm
      exact ⟨l, h1, ups_iff.mp h2⟩
  · rintro ⟨l, h1, h2⟩
    cases e : ls.filter (ups s) with
    | nil =>
      have hm : l ∈ ls.filter (ups s) := List.mem_filter.mpr ⟨h1, ups_iff.mpr h2⟩
      rw [e] at hm; cases hm
    | cons l r => rfl
/-- the weight of a state -/
def wtk (ps : List Rat) (s : List Nat) (k : Nat) : Rat := if s.getD k 0 = 1 then ps.getD k 0 else 1 - ps.getD k 0
def wt (ps : List Rat) (s : List Nat) : Rat := mulAll ((List.range s.length).map (wtk ps s))
def totOf (ls : List (List Nat)) (ps : List Rat) (acc : Rat) (s : List Nat) : Rat := if wk ls s = true then acc + wt ps s else acc
theorem inz_app (a b : List Nat) : inz a ++ inz b = inz (a ++ b) := by unfold inz; rw [List.map_append]
theorem s_get {s : List Nat} {k : Nat} (h : k < s.length) : (inz s)[k]? = some (.int ((s.getD k 0 : Nat) : Int)) := by
  refine ints_get ?_
  rw [List.getD_eq_getElem?_getD, List.getElem?_eq_getElem h]
  rfl
section
variable {P : Program} {w : World} {K : PySem.W.Frag} {mg : Str → Option Value} {base : Heap}
theorem c_lproduct (F : Df K mg "_law_product" s_l_product ["_law_values"]) (G : Cl P w K mg base 3 "_law_times" (RBin (· * ·))) : Cl P w K mg base 4 "_law_product" RProd := by
  refine cl_mk F sc_l_product (fun ds d ⟨_, _, _, _, _, h, _⟩ => by rw [h]; rfl) ?_
  rintro f cdv A outer s H E hr _ _ ⟨qs, b, hq, hb, hbl, rfl, rfl⟩
  refine bx_cons (sx_set 1 sc_l_product.nd ((ex_tup (ax_cons ex_int (ax_cons ex_int ax_nil))).is rt_one)) ?_
  refine bx_cons ((sx_for 2 (ix_list (ex_var 0)) (for_fold (s := 1) (i := 2) (enc := rt) (st := rt) (g := (· * ·)) [some (.list (qs.map rt)), none, none] 1 qs fun done q rest e => ⟨_, bx_cons (sx_set 1 sc_l_product.nd
    (ex_call G hr (ax_cons (ex_var 1) (ax_cons (ex_var 2) ax_nil)) ⟨done.foldl (· * ·) 1, q, part_w4 hq hbl e, Bd.mono (hq q (by rw [e]; exact List.mem_append_right _ List.mem_cons_self)) hb, rfl, rfl⟩)) bx_nil, Le.same (Le.same (Le.drop Le.nil))⟩)
    (pg_name (i := 2) sc_l_product.nd rfl (Or.inl rfl))).le (Le.same (Le.same (Le.same Le.nil)))) ?_
  exact bx_ret (sx_ret (ex_var 1))
def RStates (ds : List PyData) (d : PyData) : Prop := ∃ n : Nat, n ≤ 6 ∧ ds = [.int (n : Int)] ∧ d = .list ((st n).map nd)
theorem st_fold : ∀ l : List Nat, l.foldl (fun (L : List (List Nat)) (_ : Nat) => L.map (· ++ [0]) ++ L.map (· ++ [1])) [[]] = st l.length := fun l => by
  have main : ∀ (l : List Nat) (m : Nat), l.foldl (fun (L : List (List Nat)) (_ : Nat) => L.map (· ++ [0]) ++ L.map (· ++ [1])) (st m) = st (m + l.length) := by
    intro l
    induction l with
    | nil => intro m; rfl
    | cons x l ih =>
      intro m
      rw [List.foldl_cons, List.length_cons, ← Nat.add_assoc, Nat.add_right_comm]
      exact ih (m + 1)
  have := main l 0
  rwa [Nat.zero_add] at this
theorem c_lstates (F : Df K mg "_law_states" s_l_states ["_law_many"]) (M : Bi mg) : Cl P w K mg base 1 "_law_states" RStates := by
  refine cl_mk F sc_l_states (fun ds d ⟨_, _, h, _⟩ => by rw [h]; rfl) ?_
  rintro f cdv A outer s H E hr _ _ ⟨n, hn, rfl, rfl⟩
  refine bx_cons (sx_set 1 sc_l_states.nd ((ex_lst (ax_cons (ex_tup ax_nil) ax_nil)).is (show _ = PyData.list ((st 0).map nd) from rfl))) ?_
  refine bx_cons ((sx_for 2 (ix_range M.rng (ex_var 0) (by omega)) (for_fold (s := 1) (i := 2) (enc := iE) (st := fun L => PyData.list (L.map nd)) (g := fun (L : List (List Nat)) (_ : Nat) => L.map (· ++ [0]) ++ L.map (· ++ [1])) [some (.int (n : Int)), none, none, none] [[]] (List.range n) fun done q rest e => ?_)
    (pg_name (i := 2) sc_l_states.nd rfl (Or.inl rfl))).le (Le.same (Le.same (Le.same (Le.same Le.nil))))) ?_
  · rw [st_fold]
    have hd : done.length < n := by
      have := congrArg List.length e
      rw [List.length_range, List.length_append, List.length_cons] at this
      omega
    have hl := st_le (n := done.length) (by omega)
    have cut : ∀ b : Nat, b = 0 ∨ b = 1 → ∀ t ∈ st done.length, t.length ≤ 6 := fun b _ t ht => by rw [(st_mem.mp ht).1]; omega
    refine ⟨_, bx_cons (sx_set 1 sc_l_states.nd ((ex_catL ?_ (ex_lc 3 (n := "_law_state") (enc := nd) (ls := st done.length) (p := fun _ => true) (f := fun t => nd (t ++ [0])) sc_l_states.nd (ix_list (ex_var 1)) (by omega) (blkOk_by (by kernel_rfl))
        (fun _ _ _ _ _ => pg_name (i := 3) sc_l_states.nd rfl (Or.inl rfl)) (fun _ _ _ _ _ _ _ => ifx_nil) (fun t ht _ _ _ _ _ _ => (ex_catT (by rw [ints_len]; have := cut 0 (.inl rfl) t ht; show t.length + 1 ≤ _; omega) (ex_var 3) (ex_tup (ax_cons ex_int ax_nil))).is (congrArg PyData.tuple (inz_app t [0]))))
        (ex_lc 3 (n := "_law_state") (enc := nd) (ls := st done.length) (p := fun _ => true) (f := fun t => nd (t ++ [1])) sc_l_states.nd (ix_list (ex_var 1)) (by omega) (blkOk_by (by kernel_rfl))
        (fun _ _ _ _ _ => pg_name (i := 3) sc_l_states.nd rfl (Or.inl rfl)) (fun _ _ _ _ _ _ _ => ifx_nil) (fun t ht _ _ _ _ _ _ => (ex_catT (by rw [ints_len]; have := cut 0 (.inl rfl) t ht; show t.length + 1 ≤ _; omega) (ex_var 3) (ex_tup (ax_cons ex_int ax_nil))).is (congrArg PyData.tuple (inz_app t [1]))))).is
        (show _ = PyData.list (((st done.length).map (· ++ [0]) ++ (st done.length).map (· ++ [1])).map nd) by rw [filt_all, List.map_append, List.map_map, List.map_map]; rfl))) bx_nil, Le.same (Le.same (Le.drop (Le.same Le.nil)))⟩
    rw [filt_all, List.length_map, List.length_map]
    omega
  · exact bx_ret (sx_ret ((ex_var 1).is (by rw [st_fold, List.length_range])))
def RWorks (ds : List PyData) (d : PyData) : Prop := ∃ (n : Nat) (ls : List (List Nat)) (s : List Nat), SysOk n ls ∧ n ≤ s.length ∧ ds = [sysD n ls, nd s] ∧ d = .bool (wk ls s)
theorem c_lworks (F : Df K mg "_law_works" s_l_works ["_law_system_here", "_law_state"]) : Cl P w K mg base 1 "_law_works" RWorks := by
  refine cl_mk F sc_l_works (fun ds d ⟨_, _, _, _, _, h, _⟩ => by rw [h]; rfl) ?_
  rintro f cdv A outer s H E hr _ _ ⟨n, ls, t, S, hn, rfl, rfl⟩
  have sh : ∀ q : List Nat → Bool, SeqAt.shaped (.list ((ls.filter q).map nd)) = true := fun q => sh_map (n := 1) fun b _ => sh_nd b
  refine bx_ret (sx_ret ((ex_ne hr (sh (ups t)) (sh_list (n := 0) (fun d hd => by cases hd) |>.ok (by decide)) (ex_lc 2 (n := "_law_path") (enc := nd) (ls := ls) (p := ups t) (f := nd) sc_l_works.nd (ix_tup (ex_ixT (i := 1) rfl (ex_var 0) ex_int)) (by have := S.few; omega) (blkOk_by (by kernel_rfl))
    (fun _ _ _ _ _ => pg_name (i := 2) sc_l_works.nd rfl (Or.inl rfl)) (fun l hl _ _ _ _ _ => ifx_one ((tx_eqNil hr (sh_map (n := 0) fun b _ => sh_int _) (ex_lc 3 (n := "_law_k") (enc := iE) (ls := l) (p := fun k => decide (t.getD k 0 = 0)) (f := iE) sc_l_works.nd (ix_tup (ex_var 2)) (by have := S.len l hl; omega) (blkOk_by (by kernel_rfl))
      (fun _ _ _ _ _ => pg_name (i := 3) sc_l_works.nd rfl (Or.inl rfl)) (fun k hk _ _ _ _ _ => ifx_one ((tx_eq hr (shaped_int _) (shaped_int _) (ex_ixT (s_get (Nat.lt_of_lt_of_le (S.lt l hl k hk) hn)) (ex_var 1) (ex_var 3)) ex_int).is (by rw [eqv_int]; exact decide_eq_decide.mpr (by omega)))) (fun k hk _ _ _ _ _ _ => ex_var 3)) (ex_lst ax_nil)).is (by unfold ups; rw [List.isEmpty_map])))
      (fun l hl _ _ _ _ _ _ => ex_var 2)) (ex_lst ax_nil)).is (by rw [eqv_nil, List.isEmpty_map]; rfl)))
def RUp (ds : List PyData) (d : PyData) : Prop := ∃ (s : List Nat) (k : Nat), k < s.length ∧ s.length ≤ 100 ∧ ds = [nd s, .int (k : Int), .int 1] ∧ d = nd (s.set k 1)
theorem c_lup (F : Df K mg "_law_up" s_l_up ["_law_state", "_law_k", "_law_value"]) : Cl P w K mg base 1 "_law_up" RUp := by
  refine cl_mk F sc_l_up (fun ds d ⟨_, _, _, _, h, _⟩ => by rw [h]; rfl) ?_
  rintro f cdv A outer s H E hr _ _ ⟨t, k, hk, ht, rfl, rfl⟩
  have hl := ints_len t
  refine bx_ret (sx_ret ((ex_catT ?_ (ex_catT ?_ (ex_take (k := k) ?_ (ex_var 0) (ex_var 1)) (ex_tup (ax_cons (ex_var 2) ax_nil))) (ex_drop (k := k + 1) ?_ (ex_var 0) ((ex_add (ex_var 1) ex_int).is rfl))).is ?_))
  · rw [List.length_append, List.length_take, List.length_drop, hl]; show min k t.length + 1 + (t.length - (k + 1)) ≤ _; omega
  · rw [List.length_take, hl]; show min k t.length + 1 ≤ _; omega
  · omega
  · omega
  · unfold nd
    rw [List.set_eq_take_append_cons_drop, if_pos hk]
    unfold inz
    rw [List.map_append, List.map_cons, List.map_take, List.map_drop, List.append_assoc]
    rfl
def RWeight (ds : List PyData) (d : PyData) : Prop := ∃ (n : Nat) (ps : List Rat) (s : List Nat), ChOk n ps ∧ s.length = n ∧ n ≤ 6 ∧ ds = [chD ps, nd s] ∧ d = rt (wt ps s)
theorem wtk_bd {n : Nat} {ps : List Rat} {s : List Nat} (C : ChOk n ps) {k : Nat} (hk : k < n) : Bd 4 (wtk ps s k) := by
  unfold wtk
  split
  · exact (getD_bd C hk).2.1
  · exact turn_bd C hk
theorem foldl_mul {β : Type} (f : β → Rat) : ∀ (l : List β) (a : Rat), l.foldl (fun acc k => acc * f k) a = (l.map f).foldl (· * ·) a
  | [], _ => rfl
  | x :: l, a => by rw [List.foldl_cons, List.map_cons, List.foldl_cons]; exact foldl_mul f l _
theorem c_lweight (F : Df K mg "_law_weight" s_l_weight ["_law_chances_here", "_law_state"]) (M : Bi mg) (G : Cl P w K mg base 3 "_law_times" (RBin (· * ·))) : Cl P w K mg base 4 "_law_weight" RWeight := by
  refine cl_mk F sc_l_weight (fun ds d ⟨_, _, _, _, _, _, h, _⟩ => by rw [h]; rfl) ?_
  rintro f cdv A outer s H E hr _ _ ⟨n, ps, t, C, hs, hn, rfl, rfl⟩
  refine bx_cons (sx_set 2 sc_l_weight.nd ((ex_tup (ax_cons ex_int (ax_cons ex_int ax_nil))).is rt_one)) ?_
  refine bx_cons ((sx_for 3 (ix_range M.rng ((ex_lenT M.len (ex_var 1)).is (congrArg (fun (z : Nat) => PyData.int (z : Int)) ((ints_len t).trans hs))) (by omega)) (for_fold (s := 2) (i := 3) (enc := iE) (st := rt) (g := fun acc k => acc * wtk ps t k) [some (chD ps), some (nd t), none, none, none, none] 1 (List.range n) fun done k rest e => ?_)
    (pg_name (i := 3) sc_l_weight.nd rfl (Or.inl rfl))).le (Le.same (Le.same (Le.same (Le.same (Le.same (Le.same Le.nil))))))) ?_
  · have hk : k < n := by
      have : k ∈ List.range n := by rw [e]; exact List.mem_append_right _ List.mem_cons_self
      exact List.mem_range.mp this
    have hd : done.length < n := by
      have := congrArg List.length e
      rw [List.length_range, List.length_append, List.length_cons] at this
      omega
    have hdm : ∀ j ∈ done, j < n := fun j hj => by
      have : j ∈ List.range n := by rw [e]; exact List.mem_append_left _ hj
      exact List.mem_range.mp this
    have hw : W4 (done.foldl (fun acc k => acc * wtk ps t k) 1) := by
      rw [foldl_mul]
      refine Bd.mono (mulAll_bd (b := 4) fun q hq => ?_) (by rw [List.length_map]; omega)
      obtain ⟨j, hj, rfl⟩ := List.mem_map.mp hq
      exact wtk_bd C (hdm j hj)
    refine ⟨_, bx_cons (sx_two 4 5 sc_l_weight.nd (ex_ixT (rt_get (getD_bd C hk).1) (ex_var 0) (ex_var 3))) (bx_cons (sx_set 2 sc_l_weight.nd (ex_call G hr (ax_cons (ex_var 2) (ax_cons
      (ex_if (u := decide (t.getD k 0 = 1)) (d := rt (wtk ps t k)) ((tx_eq hr (shaped_int _) (shaped_int _) (ex_ixT (s_get (s := t) (k := k) (by omega)) (ex_var 1) (ex_var 3)) ex_int).is (by rw [eqv_int]; exact decide_eq_decide.mpr (by omega)))
        (fun h => (ex_tup (ax_cons (ex_var 4) (ax_cons (ex_var 5) ax_nil))).is ?_) (fun h => (ex_tup (ax_cons (ex_sub (ex_var 5) (ex_var 4)) (ax_cons (ex_var 5) ax_nil))).is ?_)) ax_nil)) ⟨_, _, hw, w4_of (wtk_bd C hk), rfl, rfl⟩)) bx_nil), Le.same (Le.same (Le.same (Le.drop (Le.drop (Le.drop Le.nil)))))⟩
    · unfold wtk; rw [if_pos (of_decide_eq_true h)]
    · unfold wtk; rw [if_neg (of_decide_eq_false h)]
      unfold rt
      rw [(den_sub_one _).1, (den_sub_one _).2]
  · refine bx_ret (sx_ret ((ex_var 2).is ?_))
    rw [foldl_mul]
    unfold wt mulAll
    rw [hs]
def RTotal (ds : List PyData) (d : PyData) : Prop := ∃ (n : Nat) (ls : List (List Nat)) (ps : List Rat), SysOk n ls ∧ ChOk n ps ∧ ds = [sysD n ls, chD ps] ∧ d = rt ((st n).foldl (totOf ls ps) 0)
theorem wt_bd {n : Nat} {ps : List Rat} {s : List Nat} (C : ChOk n ps) (hs : s.length = n) (hn : n ≤ 6) : Bd 25 (wt ps s) := Bd.mono (mulAll_bd (b := 4) fun q hq => by
  obtain ⟨j, hj, rfl⟩ := List.mem_map.mp hq
  exact wtk_bd C (by rw [← hs]; exact List.mem_range.mp hj)) (by rw [List.length_map, List.length_range]; omega)
theorem tot_bd {n : Nat} {ls : List (List Nat)} {ps : List Rat} (C : ChOk n ps) (hn : n ≤ 6) : ∀ (l : List (List Nat)) (a : Rat) (b : Nat), Bd b a → (∀ s ∈ l, s.length = n) → Bd (b + 26 * l.length) (l.foldl (totOf ls ps) a)
  | [], a, b, h, _ => h
  | s :: l, a, b, h, hl => by
    have h1 : Bd (b + 26) (totOf ls ps a s) := by
      unfold totOf
      split
      · exact Bd.mono (h.add (wt_bd C (hl s List.mem_cons_self) hn)) (by omega)
      · exact Bd.mono h (by omega)
    exact Bd.mono (tot_bd C hn l _ _ h1 fun t ht => hl t (List.mem_cons_of_mem _ ht)) (by rw [List.length_cons]; omega)
theorem c_lchance (F : Df K mg "_law_chance" s_l_chance ["_law_system_here", "_law_chances_here"]) (GS : Cl P w K mg base 1 "_law_states" RStates) (GW : Cl P w K mg base 1 "_law_works" RWorks) (GP : Cl P w K mg base 3 "_law_plus" (RBin (· + ·))) (GT : Cl P w K mg base 4 "_law_weight" RWeight) :
    Cl P w K mg base 5 "_law_chance" RTotal := by
  refine cl_mk F sc_l_chance (fun ds d ⟨_, _, _, _, _, h, _⟩ => by rw [h]; rfl) ?_
  rintro f cdv A outer s H E hr _ _ ⟨n, ls, ps, S, C, rfl, rfl⟩
  refine bx_cons (sx_set 2 sc_l_chance.nd ((ex_tup (ax_cons ex_int (ax_cons ex_int ax_nil))).is rt_zero)) ?_
  refine bx_cons ((sx_for 3 (ix_list (ex_call GS hr (ax_cons (ex_ixT (i := 0) rfl (ex_var 0) ex_int) ax_nil) ⟨n, S.n8, rfl, rfl⟩)) (for_fold (s := 2) (i := 3) (enc := nd) (st := rt) (g := totOf ls ps) [some (sysD n ls), some (chD ps), none, none] 0 (st n) fun done t rest e => ?_)
    (pg_name (i := 3) sc_l_chance.nd rfl (Or.inl rfl))).le (Le.same (Le.same (Le.same (Le.same Le.nil))))) ?_
  · have ht : t ∈ st n := by rw [e]; exact List.mem_append_right _ List.mem_cons_self
    have htl := (st_mem.mp ht).1
    have hdl : done.length ≤ 64 := by
      have := congrArg List.length e
      have h2 := st_le S.n8
      rw [List.length_append, List.length_cons] at this
      omega
    have hw : W4 (done.foldl (totOf ls ps) 0) := Bd.mono (tot_bd C S.n8 done 0 1 bd_zero fun s hs => (st_mem.mp (by rw [e]; exact List.mem_append_left _ hs)).1) (by omega)
    cases hwk : wk ls t with
    | true =>
      refine ⟨_, bx_cons (sx_ifT (tx_val ((ex_call GW hr (ax_cons (ex_var 0) (ax_cons (ex_var 3) ax_nil)) ⟨n, ls, t, S, by omega, rfl, rfl⟩).is (by rw [hwk]))) (bx_cons (sx_set 2 sc_l_chance.nd ((ex_call GP hr (ax_cons (ex_var 2) (ax_cons (ex_call GT hr (ax_cons (ex_var 1) (ax_cons (ex_var 3) ax_nil)) ⟨n, ps, t, C, htl, S.n8, rfl, rfl⟩) ax_nil)) ⟨done.foldl (totOf ls ps) 0, wt ps t, hw, w4_of (wt_bd C htl S.n8), rfl, rfl⟩).is
        (show _ = rt (totOf ls ps (done.foldl (totOf ls ps) 0) t) by unfold totOf; rw [if_pos hwk]))) bx_nil)) bx_nil, Le.same (Le.same (Le.same (Le.drop Le.nil)))⟩
    | false =>
      have e2 : totOf ls ps (done.foldl (totOf ls ps) 0) t = done.foldl (totOf ls ps) 0 := by
        show (if wk ls t = true then _ else _) = _
        rw [if_neg (by rw [hwk]; exact Bool.false_ne_true)]
      rw [e2]
      exact ⟨_, bx_cons (sx_ifF (tx_val ((ex_call GW hr (ax_cons (ex_var 0) (ax_cons (ex_var 3) ax_nil)) ⟨n, ls, t, S, by omega, rfl, rfl⟩).is (by rw [hwk]))) bx_nil) bx_nil, Le.same (Le.same (Le.same (Le.drop Le.nil)))⟩
  · exact bx_ret (sx_ret (ex_var 2))
end
end Fw
/-! Faultworks, part V: code that turns one list in place. -/
namespace Fw
open PySem PySem.Spec PyProof.Rows L2 FM
section
variable {K : PySem.W.Frag} {H H' : Hp} {B B' : Ban} {r : Addr} {l : List V}
theorem sqt_but {t : Addr} {xs : List V} (hr : H r = some (.lst l)) (b : But r H H') (h : SqT K H t xs) : SqT K H' t xs := by
  rcases h with (h | ⟨u, h⟩) | h
  · exact .inl (.inl (b _ _ (ne_of h hr (by intro z; cases z)) h))
  · exact .inl (.inr ⟨u, b _ _ (ne_of h hr (by intro z; cases z)) h⟩)
  · exact .inr h
mutual
theorem at_be (hr : H r = some (.lst l)) (hB : B r) (b : But r H H') (x : Ext H B B') : ∀ (d : PyData) (v : V), At K H B v d → At K H' B' v d
  | .none, _, h => by cases h; exact .non
  | .bool _, _, h => by cases h; exact .bl _
  | .int _, _, h => by cases h; exact .int _
  | .str _, _, h => by cases h
  | .dict _, _, h => by cases h
  | .list ds, _, h => by
    cases h with
    | lst h nb g => exact .lst (b _ _ (fun q => nb (by rw [q]; exact hB)) h) (fun z => (x _ z).elim nb fun q => by rw [h] at q; cases q) (atAll_be hr hB b x ds _ g)
  | .tuple ds, _, h => by
    cases h with
    | tup h g => exact .tup (sqt_but hr b h) (atAll_be hr hB b x ds _ g)
theorem atAll_be (hr : H r = some (.lst l)) (hB : B r) (b : But r H H') (x : Ext H B B') : ∀ (ds : List PyData) (vs : List V), AtAll K H B vs ds → AtAll K H' B' vs ds
  | [], _, h => by cases h; exact .nil
  | d :: ds, _, h => by
    cases h with
    | cons h g => exact .cons (at_be hr hB b x d _ h) (atAll_be hr hB b x ds _ g)
end
theorem Env.but {σ : L2.St} {ρ : DEnv} (h : Env K H B σ ρ) (hr : H r = some (.lst l)) (hB : B r) (b : But r H H') (hr' : H' r ≠ none) : Env K H' B σ ρ := by
  refine ⟨fun a ha => ?_, h.len, fun i d q => ?_⟩
  · by_cases e : a = r
    · rw [e]; exact hr'
    · intro z
      cases q : H a with
      | none => exact h.dom a ha q
      | some o => rw [b _ _ e q] at z; cases z
  · obtain ⟨v, a, c⟩ := h.get i d q
    exact ⟨v, a, at_be hr hB b (Ext.refl _ _) d v c⟩
end
/-- the list that counts how the script is read -/
def Row (H : Hp) (r s : Addr) : Prop := ∃ a b c : Int, H r = some (.lst [.ref s, .int a, .int b, .int c]) ∧ 0 ≤ a ∧ 0 ≤ b ∧ b < 2147483647
def Scr (K : PySem.W.Frag) (H : Hp) (r s : Addr) : Prop := ∃ ns : List Int, ∀ H', But r H H' → SqL K H' s (ns.map V.int)
structure RS (K : PySem.W.Frag) (H : Hp) (B : Ban) (σ : L2.St) (j : Nat) (r s : Addr) : Prop where
  b : B r
  at' : σ[j]? = some (some (.ref r))
  row : Row H r s
  scr : Scr K H r s
section
variable {K : PySem.W.Frag} {H H' : Hp} {B B' : Ban} {r s : Addr} {σ σ' : L2.St} {j : Nat} {ρ : DEnv}
theorem Scr.but (h : Scr K H r s) (b : But r H H') : Scr K H' r s := by
  obtain ⟨ns, h⟩ := h
  exact ⟨ns, fun H2 b2 => h H2 (b.trans b2)⟩
theorem Row.same (h : Row H r s) (e : Same H H') : Row H' r s := by
  obtain ⟨a, b, c, h1, h2⟩ := h
  exact ⟨a, b, c, e _ _ h1, h2⟩
theorem RS.step (h : RS K H B σ j r s) (b : But r H H') (w : Row H' r s) : RS K H' B σ j r s := ⟨h.b, h.at', w, h.scr.but b⟩
theorem RS.same (h : RS K H B σ j r s) (e : Same H H') : RS K H' B σ j r s := h.step (same_but e) (h.row.same e)
theorem RS.set (h : RS K H B σ j r s) {i : Nat} (hi : i ≠ j) (v : Option V) : RS K H B (σ.set i v) j r s := ⟨h.b, by rw [List.getElem?_set_ne hi]; exact h.at', h.row, h.scr⟩
theorem RS.env (h : RS K H B σ j r s) (E : Env K H B σ ρ) (b : But r H H') (w : Row H' r s) : Env K H' B σ ρ := by
  obtain ⟨_, _, _, h1, _⟩ := h.row
  obtain ⟨_, _, _, h2, _⟩ := w
  exact E.but h1 h.b b (by rw [h2]; exact fun z => nomatch z)
end
/-! ### what code gives that may turn the row -/
def RX (X : Cx) (j : Nat) (e : Expr) (ρ : DEnv) (S : PyData → Prop) : Prop := ∀ (σ : L2.St) (H : Hp) (B : Ban) (r s : Addr) (Q : VK), RS X.K H B σ j r s → Env X.K H B σ ρ →
  (∀ v H' d, But r H H' → Row H' r s → S d → At X.K H' B v d → Q v H') → wE X e σ H Q
def RT (X : Cx) (j : Nat) (e : Expr) (ρ : DEnv) : Prop := ∀ (σ : L2.St) (H : Hp) (B : Ban) (r s : Addr) (Q : Bool → Hp → Prop), RS X.K H B σ j r s → Env X.K H B σ ρ →
  (∀ u H', But r H H' → Row H' r s → Q u H') → wT X e σ H Q
def RB (X : Cx) (j : Nat) (sts : List Stmt) (ρ : DEnv) (S : PyData → Prop) : Prop := ∀ (σ : L2.St) (H : Hp) (B : Ban) (r s : Addr) (D : Ends), RS X.K H B σ j r s → Env X.K H B σ ρ →
  (∀ v H' d, But r H H' → Row H' r s → S d → At X.K H' B v d → D.rt v H') → wSs X sts D σ H
section
variable {X : Cx} {a b c e : Expr} {es : List Expr} {st : Stmt} {sts : List Stmt} {ρ ρ1 ρ2 : DEnv} {x y z d : PyData} {ds : List PyData} {pos p : Pos} {u : Bool} {S S' : PyData → Prop} {j : Nat}
theorem rx_of (h : EX X e ρ d) : RX X j e ρ (· = d) := fun σ H B r s Q R E q => h σ H B Q E fun v H1 s1 a1 => q v H1 d (same_but s1) (R.row.same s1) rfl a1
theorem RX.imp (h : RX X j e ρ S) (g : ∀ d, S d → S' d) : RX X j e ρ S' := fun σ H B r s Q R E q => h σ H B r s Q R E fun v H1 d b w hs a => q v H1 d b w (g d hs) a
theorem rt_of (h : TX X e ρ u) : RT X j e ρ := fun σ H B r s Q R E q => h σ H B Q E fun H1 s1 => q u H1 (same_but s1) (R.row.same s1)
theorem rb_set (i : Nat) {n : Str} {pos' : Pos} (nd : X.N.Nodup) (hij : i ≠ j) (he : RX X j e ρ S) (g : ∀ d, S d → RB X j sts (ρ.set i (some d)) S') (hi : X.N[i]? = some n := by rfl) (hx : Loc X.env.scope n := by first | exact Or.inl rfl | exact Or.inr rfl) (hs : swapsWith e (some (.Name n pos')) pos.line X.env = pure false := by rfl)
    (hf : X.fn n = true ∨ X.env.scope.names.lookup n = some .local := by first | exact .inl rfl | exact .inr rfl | assumption) : RB X j (.Assign [.Name n pos'] e pos :: sts) ρ S' := fun σ H B r s D R E q =>
  PSs.w (pss_cons (ps_set nd hi hx pe_w hs hf) pss_w) (he σ H B r s _ R E fun v H1 d b1 w1 hs a1 => g d hs _ H1 B r s D ((R.step b1 w1).set hij _) ((R.env E b1 w1).set i a1) fun v' H2 d' b2 w2 => q v' H2 d' (b1.trans b2) w2)
theorem rb_ret (he : RX X j e ρ S) : RB X j (.Return (some e) pos :: sts) ρ S := fun σ H B r s D R E q =>
  PSs.w (pss_cons (ps_ret pe_w) pss_never) (he σ H B r s _ R E q)
theorem rx_op {op : Operator} {k : R2} {T : PyData → Prop} (ho : OpR X (binaryOp op) k) (hr : ∀ d, S d → ∃ z, T z ∧ RD X.K k x d z) (ha : EX X a ρ x) (hx : ∀ (H H' : Hp) (B : Ban) (v : V), At X.K H B v x → At X.K H' B v x) (hb : RX X j b ρ S) : RX X j (.BinOp a op b pos) ρ T := fun σ H B r s Q R E q =>
  PE.w (pe_op ho pe_w pe_w) (ha σ H B _ E fun v H1 s1 a1 => hb σ H1 B r s _ (R.same s1) (E.mono s1) fun w H2 d b2 w2 hs a2 => by
    obtain ⟨z, hz, hr⟩ := hr d hs
    have b12 := (same_but s1).trans b2
    exact hr _ _ _ B _ (R.env E b12 w2).dom (hx _ _ _ _ a1) a2 fun z' H3 s3 a3 => q z' H3 z (b12.trans (same_but s3)) (w2.same s3) hz a3)
/-- e == 0 where e turns the row -/
theorem rt_eq0 {i : Int} {k : Nat} {jj} {pos2 : Pos} (hr : Room k X.A) (ha : RX X j a ρ fun d => ∃ m : Int, d = .int m) (hm : behindInMarks .Eq (.Constant (.int i) jj pos2) = false := by first | exact nomark _ | rfl) : RT X j (.Compare a [.Eq] [.Constant (.int i) jj pos2] pos) ρ := fun σ H B r s Q R E q =>
  PT.w (pt_cmpR (op_eqD hr.units) pe_w pe_int hm) (ha σ H B r s _ R E fun w H2 d b2 w2 ⟨m, e⟩ a2 => by
    subst e
    exact ⟨.int m, .int i, a2.dp, (At.int (K := X.K) (H := H2) (B := B) i).dp, shaped_int _, shaped_int _, _, rfl, q _ H2 b2 w2⟩)
/-- a or e -/
theorem rt_or (ha : TX X a ρ u) (hb : RT X j b ρ) : RT X j (.BoolOp .Or [a, b] pos) ρ := fun σ H B r s Q R E q => by
  cases u with
  | true => exact rt_of (tx_w (wx_orT ha)) σ H B r s Q R E q
  | false =>
    refine PT.w (PW.pt (pw_or pt_w (pw_or1 pt_w))) (ha σ H B _ E fun H1 s1 => ?_)
    exact iteF (hb σ H1 B r s _ (R.same s1) (E.mono s1) fun u' H2 b2 w2 => q u' H2 ((same_but s1).trans b2) w2)
theorem rx_ixL {T : PyData → Prop} (ha : EX X a ρ (.list ds)) (hb : RX X j b ρ fun d => ∃ k : Nat, d = .int (k : Int) ∧ ∃ z, ds[k]? = some z ∧ T z) (hs : PlainIx b := by exact fun _ _ => rfl) : RX X j (.Subscript a b pos) ρ T := fun σ H B r s Q R E q =>
  PE.w (pe_ix L2.ix_list pe_w pe_w hs) (ha σ H B _ E fun v H1 s1 a1 => hb σ H1 B r s _ (R.same s1) (E.mono s1) fun w H2 d b2 w2 ⟨k, e, z, hz, hT⟩ a2 => by
    subst e
    have R1 := R.same s1
    obtain ⟨_, _, _, hr, _⟩ := R1.row
    have a1' := at_be hr R.b b2 (Ext.refl _ _) _ _ a1
    cases a2
    cases a1' with
    | lst h nb g =>
      obtain ⟨w', hw', aw'⟩ := g.get hz
      exact ⟨_, _, _, w', rfl, rfl, .of h, atI_nat hw', q w' H2 z ((same_but s1).trans b2) w2 hT aw'⟩)
theorem rx_tupL (hm : X.mg "tuple" = none) (ha : RX X j a ρ fun d => ∃ ds, d = .list ds ∧ S (.tuple ds)) (he : starEach [a] X.env = (false, eval a X.env) :: starEach [] X.env := by rfl) (hg : Gl X "tuple" := by rfl) : RX X j (.Call (.Name "tuple" p) [a] [] pos) ρ S := fun σ H B r s Q R E q =>
  PE.w (pe_callTy call_tuple_of hg hm (by decide +kernel) (pa_cons pe_w pa_nil he) (by decide) (by decide) he rfl)
    (ha σ H B r s _ R E fun v H1 d b1 w1 ⟨ds, e, hS⟩ a1 => by
      subst e
      cases a1 with
      | @lst t xs _ h2 nb g => exact ⟨t, xs, rfl, .inl ⟨.of h2, fun l hl => q _ _ _ (b1.trans (same_but (same_new hl))) (w1.same (same_new hl)) hS (.tup (.of upd_same) (g.mono (same_new hl)))⟩⟩)
end
/-! ### defs that take the row -/
def spW (K : PySem.W.Frag) (R : List PyData → (PyData → Prop) → Prop) : Sp := fun vs H Q _ => ∃ (B : Ban) (r s : Addr) (ws : List V) (ds : List PyData) (S : PyData → Prop), vs = .ref r :: ws ∧ Dom H B ∧ B r ∧ Row H r s ∧ Scr K H r s ∧ AtAll K H B ws ds ∧ R ds S ∧
  ∀ v H' d, But r H H' → Row H' r s → S d → At K H' B v d → Q v H'
structure RCl (P : Program) (w : World) (K : PySem.W.Frag) (mg : Str → Option Value) (base : Heap) (k : Nat) (n : Str) (R : List PyData → (PyData → Prop) → Prop) : Prop where
  ex : ∃ (f : Addr) (fd : FuncData) (ps : List Str), FnOk P w K mg base CX0 k f fd ps (spW K R) ∧ mg n = some (.ref f) ∧ PySem.W.keepIn K (.ref f) = true ∧ Binds K fd ps []
/-- the names' data when row stands first -/
def startR (N : List Str) (ds : List PyData) : DEnv := none :: (ds.map some ++ List.replicate (N.length - 1 - ds.length) none)
section
variable {P : Program} {w : World} {K : PySem.W.Frag} {mg : Str → Option Value} {base : Heap}
theorem env_startR {K : PySem.W.Frag} {H : Hp} {B : Ban} {N : List Str} {r : Addr} {vs : List V} {ds : List PyData} (hd : Dom H B) (h : AtAll K H B vs ds) : Env K H B (L2.start N (.ref r :: vs)) (startR N ds) := by
  have hl := h.len
  refine ⟨hd, ?_, fun i d q => ?_⟩
  · unfold L2.start startR
    simp only [List.length_append, List.length_map, List.length_replicate, List.length_cons]
    omega
  · unfold startR at q
    cases i with
    | zero => cases q
    | succ i =>
      rw [List.getElem?_cons_succ] at q
      by_cases hi : i < ds.length
      · rw [List.getElem?_append_left (by rw [List.length_map]; exact hi), List.getElem?_map] at q
        have q2 : ds[i]? = some d := by
          rw [List.getElem?_eq_getElem hi] at q ⊢
          exact Option.some.inj q
        obtain ⟨v, hv, av⟩ := h.get q2
        refine ⟨v, ?_, av⟩
        unfold L2.start
        rw [List.map_cons, List.cons_append, List.getElem?_cons_succ, List.getElem?_append_left (by rw [List.length_map, hl]; exact hi), List.getElem?_map, hv]
        rfl
      · rw [List.getElem?_append_right (by rw [List.length_map]; omega), List.getElem?_replicate] at q
        split at q <;> cases q
theorem rcl_mk {n : Str} {st : Stmt} {N ps : List Str} {k : Nat} {R : List PyData → (PyData → Prop) → Prop} (F : Df K mg n st ps) (S : FnScope N ps (defScope st)) (hl : ∀ ds T, R ds T → ds.length + 1 = ps.length)
    (body : ∀ (f : Addr) (cdv : Value) (A : Around) (outer : List PySem.Env) (s : Shared) (H : Hp) (E : XK), Room k (A.deeper (envOfC n (defScope st) s.heap.objs.size f cdv)) → ∀ ds T, R ds T →
      RB (cxOf CX0 P w K mg base N n (defScope st) f cdv A outer s H E).nox 0 (defBody st) (startR N ds) T) : RCl P w K mg base (k + 1) n R := by
  obtain ⟨f, fd, F, hm, b⟩ := F.ex
  refine ⟨f, fd, ps, F.ok S (fun vs H Q E h => ?_) (fun cdv A outer s H vs Q E hr h => ?_), hm, F.kp, b⟩
  · obtain ⟨B, r, s, ws, ds, T, rfl, _, _, _, _, ha, hR, _⟩ := h
    rw [List.length_cons, ha.len, hl ds T hR]
  · obtain ⟨B, r, s', ws, ds, T, rfl, hd, hB, hw, hs, ha, hR, q⟩ := h
    exact ⟨_, pss_w, body f cdv A outer s H E hr ds T hR _ H B r s' _ ⟨hB, rfl, hw, hs⟩ (env_startR hd ha) q⟩
end
section
variable {X : Cx} {a b c e : Expr} {es : List Expr} {ρ ρ1 ρ2 : DEnv} {x y z d : PyData} {ds : List PyData} {pos p p2 : Pos} {u : Bool} {k m j : Nat} {n nr : Str} {S : PyData → Prop}
theorem rx_call {R : List PyData → (PyData → Prop) → Prop} (c : RCl X.prog X.w X.K X.mg X.base k n R) (hr : Room m X.A) (ha : AX X es ρ ds) (h : R ds S) (hk : k ≤ m := by decide) (hg : Gl X n := by rfl) (hN : X.N[j]? = some nr := by rfl) (hv : Vis X.env.scope nr := by first | exact Or.inl rfl | exact Or.inr (Or.inl rfl) | exact Or.inr (Or.inr rfl))
    (hd : (nr == ("__debug__" : Str)) = false := by decide) (hcd : (nr == ("__classdict__" : Str)) = false := by decide)
    (hdb : (n == ("__debug__" : Str)) = false := by decide) (he : starEach (.Name nr p2 :: es) X.env = (false, eval (.Name nr p2) X.env) :: starEach es X.env := by rfl) (hpl : (backTo pos (starEach es X.env)).any (·.1) = false := by rfl) :
    RX X j (.Call (.Name n p) (.Name nr p2 :: es) [] pos) ρ S := fun σ H B r s Q R' E q => by
  obtain ⟨f, fd, ps, F, hm, kp, bb⟩ := c.ex
  refine PE.w (pe_call F (hr.mono hk) hg hm kp bb .nil pass0 (pa_cons (pe_var hN hv hd hcd) pa_w he) hdb he hpl) ⟨.ref r, R'.at', ha σ H B _ E fun vs H1 s1 a1 => ?_⟩
  show spW X.K R ((V.ref r :: vs) ++ []) H1 Q _
  rw [List.append_nil]
  have R1 := R'.same s1
  exact ⟨B, r, s, vs, ds, S, rfl, E.dom.mono s1, R'.b, R1.row, R1.scr, a1, h, fun v H2 d b2 w2 => q v H2 d ((same_but s1).trans b2) w2⟩
/-- a def of plain data, its first argument turning the row -/
theorem rx_call1 {R : List PyData → PyData → Prop} {T : PyData → Prop} (c : Cl X.prog X.w X.K X.mg X.base k n R) (hr : Room m X.A) (ha : RX X j e ρ S) (hb : EX X b ρ x) (h : ∀ d, S d → ∃ z, T z ∧ R [d, x] z) (hx : ∀ (H H' : Hp) (B : Ban) (v : V), At X.K H B v x → At X.K H' B v x) (hk : k ≤ m := by decide) (hg : Gl X n := by rfl)
    (hdb : (n == ("__debug__" : Str)) = false := by decide) (he : starEach [e, b] X.env = (false, eval e X.env) :: starEach [b] X.env := by rfl) (he2 : starEach [b] X.env = (false, eval b X.env) :: starEach [] X.env := by rfl) (hpl : (backTo pos (starEach [b] X.env)).any (·.1) = false := by rfl) :
    RX X j (.Call (.Name n p) [e, b] [] pos) ρ T := fun σ H B r s Q R' E q => by
  obtain ⟨f, fd, ps, F, hm, kp, bb⟩ := c.ex
  refine PE.w (pe_call F (hr.mono hk) hg hm kp bb .nil pass0 (pa_cons pe_w (pa_cons pe_w pa_nil he2) he) hdb he hpl) (ha σ H B r s _ R' E fun v H1 d b1 w1 hS a1 => hb σ H1 B _ (R'.env E b1 w1) fun v2 H2 s2 a2 => ?_)
  obtain ⟨z, hz, hR⟩ := h d hS
  have b12 := b1.trans (same_but s2)
  exact ⟨B, [d, x], z, (R'.env E b12 (w1.same s2)).dom, .cons (a1.mono s2) (.cons a2 .nil), hR, fun v3 H3 s3 a3 => q v3 H3 z (b12.trans (same_but s3)) ((w1.same s2).same s3) hz a3⟩
/-! ### comprehensions that turn the row -/
def ItR (K : PySem.W.Frag) (B : Ban) (r : Addr) (J : It) (ds : List PyData) (H1 : Hp) : Prop := ∀ H2 B', But r H1 H2 → Ext H1 B B' → (∀ i, i < ds.length → J.go i H2) ∧ (∀ i, i = ds.length → J.stop i H2) ∧
  ∀ (i : Nat) (d : PyData) (v : V) (H3 : Hp), ds[i]? = some d → J.yld i H2 v H3 → Same H2 H3 ∧ At K H3 B' v d
def RI (X : Cx) (j : Nat) (tg e : Expr) (ρ : DEnv) (T : List PyData → Prop) : Prop := ∃ wi : TI, PI X tg e wi ∧ ∀ (σ : L2.St) (H : Hp) (B : Ban) (r s : Addr) (R : It → Hp → Prop), RS X.K H B σ j r s → Env X.K H B σ ρ →
  (∀ J H1 ds, But r H H1 → Row H1 r s → T ds → ItR X.K B r J ds H1 → R J H1) → wi σ H R
theorem ri_list {tg : Expr} (h : EX X e ρ (.list ds)) : RI X j tg e ρ (· = ds) := ⟨_, pi_list pe_w, fun σ H B r s R R' E q => h σ H B _ E fun v H1 s1 a1 => by
  cases a1 with
  | @lst t xs _ h1 nb g =>
    have R1 := R'.same s1
    obtain ⟨_, _, _, hr, _⟩ := R1.row
    refine ⟨t, rfl, ⟨xs, .of h1⟩, q _ H1 ds (same_but s1) R1.row rfl fun H2 B' b2 x2 => ?_⟩
    have nt : t ≠ r := fun z => nb (by rw [z]; exact R'.b)
    have h2 : SqL X.K H2 t xs := .of (b2 _ _ nt h1)
    have g2 := atAll_be hr R'.b b2 x2 _ _ g
    refine ⟨fun i hi => ⟨xs, _, h2, List.getElem?_eq_getElem (by rw [g.len]; exact hi)⟩, fun i hi => ⟨xs, h2, by rw [g.len, hi]; exact Nat.le_refl _⟩, fun i d v H3 hd y => ?_⟩
    obtain ⟨rfl, y⟩ := y
    obtain ⟨w, hw, aw⟩ := g2.get hd
    have e1 := y xs h2
    rw [hw] at e1
    cases e1
    exact ⟨Same.refl _, aw⟩⟩
theorem ri_range {tg : Expr} {S : Nat → Prop} (hm : X.mg "range" = none) (h : RX X j a ρ fun d => ∃ n : Nat, d = .int (n : Int) ∧ S n ∧ n ≤ 100000) (hg : Gl X "range" := by rfl) (hs : starEach [a] X.env = [(false, eval a X.env)] := by rfl)
    (hs2 : starEach [a] X.env = (false, eval a X.env) :: starEach [] X.env := by rfl) : RI X j tg (.Call (.Name "range" p) [a] [] pos) ρ (fun ds => ∃ n, S n ∧ n ≤ 100000 ∧ ds = rangeD n) :=
  ⟨_, pi_range1 hg hm (pa_cons pe_w pa_nil hs2) hs, fun σ H B r s R R' E q => h σ H B r s _ R' E fun v H1 d b1 w1 ⟨n, e, hS, hn⟩ a1 => by
    subst e
    cases a1
    refine ⟨(n : Int), rfl, by omega, by omega, ?_⟩
    rw [Int.toNat_natCast]
    refine q _ H1 _ b1 w1 ⟨n, hS, hn, rfl⟩ fun H2 B' b2 _ => ⟨fun i hi => by rw [rangeD_len] at hi; exact hi, fun i hi => by rw [rangeD_len] at hi; exact Nat.le_of_eq hi.symm, fun i d v H3 hd y => ?_⟩
    obtain ⟨rfl, y⟩ := y
    obtain ⟨_, rfl⟩ := rangeD_get hd
    rw [y, Int.zero_add]
    exact ⟨Same.refl _, .int _⟩⟩
def RIf (X : Cx) (j : Nat) (ifs : List Expr) (ρ : DEnv) : Prop := ifs = [] ∨ ∃ c, ifs = [c] ∧ RT X j c ρ
theorem RIf.go {ifs : List Expr} (h : RIf X j ifs ρ) {σ : L2.St} {H : Hp} {B : Ban} {r s : Addr} {Q : Bool → Hp → Prop} (R : RS X.K H B σ j r s) (E : Env X.K H B σ ρ) (q : ∀ u H', But r H H' → Row H' r s → (ifs = [] → u = true) → Q u H') : wIfs X ifs σ H Q := by
  rcases h with rfl | ⟨c, rfl, h⟩
  · exact pts_run pts_nil (q true H (But.refl r H) R.row fun _ => rfl)
  · exact pts_run (pts_one pt_w) (h σ H B r s Q R E fun u H' b w => q u H' b w fun z => nomatch z)
/-- what a comprehension gathers -/
def Got {β : Type} (S : β → PyData → Prop) (all : Prop) (ls : List β) (ds : List PyData) : Prop := ∃ L : List (β × PyData), (L.map (·.1)).Sublist ls ∧ (all → L.map (·.1) = ls) ∧ (∀ p ∈ L, S p.1 p.2) ∧ ds = L.map (·.2)
theorem rlc_read {i : Nat} {elt : Expr} {ifs : List Expr} {scope : Scope} {β : Type} {enc : β → PyData} {T : List β → Prop} {T' : List PyData → Prop} {SB : β → PyData → Prop} {wi : TI} (hij : i ≠ j) (hi : ∀ (σ : L2.St) (H : Hp) (B : Ban) (r s : Addr) (R : It → Hp → Prop), RS X.K H B σ j r s → Env X.K H B σ ρ →
      (∀ J H1 ds, But r H H1 → Row H1 r s → T' ds → ItR X.K B r J ds H1 → R J H1) → wi σ H R) (hT : ∀ ds, T' ds → ∃ ls : List β, ds = ls.map enc ∧ ls.length ≤ 100000 ∧ T ls)
    (ht : ∀ ls, T ls → ∀ d ∈ ls, ∀ (s : Shared) (H : Hp) (C : Addr) (cl : List (Str × Addr)) (fp : List Addr), RIf (X.blk s H scope (compEnvC scope cl C X.env) fp) j ifs (ρ.set i (some (enc d))))
    (he : ∀ ls, T ls → ∀ d ∈ ls, ∀ (s : Shared) (H : Hp) (C : Addr) (cl : List (Str × Addr)) (fp : List Addr), RX (X.blk s H scope (compEnvC scope cl C X.env) fp) j elt (ρ.set i (some (enc d))) (SB d))
    (σ : L2.St) (H : Hp) (B : Ban) (r s : Addr) (Q : VK) (R : RS X.K H B σ j r s) (E : Env X.K H B σ ρ) (q : ∀ v H' d, But r H H' → Row H' r s → (∃ ls ds, T ls ∧ Got SB (ifs = []) ls ds ∧ d = .list ds) → At X.K H' B v d → Q v H') :
    tLc wi (gName i) (fun σ H Q => ∀ (s : Shared) (H' : Hp) (C : Addr) (cl : List (Str × Addr)) (fp : List Addr), wIfs (X.blk s H' scope (compEnvC scope cl C X.env) fp) ifs σ H Q)
      (fun σ H Q => ∀ (s : Shared) (H' : Hp) (C : Addr) (cl : List (Str × Addr)) (fp : List Addr), wE (X.blk s H' scope (compEnvC scope cl C X.env) fp) elt σ H Q) ([(n, i)].map (·.2)) σ H Q := by
  refine hi σ H B r s _ R E fun J H1 ds b1 w1 hds it D hD => ?_
  obtain ⟨ls, rfl, hz, hTl⟩ := hT ds hds
  have R1 := R.step b1 w1
  have E1 := R.env E b1 w1
  obtain ⟨_, _, _, hr1, _⟩ := R1.row
  have nDr : r ≠ D := fun z => by rw [← z, hr1] at hD; cases hD
  have Rb : ∀ {H' : Hp}, But r H1 H' → Row H' r s → RS X.K H' (ban B D) σ j r s := fun b' w' => ⟨.inl R.b, R.at', w', R1.scr.but b'⟩
  have b0 : But r H1 (upd H1 D (.lst [])) := same_but (same_new hD)
  have w0 : Row (upd H1 D (.lst [])) r s := w1.same (same_new hD)
  refine ⟨fun k m H' => m = ls.length - k ∧ k ≤ ls.length ∧ But r H1 H' ∧ Row H' r s ∧ Env X.K H' (ban B D) σ ρ ∧ ∃ acc, H' D = some (.lst acc) ∧ acc.length ≤ k ∧ ∃ dd, AtAll X.K H' (ban B D) acc dd ∧ Got SB (ifs = []) (ls.take k) dd,
    ⟨ls.length, by simp, Nat.zero_le _, b0, w0, E1.ban hD (same_new hD) (by rw [upd_same]; exact fun z => nomatch z), [], upd_same, Nat.le_refl _, [], .nil, [], by rw [List.take_zero]; exact List.Sublist.refl _, fun _ => rfl, fun p hp => (by cases hp), rfl⟩, ?_⟩
  rintro k m H' ⟨rfl, hk, b2, w2, E2, acc, hacc, hal, dd, aacc, L, l1, l1a, l2, l3⟩
  obtain ⟨go, stop, yld⟩ := it H' (ban B D) b2 (ext_ban hD)
  by_cases hlt : k < ls.length
  · have hmem : ls[k] ∈ ls := List.getElem_mem hlt
    have hlt' : k < (ls.map enc).length := by rw [List.length_map]; exact hlt
    have egt : (ls.map enc)[k]? = some (enc ls[k]) := by rw [List.getElem?_map, List.getElem?_eq_getElem hlt]; rfl
    have etk : ls.take (k + 1) = ls.take k ++ [ls[k]] := by rw [List.take_add_one, List.getElem?_eq_getElem hlt]; rfl
    refine .inr ⟨go k hlt', fun H'' => But r H1 H'' ∧ Row H'' r s ∧ Env X.K H'' (ban B D) σ ρ ∧ ∃ acc, H'' D = some (.lst acc) ∧ acc.length ≤ k + 1 ∧ ∃ dd, AtAll X.K H'' (ban B D) acc dd ∧ Got SB (ifs = []) (ls.take (k + 1)) dd,
      fun H'' ⟨b3, w3, h3⟩ => ⟨ls.length - (k + 1), by omega, rfl, hlt, b3, w3, h3⟩, fun v H3 y => ?_⟩
    obtain ⟨s3, a3⟩ := yld k (enc ls[k]) v H3 egt y
    have b3 := b2.trans (same_but s3)
    have w3 := w2.same s3
    have hE3 : Env X.K H3 (ban B D) ((wipe σ ([(n, i)].map (·.2))).set i (some v)) (ρ.set i (some (enc ls[k]))) := by
      have h1 := (E2.mono s3).forget i
      have h2 := h1.set i a3
      have e3 : (ρ.set i none).set i (some (enc ls[k])) = ρ.set i (some (enc ls[k])) := List.set_set ..
      rw [e3] at h2
      exact h2
    have R3 : RS X.K H3 (ban B D) ((wipe σ ([(n, i)].map (·.2))).set i (some v)) j r s := by
      refine ((Rb b3 w3).set hij none).set hij _
    refine ⟨by show ((((σ.set i none)).set i (some v)).set i none) = σ.set i none; rw [List.set_set, List.set_set], fun s0 H0 C cl fp => ?_⟩
    refine (ht ls hTl ls[k] hmem s0 H0 C cl fp).go (X := X.blk s0 H0 scope (compEnvC scope cl C X.env) fp) R3 hE3 fun u H4 b4 w4 hu => ?_
    have hw2 : ∃ l, H' r = some (.lst l) := let ⟨_, _, _, h, _⟩ := w2; ⟨_, h⟩
    obtain ⟨lr2, hr2⟩ := hw2
    have b34 := (same_but (d := r) s3).trans b4
    cases u with
    | true =>
      refine iteT fun s0 H0 C cl fp => ?_
      refine he ls hTl ls[k] hmem s0 H0 C cl fp _ _ _ _ _ _ (R3.step b4 w4) (R3.env hE3 b4 w4) fun w H5 d b5 w5 hd a5 => ?_
      have k5 := b34.trans b5
      have hacc5 := k5 _ _ (fun z => nDr z.symm) hacc
      refine ⟨acc, hacc5, Nat.lt_of_le_of_lt (Nat.le_trans hal hk) (Nat.lt_of_le_of_lt hz (by decide)), ?_⟩
      have b15 := b2.trans k5
      refine ⟨fun a o na ha => ?_, ?_, ?_, acc ++ [w], upd_same, by rw [List.length_append]; exact Nat.succ_le_succ hal, dd ++ [d], ?_, L ++ [(ls[k], d)], ?_, ?_, ?_, ?_⟩
      · rw [upd_ne (ne_of_none ha hD)]; exact b15 a o na ha
      · obtain ⟨x1, x2, x3, hx, hx2⟩ := w5
        exact ⟨x1, x2, x3, by rw [upd_ne nDr]; exact hx, hx2⟩
      · exact ((Rb b2 w2).env E2 k5 w5).put hacc5 (.inr rfl) _
      · exact atAll_put hacc5 (.inr rfl) _ _ ((atAll_be hr2 (.inl R.b) k5 (Ext.refl _ _) _ _ aacc).app (.one a5))
      · rw [etk, List.map_append]; exact List.Sublist.append l1 (List.Sublist.refl _)
      · intro z; rw [etk, List.map_append, l1a z]; rfl
      · intro p hp
        rcases List.mem_append.mp hp with h | h
        · exact l2 p h
        · rw [List.mem_singleton.mp h]; exact hd
      · rw [List.map_append, l3]; rfl
    | false =>
      refine iteF ⟨b2.trans b34, w4, (Rb b2 w2).env E2 b34 w4, acc, b34 _ _ (fun z => nDr z.symm) hacc, Nat.le_succ_of_le hal, dd, atAll_be hr2 (.inl R.b) b34 (Ext.refl _ _) _ _ aacc, L, ?_, ?_, l2, l3⟩
      · rw [etk]; exact l1.trans (List.sublist_append_left _ _)
      · intro z; cases hu z
  · have ek : k = ls.length := by omega
    subst ek
    rw [List.take_length] at l1 l1a
    exact .inl ⟨stop _ (by rw [List.length_map]), q _ H' _ (b1.trans b2) w2 ⟨ls, dd, hTl, ⟨L, l1, l1a, l2, l3⟩, rfl⟩ (.lst hacc (E1.dom.no hD) (atAll_free _ _ aacc))⟩
theorem rx_lc (i : Nat) {tg elt : Expr} {ifs : List Expr} {scope : Scope} {β : Type} {enc : β → PyData} {T : List β → Prop} {T' : List PyData → Prop} {SB : β → PyData → Prop} (nd : X.N.Nodup) (hij : i ≠ j) (hi : RI X j tg e ρ T') (hT : ∀ ds, T' ds → ∃ ls : List β, ds = ls.map enc ∧ ls.length ≤ 100000 ∧ T ls)
    (ok : BlkOk X.N X.env.scope scope [(n, i)])
    (hg : ∀ (s : Shared) (H : Hp) (C : Addr) (cl : List (Str × Addr)) (fp : List Addr), PG (X.blk s H scope (compEnvC scope cl C X.env) fp) tg (gName i))
    (ht : ∀ ls, T ls → ∀ d ∈ ls, ∀ (s : Shared) (H : Hp) (C : Addr) (cl : List (Str × Addr)) (fp : List Addr), RIf (X.blk s H scope (compEnvC scope cl C X.env) fp) j ifs (ρ.set i (some (enc d))))
    (he : ∀ ls, T ls → ∀ d ∈ ls, ∀ (s : Shared) (H : Hp) (C : Addr) (cl : List (Str × Addr)) (fp : List Addr), RX (X.blk s H scope (compEnvC scope cl C X.env) fp) j elt (ρ.set i (some (enc d))) (SB d))
    (hc : X.calm = true := by rfl) (hs : ∀ x, foldedSetIterable e X.env x = pure x := by intro _; rfl) : RX X j (.ListComp elt [⟨tg, e, ifs, 0⟩] scope pos) ρ (fun d => ∃ ls ds, T ls ∧ Got SB (ifs = []) ls ds ∧ d = .list ds) := fun σ H B r s Q R E q => by
  obtain ⟨wi, pi, hi⟩ := hi
  exact PE.w (pe_lc (own := [(n, i)]) (tt := fun σ H Q => ∀ (s : Shared) (H' : Hp) (C : Addr) (cl : List (Str × Addr)) (fp : List Addr), wIfs (X.blk s H' scope (compEnvC scope cl C X.env) fp) ifs σ H Q)
    (te := fun σ H Q => ∀ (s : Shared) (H' : Hp) (C : Addr) (cl : List (Str × Addr)) (fp : List Addr), wE (X.blk s H' scope (compEnvC scope cl C X.env) fp) elt σ H Q) hc nd pi ok hg
    (fun s H C cl fp => ⟨fun pins s' σ H' Q I h => h s H C cl fp pins s' I⟩) (fun s H C cl fp => ⟨fun pins s' σ H' Q I h => h s H C cl fp pins s' I⟩) hs)
    (rlc_read (n := n) hij hi hT ht he σ H B r s Q R E q)
theorem rb_setLc (i sl : Nat) {y : Str} {py : Pos} {spos : Pos} {tg elt : Expr} {ifs : List Expr} {scope : Scope} {β : Type} {enc : β → PyData} {T : List β → Prop} {T' : List PyData → Prop} {SB : β → PyData → Prop} (nd : X.N.Nodup) (hij : i ≠ j) (hsj : sl ≠ j) (hi : RI X j tg e ρ T') (hT : ∀ ds, T' ds → ∃ ls : List β, ds = ls.map enc ∧ ls.length ≤ 100000 ∧ T ls)
    (ok : BlkOk X.N X.env.scope scope [(n, i)]) (hsw : swapsWith (.ListComp elt [⟨tg, e, ifs, 0⟩] scope pos) (some (.Name y py)) spos.line X.env = pure true) (hyl : X.env.scope.names.lookup y = some .local)
    (hg : ∀ (s : Shared) (H : Hp) (C : Addr) (cl : List (Str × Addr)) (fp : List Addr), PG (X.blk s H scope (compEnvC scope cl C X.env) fp) tg (gName i))
    (ht : ∀ ls, T ls → ∀ d ∈ ls, ∀ (s : Shared) (H : Hp) (C : Addr) (cl : List (Str × Addr)) (fp : List Addr), RIf (X.blk s H scope (compEnvC scope cl C X.env) fp) j ifs (ρ.set i (some (enc d))))
    (he : ∀ ls, T ls → ∀ d ∈ ls, ∀ (s : Shared) (H : Hp) (C : Addr) (cl : List (Str × Addr)) (fp : List Addr), RX (X.blk s H scope (compEnvC scope cl C X.env) fp) j elt (ρ.set i (some (enc d))) (SB d))
    {sts : List Stmt} (g : ∀ ls ds, T ls → Got SB (ifs = []) ls ds → RB X j sts (ρ.set sl (some (.list ds))) S)
    (hy : X.N[sl]? = some y := by rfl) (hc : X.calm = true := by rfl) (hs : ∀ x, foldedSetIterable e X.env x = pure x := by intro _; rfl) : RB X j (.Assign [.Name y py] (.ListComp elt [⟨tg, e, ifs, 0⟩] scope pos) spos :: sts) ρ S := fun σ H B r s D R E q => by
  obtain ⟨wi, pi, hi⟩ := hi
  exact PSs.w (pss_cons ps_w pss_w) (PS.w (ps_setLc (i := sl) (own := [(n, i)]) (tt := fun σ H Q => ∀ (s : Shared) (H' : Hp) (C : Addr) (cl : List (Str × Addr)) (fp : List Addr), wIfs (X.blk s H' scope (compEnvC scope cl C X.env) fp) ifs σ H Q)
    (te := fun σ H Q => ∀ (s : Shared) (H' : Hp) (C : Addr) (cl : List (Str × Addr)) (fp : List Addr), wE (X.blk s H' scope (compEnvC scope cl C X.env) fp) elt σ H Q) hc nd hy hyl hsw pi ok hg
    (fun s H C cl fp => ⟨fun pins s' σ H' Q I h => h s H C cl fp pins s' I⟩) (fun s H C cl fp => ⟨fun pins s' σ H' Q I h => h s H C cl fp pins s' I⟩) hs)
    (rlc_read (n := n) hij hi hT ht he σ H B r s _ R E fun v H1 d b1 w1 ⟨ls, ds, hT', hG, e⟩ a1 => by
      subst e
      exact g ls ds hT' hG _ H1 B r s D ((R.step b1 w1).set hsj _) ((R.env E b1 w1).set sl a1) fun v' H2 d' b2 w2 => q v' H2 d' (b1.trans b2) w2))
end
end Fw
/-! Faultworks, part W: how the script is read. -/
namespace Fw
open PySem PySem.Spec PyProof.Rows L2 FM
section
variable {X : Cx} {a b c e : Expr} {sts : List Stmt} {pos p p1 p2 p3 : Pos} {σ : L2.St} {H : Hp} {D : Ends} {v x y : V} {n : Str}
/-- e gives v and leaves all as it is -/
def VX (X : Cx) (σ : L2.St) (H : Hp) (e : Expr) (v : V) : Prop := ∀ Q : VK, Q v H → wE X e σ H Q
def VT (X : Cx) (σ : L2.St) (H : Hp) (e : Expr) (u : Bool) : Prop := ∀ Q : Bool → Hp → Prop, Q u H → wT X e σ H Q
theorem VX.is (h : VX X σ H e v) (q : v = x) : VX X σ H e x := q ▸ h
theorem vx_var (i : Nat) (hσ : σ[i]? = some (some v)) (hN : X.N[i]? = some n := by rfl) (hv : Vis X.env.scope n := by first | exact Or.inl rfl | exact Or.inr (Or.inl rfl) | exact Or.inr (Or.inr rfl)) (hd : (n == ("__debug__" : Str)) = false := by decide)
    (hcd : (n == ("__classdict__" : Str)) = false := by decide) : VX X σ H (.Name n pos) v := fun Q q => PE.w (pe_var hN hv hd hcd) ⟨v, hσ, q⟩
theorem vx_int {i : Int} {j} : VX X σ H (.Constant (.int i) j pos) (.int i) := fun Q q => PE.w pe_int q
theorem vx_op {op : Operator} {r : R2} (ho : OpR X (binaryOp op) r) (hr : ∀ Q : VK, Q v H → r x y H Q) (ha : VX X σ H a x) (hb : VX X σ H b y) : VX X σ H (.BinOp a op b pos) v := fun Q q => PE.w (pe_op ho pe_w pe_w) (ha _ (hb _ (hr Q q)))
theorem vt_cmp {op : CmpOp} {r : R2} {u : Bool} (ho : OpR X (compareOp op) r) (hr : ∀ Q : VK, Q (.bl u) H → r x y H Q) (ha : VX X σ H a x) (hb : VX X σ H b y) (hm : behindInMarks op b = false := by first | exact nomark _ | rfl) : VT X σ H (.Compare a [op] [b] pos) u := fun Q q => PT.w (pt_cmpR ho pe_w pe_w hm) (ha _ (hb _ (hr _ ⟨u, rfl, q⟩)))
theorem vx_add {i j : Int} (ha : VX X σ H a (.int i)) (hb : VX X σ H b (.int j)) : VX X σ H (.BinOp a .Add b pos) (.int (i + j)) := vx_op op_add (fun Q q => ⟨i, j, rfl, rfl, q⟩) ha hb
theorem vx_sub {i j : Int} (ha : VX X σ H a (.int i)) (hb : VX X σ H b (.int j)) : VX X σ H (.BinOp a .Sub b pos) (.int (i - j)) := vx_op op_sub (fun Q q => ⟨i, j, rfl, rfl, q⟩) ha hb
theorem vx_mul {i j : Int} (ha : VX X σ H a (.int i)) (hb : VX X σ H b (.int j)) (h : CMulW i j) : VX X σ H (.BinOp a .Mult b pos) (.int (i * j)) := vx_op op_mulW (fun Q q => ⟨i, j, rfl, rfl, h, q⟩) ha hb
theorem vx_fdiv {i j : Int} (ha : VX X σ H a (.int i)) (hb : VX X σ H b (.int j)) (h : CDivW i j) : VX X σ H (.BinOp a .FloorDiv b pos) (.int (i / j)) := vx_op op_fdivW (fun Q q => ⟨i, j, rfl, rfl, h, q⟩) ha hb
theorem vx_mod {i j : Int} (ha : VX X σ H a (.int i)) (hb : VX X σ H b (.int j)) (h : 0 < j) : VX X σ H (.BinOp a .Mod b pos) (.int (i % j)) := vx_op op_mod (fun Q q => ⟨i, j, rfl, rfl, h, q⟩) ha hb
theorem vx_pow {i j : Int} (ha : VX X σ H a (.int i)) (hb : VX X σ H b (.int j)) (h : CPow i j) : VX X σ H (.BinOp a .Pow b pos) (.int (i ^ j.toNat)) := vx_op op_pow (fun Q q => ⟨i, j, rfl, rfl, h, q⟩) ha hb
theorem vt_gt {i j : Int} (ha : VX X σ H a (.int i)) (hb : VX X σ H b (.int j)) : VT X σ H (.Compare a [.Gt] [b] pos) (decide (j < i)) := vt_cmp op_gt (fun Q q => ⟨i, j, rfl, rfl, q⟩) ha hb
theorem vt_ge {i j : Int} (ha : VX X σ H a (.int i)) (hb : VX X σ H b (.int j)) : VT X σ H (.Compare a [.GtE] [b] pos) (decide (j ≤ i)) := vt_cmp op_ge (fun Q q => ⟨i, j, rfl, rfl, q⟩) ha hb
theorem vx_ix {t : Addr} {xs : List V} {i : Nat} (hS : SqL X.K H t xs) (hi : xs[i]? = some v) (ha : VX X σ H a (.ref t)) (hb : VX X σ H b (.int (i : Int))) (hs : PlainIx b := by exact fun _ _ => rfl) : VX X σ H (.Subscript a b pos) v := fun Q q =>
  PE.w (pe_ix L2.ix_list pe_w pe_w hs) (ha _ (hb _ ⟨t, xs, i, v, rfl, rfl, hS, atI_nat hi, q⟩))
theorem vx_int1 {i : Int} (hm : X.mg "int" = none) (ha : VX X σ H a (.int i)) (he : starEach [a] X.env = (false, eval a X.env) :: starEach [] X.env := by rfl) (hg : Gl X "int" := by rfl) : VX X σ H (.Call (.Name "int" p) [a] [] pos) (.int i) := fun Q q =>
  PE.w (pe_callTy call_int1 hg hm (by decide +kernel) (pa_cons pe_w pa_nil he) (by decide) (by decide) he rfl) (ha _ (.inl ⟨i, rfl, q⟩))
theorem vx_len {t : Addr} {xs : List V} (hm : X.mg "len" = none) (hS : SqL X.K H t xs) (ha : VX X σ H a (.ref t)) (he : starEach [a] X.env = (false, eval a X.env) :: starEach [] X.env := by rfl) (hg : Gl X "len" := by rfl) : VX X σ H (.Call (.Name "len" p) [a] [] pos) (.int (xs.length : Int)) := fun Q q =>
  PE.w (pe_callB call_len_seq hg hm (by decide +kernel) (pa_cons pe_w pa_nil he) (by decide) (by decide) he rfl) (ha _ ⟨t, xs, rfl, .inl hS, q⟩)
theorem vs_set (i : Nat) {pos' : Pos} (nd : X.N.Nodup) (he : VX X σ H e v) (g : wSs X sts D (σ.set i (some v)) H) (hi : X.N[i]? = some n := by rfl) (hx : Loc X.env.scope n := by first | exact Or.inl rfl | exact Or.inr rfl) (hs : swapsWith e (some (.Name n pos')) pos.line X.env = pure false := by rfl)
    (hf : X.fn n = true ∨ X.env.scope.names.lookup n = some .local := by first | exact .inl rfl | exact .inr rfl | assumption) : wSs X (.Assign [.Name n pos'] e pos :: sts) D σ H := PSs.w (pss_cons (ps_set nd hi hx pe_w hs hf) pss_w) (he _ g)
theorem vs_ret (he : VX X σ H e v) (g : D.rt v H) : wSs X (.Return (some e) pos :: sts) D σ H := PSs.w (pss_cons (ps_ret pe_w) pss_never) (he _ g)
theorem ixN_nat {m i : Nat} (h : i < m) : ixN m (i : Int) = some i := by
  unfold ixN
  rw [if_pos (by omega), if_pos (by omega)]; simp
theorem vs_put (i : Nat) {j} {t : Addr} {xs : List V} (he : VX X σ H e v) (hσ : σ[0]? = some (some (.ref t))) (hr : H t = some (.lst xs)) (hi : i < xs.length) (g : ∀ H1, But t H H1 → H1 t = some (.lst (xs.set i v)) → wSs X sts D σ H1) (hN : X.N[0]? = some n := by rfl)
    (hv : Vis X.env.scope n := by first | exact Or.inl rfl | exact Or.inr (Or.inl rfl) | exact Or.inr (Or.inr rfl)) (hd : (n == ("__debug__" : Str)) = false := by decide) (hcd : (n == ("__classdict__" : Str)) = false := by decide)
    (hs : swapsWithSole [.Subscript (.Name n p1) (.Constant (.int (i : Int)) j p2) p3] e pos.line X.env = pure false := by rfl) (hw : swappedStores [.Subscript (.Name n p1) (.Constant (.int (i : Int)) j p2) p3] e X.env = pure none := by rfl)
    (h1 : (assignEach [.Subscript (.Name n p1) (.Constant (.int (i : Int)) j p2) p3] X.env).map (·.2) = [assign (.Subscript (.Name n p1) (.Constant (.int (i : Int)) j p2) p3) X.env] := by rfl) :
    wSs X (.Assign [.Subscript (.Name n p1) (.Constant (.int (i : Int)) j p2) p3] e pos :: sts) D σ H :=
  PSs.w (pss_cons (ps_asg pe_w (pg_sub (pe_var hN hv hd hcd) pe_int set_list) hs hw h1) pss_w) (he _ ⟨.ref t, hσ, t, xs, (i : Int), i, rfl, rfl, hr, ixN_nat hi, g _ but_upd upd_same⟩)
theorem vs_if {u : Bool} {q1 q2 : List Stmt} {D2 : Ends} (h : VT X σ H c u) (gT : u = true → wSs X q1 { D with nx := fun σ1 H1 => wSs X sts D σ1 H1 } σ H) (gF : u = false → wSs X q2 { D with nx := fun σ1 H1 => wSs X sts D σ1 H1 } σ H) : wSs X (.If c q1 q2 pos :: sts) D σ H := by
  refine PSs.w (pss_cons (ps_if pt_w pss_w pss_w) pss_w) (h _ ?_)
  cases u with
  | true => exact iteT (gT rfl)
  | false => exact iteF (gF rfl)
theorem vs_nil (h : D.nx σ H) : wSs X [] D σ H := PSs.w pss_nil h
end
section
variable {P : Program} {w : World} {K : PySem.W.Frag} {mg : Str → Option Value} {base : Heap}
def RTaken (ds : List PyData) (S : PyData → Prop) : Prop := ∃ m : Nat, 0 < m ∧ m ≤ 1000 ∧ ds = [.int (m : Int)] ∧ S = fun d => ∃ k : Nat, k < m ∧ d = .int (k : Int)
theorem c_taken (F : Df K mg "_law_taken" s_l_taken ["_law_row", "_law_many"]) (M : Bi mg) : RCl P w K mg base 1 "_law_taken" RTaken := by
  refine rcl_mk F sc_l_taken (fun ds T ⟨_, _, _, h, _⟩ => by rw [h]; rfl) ?_
  rintro f cdv A outer s0 H0 E0 hr _ _ ⟨m, hm, hm2, rfl, rfl⟩
  intro σ H B r s D R E q
  obtain ⟨hB, hσ, ⟨a, b, c, hrow, ha, hb, hb2⟩, hs⟩ := R
  obtain ⟨v, hσ1, av⟩ := E.get 1 _ rfl
  cases av
  have hlen : 3 < σ.length := by rw [E.len]; exact Nat.le_of_ble_eq_true rfl
  have fin : ∀ (x : Int) (H' : Hp), But r H H' → Row H' r s → D.rt (.int (x % (m : Int))) H' := fun x H' b' w' => by
    have h1 := Int.emod_nonneg x (b := (m : Int)) (by omega)
    have h2 := Int.emod_lt_of_pos x (b := (m : Int)) (by omega)
    refine q _ H' (.int (x % (m : Int))) b' w' ⟨(x % (m : Int)).toNat, by omega, by rw [Int.toNat_of_nonneg h1]⟩ (.int _)
  have cd : ∀ i : Int, CDivW i (m : Int) := fun i => ⟨by omega, Nat.lt_of_le_of_lt (Nat.log2_le_self _) (by omega)⟩
  have cell : ∀ {H' : Hp} {xs : List V} {i : Nat} {v : V}, H' r = some (.lst xs) → xs[i]? = some v → ∀ {p1 p2 p3 : Pos} {j}, VX (cxOf CX0 P w K mg base n_l_taken "_law_taken" (defScope s_l_taken) f cdv A outer s0 H0 E0).nox σ H' (.Subscript (.Name "_law_row" p1) (.Constant (.int (i : Int)) j p2) p3) v :=
    fun h1 h2 _ _ _ _ => vx_ix (.of h1) h2 (vx_var 0 hσ) vx_int
  refine vs_if (D2 := D) (vt_gt (cell (i := 3) hrow rfl) vx_int) (fun hc => ?_) fun hc => ?_
  · refine vs_set 2 sc_l_taken.nd (vx_mod (vx_int1 M.int (cell (i := 3) hrow rfl)) (vx_var 1 hσ1) (by omega)) ?_
    have hσ' : (σ.set 2 (some (V.int (c % (m : Int)))))[0]? = some (some (.ref r)) := by rw [List.getElem?_set_ne (by decide)]; exact hσ
    have hσ1' : (σ.set 2 (some (V.int (c % (m : Int)))))[1]? = some (some (.int (m : Int))) := by rw [List.getElem?_set_ne (by decide)]; exact hσ1
    refine vs_put 3 (vx_fdiv (vx_ix (i := 3) (.of hrow) rfl (vx_var 0 hσ') vx_int) (vx_var 1 hσ1') (cd c)) hσ' hrow (Nat.le_of_ble_eq_true rfl) fun H1 b1 h1 => ?_
    exact vs_ret (vx_var 2 (List.getElem?_set_self (by omega))) (fin c H1 b1 ⟨a, b, _, h1, ha, hb, hb2⟩)
  · refine vs_nil ?_
    refine vs_put 1 (vx_add (cell (i := 1) hrow rfl) vx_int) hσ hrow (Nat.le_of_ble_eq_true rfl) fun H1 b1 h1 => ?_
    have h1 : H1 r = some (.lst [.ref s, .int (a + 1), .int b, .int c]) := h1
    obtain ⟨ns, hS⟩ := hs.but b1
    have hS := hS _ (But.refl _ _)
    have cm : CMulW b 48271 := wide_mul (a := 31) (b := 16) (show b.natAbs < 2147483648 by omega) (by decide) (by decide) (by decide) (by decide)
    refine vs_if (D2 := D) (vt_gt (cell (i := 1) h1 rfl) (vx_len M.len hS (cell (i := 0) h1 rfl))) (fun hc => ?_) fun hc => ?_
    · refine vs_put 2 (vx_mod (vx_int1 M.int (vx_add (vx_mul (cell (i := 2) h1 rfl) vx_int cm) vx_int)) vx_int (by decide)) hσ h1 (Nat.le_of_ble_eq_true rfl) fun H2 b2 h2 => ?_
      have h2 : H2 r = some (.lst [.ref s, .int (a + 1), .int ((b * 48271 + 11) % 2147483647), .int c]) := h2
      refine vs_ret (vx_mod (vx_int1 M.int (vx_fdiv (cell (i := 2) h2 rfl) vx_int ⟨by decide, by decide⟩)) (vx_var 1 hσ1) (by omega)) (fin _ H2 (b1.trans b2) ⟨_, _, _, h2, by omega, Int.emod_nonneg _ (by decide), Int.emod_lt_of_pos _ (by decide)⟩)
    · refine vs_nil ?_
      have hc := of_decide_eq_false hc
      have hlt : a.toNat < ns.length := by rw [List.length_map] at hc; omega
      have hget : (ns.map V.int)[a.toNat]? = some (.int ns[a.toNat]) := by rw [List.getElem?_map, List.getElem?_eq_getElem hlt]; rfl
      refine vs_set 3 sc_l_taken.nd (vx_ix (i := a.toNat) hS hget (cell (i := 0) h1 rfl) ((vx_sub (cell (i := 1) h1 rfl) vx_int).is (congrArg V.int (by omega)))) ?_
      generalize ns[a.toNat] = z
      have hσ' : (σ.set 3 (some (V.int z)))[0]? = some (some (.ref r)) := by rw [List.getElem?_set_ne (by decide)]; exact hσ
      have hσ1' : (σ.set 3 (some (V.int z)))[1]? = some (some (.int (m : Int))) := by rw [List.getElem?_set_ne (by decide)]; exact hσ1
      have hσ3' : (σ.set 3 (some (V.int z)))[3]? = some (some (.int z)) := List.getElem?_set_self (by omega)
      refine vs_put 2 (vx_mod (vx_int1 M.int (vx_add (vx_add (vx_mul (vx_ix (i := 2) (.of h1) rfl (vx_var 0 hσ') vx_int) vx_int cm) (vx_var 3 hσ3')) vx_int)) vx_int (by decide)) hσ' h1 (Nat.le_of_ble_eq_true rfl) fun H2 b2 h2 => ?_
      have h2 : H2 r = some (.lst [.ref s, .int (a + 1), .int ((b * 48271 + z + 11) % 2147483647), .int c]) := h2
      have hw : 0 ≤ (b * 48271 + z + 11) % 2147483647 ∧ (b * 48271 + z + 11) % 2147483647 < 2147483647 := ⟨Int.emod_nonneg _ (by decide), Int.emod_lt_of_pos _ (by decide)⟩
      refine vs_if (D2 := D) (vt_ge (vx_var 3 hσ3') (vx_pow vx_int vx_int ⟨by decide, by decide, by decide⟩)) (fun hc => ?_) fun hc => ?_
      · refine vs_put 3 (vx_fdiv (vx_var 3 hσ3') (vx_var 1 hσ1') (cd z)) hσ' h2 (Nat.le_of_ble_eq_true rfl) fun H3 b3 h3 => vs_nil ?_
        exact vs_ret (vx_mod (vx_int1 M.int (vx_var 3 hσ3')) (vx_var 1 hσ1') (by omega)) (fin z H3 ((b1.trans b2).trans b3) ⟨_, _, _, h3, by omega, hw.1, hw.2⟩)
      · refine vs_nil ?_
        exact vs_ret (vx_mod (vx_int1 M.int (vx_var 3 hσ3')) (vx_var 1 hσ1') (by omega)) (fin z H2 (b1.trans b2) ⟨_, _, _, h2, by omega, hw.1, hw.2⟩)
def RPick (ds : List PyData) (S : PyData → Prop) : Prop := ∃ xs : List Nat, 0 < xs.length ∧ xs.length ≤ 1000 ∧ ds = [.list (inz xs)] ∧ S = fun d => ∃ k ∈ xs, d = .int (k : Int)
theorem c_pick (F : Df K mg "_law_pick" s_l_pick ["_law_row", "_law_things"]) (M : Bi mg) (G : RCl P w K mg base 1 "_law_taken" RTaken) : RCl P w K mg base 2 "_law_pick" RPick := by
  refine rcl_mk F sc_l_pick (fun ds T ⟨_, _, _, h, _⟩ => by rw [h]; rfl) ?_
  rintro f cdv A outer s0 H0 E0 hr _ _ ⟨xs, h1, h2, rfl, rfl⟩
  refine rb_ret (rx_ixL (ex_var 1) ((rx_call G hr (ax_cons (ex_lenL M.len (ex_var 1)) ax_nil) ⟨xs.length, h1, h2, by rw [ints_len], rfl⟩).imp ?_))
  rintro d ⟨k, hk, rfl⟩
  exact ⟨k, rfl, _, ints_get (List.getElem?_eq_getElem hk), xs[k], List.getElem_mem hk, rfl⟩
def RSomeSet (ds : List PyData) (S : PyData → Prop) : Prop := ∃ n : Nat, 0 < n ∧ n ≤ 100 ∧ ds = [.int (n : Int)] ∧ S = fun d => ∃ l : List Nat, l.Pairwise (· < ·) ∧ (∀ k ∈ l, k < n) ∧ d = nd l
theorem c_some_set (F : Df K mg "_law_some_set" s_l_some_set ["_law_row", "_law_many"]) (M : Bi mg) (G : RCl P w K mg base 1 "_law_taken" RTaken) (GP : RCl P w K mg base 2 "_law_pick" RPick) : RCl P w K mg base 3 "_law_some_set" RSomeSet := by
  refine rcl_mk F sc_l_some_set (fun ds T ⟨_, _, _, h, _⟩ => by rw [h]; rfl) ?_
  rintro f cdv A outer s0 H0 E0 hr _ _ ⟨n, h1, h2, rfl, rfl⟩
  refine rb_set 2 sc_l_some_set.nd (by decide) (rx_call GP hr (ax_cons (ex_lst (ax_cons ex_int (ax_cons ex_int (ax_cons ex_int ax_nil)))) ax_nil) ⟨[2, 2, 3], by decide, by decide, rfl, rfl⟩) ?_
  rintro d ⟨m, hm, rfl⟩
  have hm2 : 0 < m ∧ m ≤ 1000 := by
    simp only [List.mem_cons, List.not_mem_nil, or_false] at hm
    omega
  refine rb_ret (rx_tupL M.tup ((rx_lc 3 (n := "_law_k") (enc := iE) (T := fun ls => ls = List.range n) (SB := fun k d => d = iE k) sc_l_some_set.nd (by decide) (ri_range (S := fun k => k = n) M.rng ((rx_of (ex_var 1)).imp fun d hd => ⟨n, hd, rfl, by omega⟩)) (fun ds ⟨k, hk, _, e⟩ => ⟨List.range n, by rw [e, hk]; rfl, by rw [List.length_range]; omega, rfl⟩) (blkOk_by (by kernel_rfl))
    (fun _ _ _ _ _ => pg_name (i := 3) sc_l_some_set.nd rfl (Or.inl rfl)) (fun ls _ k hk _ _ _ _ _ => .inr ⟨_, rfl, rt_eq0 hr ((rx_call G hr (ax_cons (ex_var 2) ax_nil) ⟨m, hm2.1, hm2.2, rfl, rfl⟩).imp fun d ⟨k, _, e⟩ => ⟨_, e⟩)⟩) (fun ls _ k hk _ _ _ _ _ => rx_of (ex_var 3))).imp ?_))
  rintro d ⟨ls, ds, rfl, ⟨L, l1, _, l2, rfl⟩, rfl⟩
  refine ⟨_, rfl, L.map (·.1), List.Pairwise.sublist l1 List.pairwise_lt_range, fun k hk => List.mem_range.mp (l1.subset hk), ?_⟩
  unfold nd inz
  rw [List.map_map]
  congr 1
  exact List.map_congr_left fun p hp => l2 p hp
end
end Fw
/-! Faultworks, part X: the law's system and chances. -/
namespace Fw
open PySem PySem.Spec PyProof.Rows L2 FM
/-- those of L that are less than one; the fold over them; the least of L -/
def lessHere (L : List (List Nat)) (one : List Nat) : List (List Nat) := L.filter fun o => !decide (o = one) && (o.filter fun k => !decide (k ∈ one)).isEmpty
def gl (L found : List (List Nat)) (one : List Nat) : List (List Nat) := found ++ (if ((lessHere L one).isEmpty && !decide (one ∈ found)) = true then [one] else [])
def minL (L : List (List Nat)) : List (List Nat) := L.foldl (gl L) []
theorem gl_inv (L : List (List Nat)) : ∀ (l found : List (List Nat)), (∀ x ∈ l, x ∈ L) → (found.Nodup ∧ (∀ x ∈ found, x ∈ L ∧ lessHere L x = [])) → ((l.foldl (gl L) found).Nodup ∧ ∀ x ∈ l.foldl (gl L) found, x ∈ L ∧ lessHere L x = []) ∧ (l.foldl (gl L) found).length ≤ found.length + l.length
  | [], found, _, h => ⟨h, Nat.le_refl _⟩
  | x :: l, found, hl, h => by
    rw [List.foldl_cons]
    have h2 : ((gl L found x).Nodup ∧ ∀ y ∈ gl L found x, y ∈ L ∧ lessHere L y = []) ∧ (gl L found x).length ≤ found.length + 1 := by
      unfold gl
      split
      · rename_i hc
        rw [Bool.and_eq_true] at hc
        have hx : x ∉ found := by simpa using hc.2
        refine ⟨⟨List.nodup_append.mpr ⟨h.1, List.nodup_cons.mpr ⟨by simp, List.nodup_nil⟩, fun a ha b hb e => hx (by rw [← List.mem_singleton.mp hb, ← e]; exact ha)⟩, fun y hy => ?_⟩, by rw [List.length_append]; exact Nat.le_refl _⟩
        rcases List.mem_append.mp hy with hy | hy
        · exact h.2 y hy
        · rw [List.mem_singleton.mp hy]
          exact ⟨hl x List.mem_cons_self, List.isEmpty_iff.mp hc.1⟩
      · rw [List.append_nil]
        exact ⟨h, Nat.le_succ _⟩
    obtain ⟨a1, a2⟩ := gl_inv L l _ (fun y hy => hl y (List.mem_cons_of_mem _ hy)) h2.1
    exact ⟨a1, by rw [List.length_cons]; omega⟩
theorem minL_ok (L : List (List Nat)) : ((minL L).Nodup ∧ ∀ x ∈ minL L, x ∈ L ∧ lessHere L x = []) ∧ (minL L).length ≤ L.length := by
  have h := gl_inv L L [] (fun x h => h) ⟨List.nodup_nil, fun x hx => by cases hx⟩
  rw [List.length_nil, Nat.zero_add] at h
  exact h
theorem minL_anti (L : List (List Nat)) : ∀ a ∈ minL L, ∀ b ∈ minL L, (∀ k ∈ a, k ∈ b) → a = b := fun a ha b hb h => Classical.byContradiction fun ne => by
  have h1 := ((minL_ok L).1.2 a ha).1
  have h2 := ((minL_ok L).1.2 b hb).2
  have hm : a ∈ lessHere L b := List.mem_filter.mpr ⟨h1, by
    rw [decide_eq_false ne, Bool.not_false, Bool.true_and, List.isEmpty_iff, List.filter_eq_nil_iff]
    exact fun k hk => by rw [decide_eq_true (h k hk)]; exact Bool.false_ne_true⟩
  rw [h2] at hm
  cases hm
theorem minL_sys {n : Nat} {L : List (List Nat)} (h1 : 1 ≤ n) (h6 : n ≤ 6) (asc : ∀ l ∈ L, l.Pairwise (· < ·)) (lt : ∀ l ∈ L, ∀ k ∈ l, k < n) (few : L.length ≤ 6) : SysOk n (srt (minL L)) := by
  have pm := srt_perm (minL L)
  have mem : ∀ x ∈ srt (minL L), x ∈ minL L := fun x hx => pm.mem_iff.mp hx
  have inL : ∀ x ∈ srt (minL L), x ∈ L := fun x hx => ((minL_ok L).1.2 x (mem x hx)).1
  refine ⟨h1, h6, fun l hl => asc l (inL l hl), fun l hl => lt l (inL l hl), ?_, fun a ha b hb => minL_anti L a (mem a ha) b (mem b hb), ?_⟩
  · have nd : (srt (minL L)).Nodup := pm.nodup_iff.mpr (minL_ok L).1.1
    exact (srt_le (minL L)).imp₂ (fun a b h1 h2 => Std.lt_of_le_of_ne h1 h2) nd
  · rw [pm.length_eq]
    have := (minL_ok L).2
    omega
theorem any_nd (x : List Nat) : ∀ l : List (List Nat), ((l.map nd).any fun z => PyData.eqv z (nd x)) = decide (x ∈ l)
  | [] => rfl
  | a :: l => by
    rw [List.map_cons, List.any_cons, any_nd x l, eqv_nd, ← Bool.decide_or]
    exact decide_eq_decide.mpr (by rw [List.mem_cons]; exact or_congr eq_comm Iff.rfl)
theorem got_map {β : Type} {C : β → Prop} {f : β → PyData} : ∀ ds : List PyData, (∀ d ∈ ds, ∃ q, C q ∧ d = f q) → ∃ qs : List β, (∀ q ∈ qs, C q) ∧ ds = qs.map f
  | [], _ => ⟨[], (fun q hq => by cases hq), rfl⟩
  | d :: ds, h => by
    obtain ⟨q, hq, e⟩ := h d List.mem_cons_self
    obtain ⟨qs, h1, h2⟩ := got_map ds fun x hx => h x (List.mem_cons_of_mem _ hx)
    exact ⟨q :: qs, fun x hx => by
      rcases List.mem_cons.mp hx with hx | hx
      · rw [hx]; exact hq
      · exact h1 x hx, by rw [List.map_cons, e, h2]⟩
section
variable {P : Program} {w : World} {K : PySem.W.Frag} {mg : Str → Option Value} {base : Heap}
def RLeastS (ds : List PyData) (d : PyData) : Prop := ∃ (n : Nat) (L : List (List Nat)), (∀ l ∈ L, l.Pairwise (· < ·)) ∧ (∀ l ∈ L, ∀ k ∈ l, k < n) ∧ n ≤ 6 ∧ L.length ≤ 6 ∧ ds = [.list (L.map nd)] ∧ d = .tuple ((srt (minL L)).map nd)
theorem c_lleast (F : Df K mg "_law_least" s_l_least ["_law_sets"]) (M : Bi mg) : Cl P w K mg base 1 "_law_least" RLeastS := by
  refine cl_mk F sc_l_least (fun ds d ⟨_, _, _, _, _, _, h, _⟩ => by rw [h]; rfl) ?_
  rintro f cdv A outer s H E hr _ _ ⟨n, L, asc, lt, h6, few, rfl, rfl⟩
  have hu : (A.deeper (envOfC "_law_least" (defScope s_l_least) s.heap.objs.size f cdv)).units + 65 < cLine := by
    have h1 := hr.un
    omega
  have sh : ∀ l : List (List Nat), SeqAt.shaped (.list (l.map nd)) = true := fun l => sh_map (n := 1) fun b _ => sh_nd b
  refine bx_cons (sx_set 1 sc_l_least.nd (ex_lst ax_nil)) ?_
  refine bx_cons ((sx_for 2 (ix_list (ex_var 0)) (for_fold (s := 1) (i := 2) (enc := nd) (st := fun (l : List (List Nat)) => PyData.list (l.map nd)) (g := gl L) [some (.list (L.map nd)), none, none, none, none, none] [] L fun done one rest e => ?_)
    (pg_name (i := 2) sc_l_least.nd rfl (by first | exact Or.inl rfl | exact Or.inr rfl))).le (Le.same (Le.same (Le.same (Le.same (Le.same (Le.same Le.nil))))))) ?_
  · have hone : one ∈ L := by rw [e]; exact List.mem_append_right _ List.mem_cons_self
    have hfl : (done.foldl (gl L) []).length ≤ 6 := by
      have h := (gl_inv L done [] (fun x h => by rw [e]; exact List.mem_append_left _ h) ⟨List.nodup_nil, fun x hx => by cases hx⟩).2
      have h2 := congrArg List.length e
      rw [List.length_append, List.length_cons] at h2
      rw [List.length_nil, Nat.zero_add] at h
      omega
    have hl6 : ∀ l ∈ L, l.length ≤ 6 := fun l hl => Nat.le_trans (asc_len (asc l hl) (lt l hl)) h6
    refine ⟨_, bx_cons (sx_setLc (nm := "_law_other") 4 3 (enc := nd) (ls := L) (q := fun o => !decide (o = one) && (o.filter fun k => !decide (k ∈ one)).isEmpty) (f := nd) sc_l_least.nd (ix_list (ex_var 0)) (by omega) (blkOk_by (by kernel_rfl)) (sw_true rfl rfl rfl rfl) rfl
        (fun _ _ _ _ _ => pg_name (i := 4) sc_l_least.nd rfl (Or.inl rfl))
        (fun o ho _ _ _ _ _ => ifx_one (tx_w (wx_and2 ((tx_ne hr ((sh_nd o).ok (by decide)) ((sh_nd one).ok (by decide)) (ex_var 4) (ex_var 2)).is (by rw [eqv_nd])) fun _ => (tx_eqNil hr (sh_map (n := 0) fun b _ => sh_int _) (ex_lc 5 (n := "_law_k") (enc := iE) (ls := o) (p := fun k => !decide (k ∈ one)) (f := iE) sc_l_least.nd (ix_tup (ex_var 4)) (by have := hl6 o ho; omega) (blkOk_by (by kernel_rfl))
          (fun _ _ _ _ _ => pg_name (i := 5) sc_l_least.nd rfl (Or.inl rfl)) (fun k hk _ _ _ _ _ => ifx_one (tx_notInT (ex_var 5) (ex_var 2))) (fun k hk _ _ _ _ _ _ => ex_var 5)) (ex_lst ax_nil)).is (by rw [List.isEmpty_map]))))
        (fun o ho _ _ _ _ _ _ => ex_var 4))
      (bx_cons (sx_set 1 sc_l_least.nd ((ex_catL ?_ (ex_var 1) (ex_if (u := (lessHere L one).isEmpty && !decide (one ∈ done.foldl (gl L) [])) (d := .list ((if ((lessHere L one).isEmpty && !decide (one ∈ done.foldl (gl L) [])) = true then [one] else []).map nd))
        (tx_w (wx_and2 ((tx_eqNil hr (sh (lessHere L one)) (ex_var 3) (ex_lst ax_nil)).is (by rw [List.isEmpty_map])) fun _ => (tx_notInL hu ((sh_nd one).ok (by decide)) (sh _) (ex_var 2) (ex_var 1)).is (by rw [any_nd])))
        (fun h => (ex_lst (ax_cons (ex_var 2) ax_nil)).is (by rw [if_pos h]; rfl)) (fun h => (ex_lst ax_nil).is (by rw [if_neg (by rw [h]; exact Bool.false_ne_true)]; rfl)))).is (show _ = PyData.list ((gl L (done.foldl (gl L) []) one).map nd) by unfold gl; rw [List.map_append]))) bx_nil), Le.same (Le.same (Le.drop (Le.drop (Le.same (Le.same Le.nil)))))⟩
    rw [List.length_map, List.length_map]
    split
    · show _ + 1 ≤ _; omega
    · show _ + 0 ≤ _; omega
  · refine bx_ret (sx_ret (ex_tupL M.tup (ex_sortedN (ls := minL L) M.srt hr (anti_ne (minL_ok L).1.1 (minL_anti L)) (by have := (minL_ok L).2; omega) (ex_var 1))))
def RSystem (ds : List PyData) (S : PyData → Prop) : Prop := ∃ m : Nat, 0 < m ∧ m ≤ 6 ∧ ds = [.int (m : Int)] ∧ S = fun d => ∃ (n : Nat) (ls : List (List Nat)), SysOk n ls ∧ d = sysD n ls
theorem c_lsystem (F : Df K mg "_law_system" s_l_system ["_law_row", "_law_most"]) (M : Bi mg) (G : RCl P w K mg base 1 "_law_taken" RTaken) (GP : RCl P w K mg base 2 "_law_pick" RPick) (GS : RCl P w K mg base 3 "_law_some_set" RSomeSet) (GL : Cl P w K mg base 1 "_law_least" RLeastS) : RCl P w K mg base 4 "_law_system" RSystem := by
  refine rcl_mk F sc_l_system (fun ds T ⟨_, _, _, h, _⟩ => by rw [h]; rfl) ?_
  rintro f cdv A outer s0 H0 E0 hr _ _ ⟨m, h1, h2, rfl, rfl⟩
  refine rb_set 2 sc_l_system.nd (by decide) (rx_op (S := fun d => ∃ k : Nat, k < m ∧ d = .int (k : Int)) (T := fun d => ∃ k : Nat, 1 ≤ k ∧ k ≤ 6 ∧ d = .int (k : Int)) op_add ?_ ex_int (fun _ _ _ _ h => by cases h; exact .int _) (rx_call G hr (ax_cons (ex_var 1) ax_nil) ⟨m, h1, by omega, rfl, rfl⟩)) ?_
  · rintro d ⟨k, hk, rfl⟩
    exact ⟨.int ((1 + k : Nat) : Int), ⟨1 + k, by omega, by omega, rfl⟩, rd_I0 fun _ _ _ => by
      have e : (1 : Int) + (k : Int) = ((1 + k : Nat) : Int) := by omega
      rw [e]
      exact .int _⟩
  rintro d ⟨n, n1, n6, rfl⟩
  refine rb_setLc 4 3 (n := "_law_turn") (enc := iE) (T := fun ls => ls.length ≤ 6) (SB := fun _ d => ∃ l : List Nat, (l.Pairwise (· < ·) ∧ ∀ k ∈ l, k < n) ∧ d = nd l) sc_l_system.nd (by decide) (by decide)
    (ri_range (S := fun k => k ≤ 6) M.rng ((rx_call GP hr (ax_cons (ex_lst (ax_cons ex_int (ax_cons ex_int (ax_cons ex_int (ax_cons ex_int (ax_cons ex_int (ax_cons ex_int ax_nil))))))) ax_nil) ⟨[1, 2, 3, 4, 5, 6], by decide, by decide, rfl, rfl⟩).imp ?_)) (fun ds ⟨k, hk, hk2, e⟩ => ⟨List.range k, by rw [e]; rfl, by rw [List.length_range]; omega, by rw [List.length_range]; exact hk⟩)
    (blkOk_by (by kernel_rfl)) (sw_true rfl rfl rfl rfl) rfl (fun _ _ _ _ _ => pg_name (i := 4) sc_l_system.nd rfl (Or.inl rfl)) (fun ls _ k hk _ _ _ _ _ => .inl rfl) (fun ls _ k hk _ _ _ _ _ => (rx_call GS hr (ax_cons (ex_var 2) ax_nil) ⟨n, by omega, by omega, rfl, rfl⟩).imp ?_) ?_
  · rintro d ⟨k, hk, rfl⟩
    have hk6 : k ≤ 6 := by
      simp only [List.mem_cons, List.not_mem_nil, or_false] at hk
      omega
    exact ⟨k, rfl, hk6, by omega⟩
  · rintro d ⟨l, q1, q2, rfl⟩
    exact ⟨l, ⟨q1, q2⟩, rfl⟩
  rintro ls ds hls ⟨L0, l1, _, l2, rfl⟩
  obtain ⟨L, hL, eL⟩ := got_map (L0.map (·.2)) fun d hd => by
    obtain ⟨p, hp, rfl⟩ := List.mem_map.mp hd
    exact l2 p hp
  have lenL : L.length ≤ 6 := by
    have e1 := congrArg List.length eL
    have e2 := l1.length_le
    rw [List.length_map, List.length_map] at e1
    rw [List.length_map] at e2
    omega
  rw [eL]
  refine rb_setLc 5 3 (n := "_law_one") (enc := nd) (T := fun ls => ls = L) (SB := fun b d => d = nd b) sc_l_system.nd (by decide) (by decide) (ri_list (ex_var 3)) (fun ds e => ⟨L, e, by omega, rfl⟩)
    (blkOk_by (by kernel_rfl)) (sw_true rfl rfl rfl rfl) rfl (fun _ _ _ _ _ => pg_name (i := 5) sc_l_system.nd rfl (Or.inl rfl))
    (fun ls _ l hl _ _ _ _ _ => .inr ⟨_, rfl, rt_or (tx_ne hr ((sh_nd l).ok (by decide)) ((sh_nd []).ok (by decide)) (ex_var 5) (ex_tup ax_nil)) (rt_eq0 hr ((rx_call G hr (ax_cons ex_int ax_nil) ⟨9, by decide, by decide, rfl, rfl⟩).imp fun d ⟨k, _, e⟩ => ⟨_, e⟩))⟩)
    (fun ls _ l hl _ _ _ _ _ => rx_of (ex_var 5)) ?_
  rintro ls ds rfl ⟨L2, l1', _, l2', rfl⟩
  have e2 : L2.map (·.2) = (L2.map (·.1)).map nd := by
    rw [List.map_map]
    exact List.map_congr_left fun p hp => l2' p hp
  rw [e2]
  generalize L2.map (·.1) = L3 at l1'
  have sub : ∀ l ∈ L3, l ∈ ls := fun l hl => l1'.subset hl
  have len3 : L3.length ≤ 6 := Nat.le_trans l1'.length_le lenL
  refine rb_ret ((rx_of (ex_tup (ax_cons (ex_var 2) (ax_cons (ex_call GL hr (ax_cons (ex_var 3) ax_nil) ⟨n, L3, fun l hl => (hL l (sub l hl)).1, fun l hl => (hL l (sub l hl)).2, n6, len3, rfl, rfl⟩) ax_nil)))).imp ?_)
  rintro d rfl
  exact ⟨n, srt (minL L3), minL_sys n1 n6 (fun l hl => (hL l (sub l hl)).1) (fun l hl => (hL l (sub l hl)).2) len3, rfl⟩
theorem few_rats : ∀ b ∈ ([2, 4, 10] : List Nat), ∀ j : Nat, j < b + 1 → 0 ≤ mkRat (j : Int) b ∧ mkRat (j : Int) b ≤ 1 ∧ (mkRat (j : Int) b).num.natAbs < 2 ^ 4 ∧ (mkRat (j : Int) b).den < 2 ^ 4 := by decide +kernel
def RChances (ds : List PyData) (S : PyData → Prop) : Prop := ∃ n : Nat, n ≤ 6 ∧ ds = [.int (n : Int)] ∧ S = fun d => ∃ ps : List Rat, ChOk n ps ∧ d = chD ps
theorem c_lchances (F : Df K mg "_law_chances" s_l_chances ["_law_row", "_law_many"]) (M : Bi mg) (G : RCl P w K mg base 1 "_law_taken" RTaken) (GP : RCl P w K mg base 2 "_law_pick" RPick) (GR : Cl P w K mg base 2 "_law_ratio" RRed) : RCl P w K mg base 3 "_law_chances" RChances := by
  refine rcl_mk F sc_l_chances (fun ds T ⟨_, _, h, _⟩ => by rw [h]; rfl) ?_
  rintro f cdv A outer s0 H0 E0 hr _ _ ⟨n, h1, rfl, rfl⟩
  refine rb_set 2 sc_l_chances.nd (by decide) (rx_call GP hr (ax_cons (ex_lst (ax_cons ex_int (ax_cons ex_int (ax_cons ex_int ax_nil)))) ax_nil) ⟨[2, 4, 10], by decide, by decide, rfl, rfl⟩) ?_
  rintro d ⟨m, hm, rfl⟩
  have hm2 : 0 < m ∧ m ≤ 10 := by
    have hm := hm
    simp only [List.mem_cons, List.not_mem_nil, or_false] at hm
    omega
  refine rb_ret (rx_tupL M.tup ((rx_lc 3 (n := "_law_k") (enc := iE) (T := fun ls => ls = List.range n) (SB := fun _ d => ∃ q : Rat, (0 ≤ q ∧ q ≤ 1 ∧ Bd 4 q) ∧ d = rt q) sc_l_chances.nd (by decide) (ri_range (S := fun k => k = n) M.rng ((rx_of (ex_var 1)).imp fun d hd => ⟨n, hd, rfl, by omega⟩)) (fun ds ⟨k, hk, _, e⟩ => ⟨List.range n, by rw [e, hk]; rfl, by rw [List.length_range]; omega, rfl⟩) (blkOk_by (by kernel_rfl))
    (fun _ _ _ _ _ => pg_name (i := 3) sc_l_chances.nd rfl (Or.inl rfl)) (fun ls _ k hk _ _ _ _ _ => .inl rfl)
    (fun ls _ k hk _ _ _ _ _ => rx_call1 (S := fun d => ∃ k : Nat, k < m + 1 ∧ d = .int (k : Int)) (x := .int (m : Int)) GR hr (rx_call G hr (ax_cons (ex_add (ex_var 2) ex_int) ax_nil) ⟨m + 1, by omega, by omega, rfl, rfl⟩) (ex_var 2) ?_ (fun _ _ _ _ h => by cases h; exact .int _))).imp ?_))
  · rintro d ⟨k, hk, rfl⟩
    have hq := few_rats m hm k hk
    exact ⟨rt (mkRat (k : Int) m), ⟨_, ⟨hq.1, hq.2.1, hq.2.2⟩, rfl⟩, (k : Int), m, hm2.1, Nat.lt_of_lt_of_le (show m < 2 ^ 4 by omega) (Nat.pow_le_pow_right (by decide) (by decide)), rfl, rfl⟩
  · rintro d ⟨ls, ds, rfl, ⟨L, _, la, l2, rfl⟩, rfl⟩
    obtain ⟨qs, hq, eq⟩ := got_map (L.map (·.2)) fun d hd => by
      obtain ⟨p, hp, rfl⟩ := List.mem_map.mp hd
      exact l2 p hp
    refine ⟨_, rfl, qs, ⟨?_, fun q h => (hq q h).1, fun q h => (hq q h).2.1, fun q h => (hq q h).2.2⟩, by rw [eq]⟩
    have e1 := congrArg List.length eq
    have e2 := congrArg List.length (la rfl)
    rw [List.length_map, List.length_map] at e1
    rw [List.length_map, List.length_range] at e2
    omega
end
end Fw
/-! Faultworks, part M4: the cuts that the states show are the least hitting sets. -/
namespace Fw
open PySem PySem.Spec PyProof.Rows L2 FM
theorem st_nodup : ∀ n : Nat, n < 7 → (st n).Nodup := by decide +kernel
def failed (n : Nat) (s : List Nat) : List Nat := (List.range n).filter fun k => decide (s.getD k 0 = 0)
def cutS (n : Nat) (ls : List (List Nat)) (s : List Nat) : Bool := !wk ls s && ((failed n s).filter fun k => !wk ls (s.set k 1)).isEmpty
def lcuts (n : Nat) (ls : List (List Nat)) : List (List Nat) := ((st n).filter (cutS n ls)).map (failed n)
theorem mem_failed {n k : Nat} {s : List Nat} : k ∈ failed n s ↔ k < n ∧ s.getD k 0 = 0 := by
  unfold failed
  rw [List.mem_filter, List.mem_range, decide_eq_true_iff]
theorem failed_asc (n : Nat) (s : List Nat) : (failed n s).Pairwise (· < ·) := List.Pairwise.filter _ List.pairwise_lt_range
theorem failed_len (n : Nat) (s : List Nat) : (failed n s).length ≤ n := Nat.le_trans (List.length_filter_le _ _) (by rw [List.length_range]; exact Nat.le_refl _)
theorem asc_eq {l m : List Nat} (hl : l.Pairwise (· < ·)) (hm : m.Pairwise (· < ·)) (h : ∀ k, k ∈ l ↔ k ∈ m) : l = m := asc_one (fun a => Nat.lt_irrefl a) (fun a b h => by omega) hl hm h
theorem failed_inj {n : Nat} {s t : List Nat} (hs : s ∈ st n) (ht : t ∈ st n) (h : failed n s = failed n t) : s = t := by
  obtain ⟨ls, zs⟩ := st_mem.mp hs
  obtain ⟨lt, zt⟩ := st_mem.mp ht
  refine List.ext_getElem (ls.trans lt.symm) fun k h1 h2 => ?_
  have e1 : s.getD k 0 = s[k] := by rw [List.getD_eq_getElem?_getD, List.getElem?_eq_getElem h1]; rfl
  have e2 : t.getD k 0 = t[k] := by rw [List.getD_eq_getElem?_getD, List.getElem?_eq_getElem h2]; rfl
  have a := zs _ (List.getElem_mem h1)
  have b := zt _ (List.getElem_mem h2)
  have hk : k < n := by omega
  have c : (s.getD k 0 = 0) ↔ (t.getD k 0 = 0) := by
    constructor
    · intro z
      have := mem_failed.mpr ⟨hk, z⟩
      rw [h] at this
      exact (mem_failed.mp this).2
    · intro z
      have := mem_failed.mpr ⟨hk, z⟩
      rw [← h] at this
      exact (mem_failed.mp this).2
  rw [e1, e2] at c
  omega
theorem lcuts_nodup {n : Nat} (ls : List (List Nat)) (hn : n ≤ 6) : (lcuts n ls).Nodup := by
  unfold lcuts
  refine List.pairwise_map.mpr (List.Pairwise.imp_of_mem (fun {a b} ha hb h e => ?_) ((st_nodup n (by omega)).filter _))
  exact h (failed_inj (List.mem_filter.mp ha).1 (List.mem_filter.mp hb).1 e)
theorem cuts_nodup (ls : List (List Nat)) : (cutsOf ls).Nodup := by
  unfold cutsOf
  refine (srt_perm _).nodup_iff.mpr (List.pairwise_map.mpr (List.Pairwise.imp_of_mem (fun {a b} ha hb h e => ?_) (allMT_asc ls)))
  have ea := mask_bits (n := 8) (m := a) (Nat.lt_of_lt_of_le (List.mem_range.mp (List.mem_filter.mp ha).1) (by decide))
  have eb := mask_bits (n := 8) (m := b) (Nat.lt_of_lt_of_le (List.mem_range.mp (List.mem_filter.mp hb).1) (by decide))
  rw [e, eb] at ea
  omega
theorem cuts_anti {n : Nat} {ls : List (List Nat)} (S : SysOk n ls) : ∀ a ∈ cutsOf ls, ∀ b ∈ cutsOf ls, (∀ k ∈ a, k ∈ b) → a = b := fun a ha b hb hab => by
  obtain ⟨x, hx, rfl⟩ := (mem_cuts S).mp ha
  obtain ⟨y, hy, rfl⟩ := (mem_cuts S).mp hb
  have hx8 : x < 2 ^ 8 := Nat.lt_of_lt_of_le (mt_lt S.lt hx) (Nat.pow_le_pow_right (by decide) (by have := S.n8; omega))
  exact congrArg (bits 8) (hy.2 x (fun k hk => (mem_bits.mp (hab k (mem_bits.mpr ⟨bit_small hx8 hk, hk⟩))).2) hx.1)
theorem set_getD {s : List Nat} {k j : Nat} (hk : k < s.length) : (s.set k 1).getD j 0 = if j = k then 1 else s.getD j 0 := by
  rw [List.getD_eq_getElem?_getD, List.getD_eq_getElem?_getD]
  by_cases e : j = k
  · rw [if_pos e, e, List.getElem?_set_self hk]; rfl
  · rw [if_neg e, List.getElem?_set_ne (fun z => e z.symm)]
theorem cutS_iff {n : Nat} {ls : List (List Nat)} {s : List Nat} : cutS n ls s = true ↔ wk ls s = false ∧ ∀ k ∈ failed n s, wk ls (s.set k 1) = true := by
  unfold cutS
  rw [Bool.and_eq_true, Bool.not_eq_true', List.isEmpty_iff, List.filter_eq_nil_iff]
  exact and_congr Iff.rfl ⟨fun h k hk => by simpa using h k hk, fun h k hk => by rw [h k hk]; exact Bool.false_ne_true⟩
theorem not_wk {ls : List (List Nat)} {s : List Nat} : wk ls s = false ↔ ∀ l ∈ ls, ∃ k ∈ l, s.getD k 0 = 0 := by
  rw [← Bool.not_eq_true, wk_iff]
  constructor
  · intro h l hl
    refine Classical.byContradiction fun z => h ⟨l, hl, fun k hk e => z ⟨k, hk, e⟩⟩
  · rintro h ⟨l, hl, hk⟩
    obtain ⟨k, h1, h2⟩ := h l hl
    exact hk k h1 h2
theorem lcuts_sub {n : Nat} {ls : List (List Nat)} (S : SysOk n ls) {c : List Nat} (h : c ∈ lcuts n ls) : c ∈ cutsOf ls := by
  obtain ⟨s, hs, rfl⟩ := List.mem_map.mp h
  obtain ⟨hs, hc⟩ := List.mem_filter.mp hs
  obtain ⟨c1, c2⟩ := cutS_iff.mp hc
  have n8 := S.n8
  have hl := (st_mem.mp hs).1
  have bit : ∀ j, (mask (failed n s)).testBit j = true ↔ j ∈ failed n s := fun j => by rw [mask_bit (failed_asc n s)]; exact decide_eq_true_iff
  refine (mem_cuts S).mpr ⟨mask (failed n s), ⟨fun p hp => ?_, fun m' sub hit => ?_⟩, ?_⟩
  · obtain ⟨k, h1, h2⟩ := not_wk.mp c1 p hp
    exact ⟨k, h1, (bit k).mpr (mem_failed.mpr ⟨S.lt p hp k h1, h2⟩)⟩
  · refine Sub.antisymm sub fun k hk => Classical.byContradiction fun z => ?_
    have hkf := (bit k).mp hk
    obtain ⟨p, hp, hu⟩ := wk_iff.mp (c2 k hkf)
    obtain ⟨j, h1, h2⟩ := hit p hp
    have hjf := (bit j).mp (sub j h2)
    have := hu j h1
    rw [set_getD (by have := (mem_failed.mp hkf).1; omega)] at this
    by_cases e : j = k
    · rw [e] at h2; exact z h2
    · rw [if_neg e] at this; exact this (mem_failed.mp hjf).2
  · exact asc_eq (failed_asc n s) (bits_asc _ _) fun k => (bits_mask (n := 8) (failed_asc n s) (fun k hk => by have := (mem_failed.mp hk).1; omega) k).symm
theorem sub_lcuts {n : Nat} {ls : List (List Nat)} (S : SysOk n ls) {c : List Nat} (h : c ∈ cutsOf ls) : c ∈ lcuts n ls := by
  obtain ⟨m, hm, rfl⟩ := (mem_cuts S).mp h
  have n8 := S.n8
  have hm2 := mt_lt S.lt hm
  let s : List Nat := (List.range n).map fun k => if m.testBit k = true then 0 else 1
  have hsl : s.length = n := by show (List.map _ _).length = n; rw [List.length_map, List.length_range]
  have get : ∀ k, k < n → s.getD k 0 = if m.testBit k = true then 0 else 1 := fun k hk => by
    show (List.map _ _).getD k 0 = _
    rw [List.getD_eq_getElem?_getD, List.getElem?_map, List.getElem?_range hk]; rfl
  have hs : s ∈ st n := st_mem.mpr ⟨hsl, fun k hk => by
    obtain ⟨j, _, e⟩ := List.mem_map.mp hk
    rw [← e]
    split
    · exact .inl rfl
    · exact .inr rfl⟩
  have mf : ∀ k, k ∈ failed n s ↔ m.testBit k = true := fun k => by
    rw [mem_failed]
    constructor
    · rintro ⟨h1, h2⟩
      rw [get k h1] at h2
      by_cases e : m.testBit k = true
      · exact e
      · rw [if_neg e] at h2; cases h2
    · intro h
      have hk := bit_small hm2 h
      exact ⟨hk, by rw [get k hk, if_pos h]⟩
  refine List.mem_map.mpr ⟨s, List.mem_filter.mpr ⟨hs, cutS_iff.mpr ⟨not_wk.mpr fun p hp => ?_, fun k hk => ?_⟩⟩, ?_⟩
  · obtain ⟨k, h1, h2⟩ := hm.1 p hp
    exact ⟨k, h1, (mem_failed.mp ((mf k).mpr h2)).2⟩
  · have hkn := (mem_failed.mp hk).1
    have hkb := (mf k).mp hk
    let m2 : Nat := mask ((bits 8 m).filter fun j => decide (j ≠ k))
    have b2 : ∀ j, m2.testBit j = true ↔ m.testBit j = true ∧ j ≠ k := fun j => by
      show (mask _).testBit j = true ↔ _
      rw [mask_bit (List.Pairwise.filter _ (bits_asc 8 m)), decide_eq_true_iff, List.mem_filter, mem_bits, decide_eq_true_iff]
      constructor
      · rintro ⟨⟨_, h1⟩, h2⟩; exact ⟨h1, h2⟩
      · rintro ⟨h1, h2⟩
        exact ⟨⟨by have := bit_small hm2 h1; omega, h1⟩, h2⟩
    have nh : ¬ Hit ls m2 := fun z => by
      have := hm.2 m2 (fun j hj => ((b2 j).mp hj).1) z
      have h3 := (b2 k).mp (by rw [this]; exact hkb)
      exact h3.2 rfl
    have ⟨p, hp, hq⟩ : ∃ p ∈ ls, ∀ j ∈ p, ¬ m2.testBit j = true := Classical.byContradiction fun z => nh fun p hp => Classical.byContradiction fun y => z ⟨p, hp, fun j hj e => y ⟨j, hj, e⟩⟩
    refine wk_iff.mpr ⟨p, hp, fun j hj => ?_⟩
    rw [set_getD (by omega)]
    by_cases e : j = k
    · rw [if_pos e]; decide
    · rw [if_neg e, get j (S.lt p hp j hj), if_neg (fun z => hq j hj ((b2 j).mpr ⟨z, e⟩))]; decide
  · refine asc_eq (failed_asc n s) (bits_asc _ _) fun k => ?_
    rw [mf, mem_bits]
    exact ⟨fun h => ⟨by have := bit_small hm2 h; omega, h⟩, fun h => h.2⟩
theorem perm_of {α : Type} [DecidableEq α] {a b : List α} (h : a.Nodup) (g : b.Nodup) (e : ∀ x, x ∈ a ↔ x ∈ b) : a.Perm b := List.perm_iff_count.mpr fun x => by
  rw [h.count, g.count]
  by_cases z : x ∈ a
  · rw [if_pos z, if_pos ((e x).mp z)]
  · rw [if_neg z, if_neg fun y => z ((e x).mpr y)]
theorem lcuts_srt {n : Nat} {ls : List (List Nat)} (S : SysOk n ls) : srt (lcuts n ls) = cutsOf ls := srt_one (srt_le _) (perm_of (lcuts_nodup ls S.n8) (cuts_nodup ls) fun x => ⟨lcuts_sub S, sub_lcuts S⟩)
theorem lcuts_ne {n : Nat} {ls : List (List Nat)} (S : SysOk n ls) : (∀ l ∈ lcuts n ls, l ≠ []) ∨ (lcuts n ls).length ≤ 1 := anti_ne (lcuts_nodup ls S.n8) fun a ha b hb => cuts_anti S a (lcuts_sub S ha) b (lcuts_sub S hb)
theorem lcuts_len {n : Nat} (ls : List (List Nat)) (hn : n ≤ 6) : (lcuts n ls).length ≤ 64 := by
  unfold lcuts
  rw [List.length_map]
  exact Nat.le_trans (List.length_filter_le _ _) (st_le hn)
end Fw
/-! Faultworks, part Y: the law's cuts, its likeness. -/
namespace Fw
open PySem PySem.Spec PyProof.Rows L2 FM
theorem set_self {σ : L2.St} {i : Nat} {x : Option V} (h : σ[i]? = some x) : σ.set i x = σ := by
  refine List.ext_getElem? fun j => ?_
  by_cases e : i = j
  · subst e
    rw [List.getElem?_set_self (List.getElem?_eq_some_iff.mp h).1, h]
  · rw [List.getElem?_set_ne e]
theorem Env.has {K : PySem.W.Frag} {H : Hp} {B : Ban} {σ : L2.St} {ρ : DEnv} (h : Env K H B σ ρ) {i : Nat} {v : V} {d : PyData} (hi : σ[i]? = some (some v)) (a : At K H B v d) : Env K H B σ (ρ.set i (some d)) := by
  have := h.set i a
  rwa [set_self hi] at this
section
variable {X : Cx} {e : Expr} {sts : List Stmt} {ρ : DEnv} {d : PyData} {o : Out} {σ : L2.St} {H : Hp} {B : Ban}
theorem EX.go {Q : VK} (h : EX X e ρ d) (hE : Env X.K H B σ ρ) (q : ∀ v H', Same H H' → At X.K H' B v d → Q v H') : wE X e σ H Q := h σ H B Q hE q
theorem TX.go {u : Bool} {Q : Bool → Hp → Prop} (h : TX X e ρ u) (hE : Env X.K H B σ ρ) (q : ∀ H', Same H H' → Q u H') : wT X e σ H Q := h σ H B Q hE q
theorem BX.go {D : Ends} (h : BX X sts ρ o) (hE : Env X.K H B σ ρ) (q : Fin X.K H B D o) : wSs X sts D σ H := h σ H B D hE q
end
section
variable {P : Program} {w : World} {K : PySem.W.Frag} {mg : Str → Option Value} {base : Heap}
def RLCuts (ds : List PyData) (d : PyData) : Prop := ∃ (n : Nat) (ls : List (List Nat)), SysOk n ls ∧ ds = [sysD n ls] ∧ d = .tuple ((cutsOf ls).map nd)
theorem c_llcuts (F : Df K mg "_law_cuts" s_l_cuts ["_law_system_here"]) (M : Bi mg) (GS : Cl P w K mg base 1 "_law_states" RStates) (GW : Cl P w K mg base 1 "_law_works" RWorks) (GU : Cl P w K mg base 1 "_law_up" RUp) : Cl P w K mg base 2 "_law_cuts" RLCuts := by
  refine cl_mk F sc_l_cuts (fun ds d ⟨_, _, _, h, _⟩ => by rw [h]; rfl) ?_
  rintro f cdv A outer s H0 E hr _ _ ⟨n, ls, S, rfl, rfl⟩
  have n8 := S.n8
  intro σ H B D hE q
  refine PSs.w (pss_cons (ps_par (i := 1) (j := 2) rfl sc_l_cuts.nd rfl rfl (by decide) rfl rfl (pa_cons pe_w (pa_cons (pe_lst pa_nil) pa_nil)) (by rfl)) (pss_cons (ps_for PassesOwn.never rfl (pi_list pe_w) (pg_name (i := 3) sc_l_cuts.nd rfl (by first | exact Or.inl rfl | exact Or.inr rfl))
    (pss_cons (ps_set (i := 4) sc_l_cuts.nd rfl (by first | exact Or.inl rfl | exact Or.inr rfl) pe_w) (pss_one (ps_if pt_w (pss_one (ps_expr (pe_bm PySem.F.plainAttrs_list PySem.F.slot_list_append PySem.F.type_list_append mt_append (pe_var (i := 2) rfl (by first | exact Or.inl rfl | exact Or.inr (Or.inl rfl) | exact Or.inr (Or.inr rfl))) (pa_cons pe_w pa_nil)))) pss_nil)))) pss_w)) ?_
  refine EX.go (ex_ixT (i := 0) (ds := [.int (n : Int), .tuple (ls.map nd)]) rfl (ex_var 0) ex_int) hE fun v1 H1 s1 a1 => ⟨Nat.zero_le _, fun L hL => ⟨v1, .ref L, rfl, ?_⟩⟩
  have sL : Same H1 (upd H1 L (.lst [])) := same_new hL
  have e1 : Env K (upd H1 L (.lst [])) (ban B L) (((σ.set 1 (some v1))).set 2 (some (.ref L))) [some (sysD n ls), some (.int (n : Int)), none, none, none, none] := ((((hE.mono s1).ban hL sL (by rw [upd_same]; exact fun z => nomatch z)).set 1 (by cases a1; exact .int _)).opq 2 _ rfl)
  have lenσ : 2 < (σ.set 1 (some v1)).length := by rw [List.length_set, hE.len]; exact Nat.le_of_ble_eq_true rfl
  refine EX.go (ex_call GS hr (ax_cons (ex_var 1) ax_nil) ⟨n, n8, rfl, rfl⟩) e1 fun v3 H3 s3 a3 => ?_
  cases a3 with
  | @lst t xs _ h3 nb g3 =>
    have nt : t ≠ L := fun z => nb (.inr z)
    refine ⟨t, rfl, ⟨xs, .of h3⟩, for_list (K := K) (xs := xs) (fun i σ' H' => But L H3 H' ∧ Env K H' (ban B L) σ' [some (sysD n ls), some (.int (n : Int)), none, none, none, none] ∧ σ'[2]? = some (some (.ref L)) ∧
      ∃ acc, H' L = some (.lst acc) ∧ AtAll K H' (ban B L) acc (((((st n).take i).filter (cutS n ls)).map (failed n)).map nd)) ⟨But.refl _ _, e1.mono s3, List.getElem?_set_self lenσ, [], s3 _ _ upd_same, by rw [List.take_zero]; exact .nil⟩
      (fun i σ' H' _ ⟨b, _⟩ => .of (b _ _ nt h3)) ?_ ?_⟩
    · rintro i x σ' H' hx ⟨b, e', j', acc, hacc, aacc⟩
      have hi : i < xs.length := (List.getElem?_eq_some_iff.mp hx).1
      have hi' : i < (st n).length := by have := g3.len; rw [List.length_map] at this; omega
      obtain ⟨x', hx', ax⟩ := (atAll_be (s3 _ _ upd_same) (.inr rfl) b (Ext.refl _ _) _ _ g3).get (i := i) (d := nd (st n)[i]) (by rw [List.getElem?_map, List.getElem?_eq_getElem hi']; rfl)
      rw [hx] at hx'
      cases hx'
      have ht : (st n)[i] ∈ st n := List.getElem_mem hi'
      have etk : (st n).take (i + 1) = (st n).take i ++ [(st n)[i]] := by rw [List.take_add_one, List.getElem?_eq_getElem hi']; rfl
      generalize (st n)[i] = t' at ax ht etk
      have htl := (st_mem.mp ht).1
      have hacl : acc.length ≤ 64 := by
        rw [aacc.len, List.length_map, List.length_map]
        refine Nat.le_trans (List.length_filter_le _ _) (Nat.le_trans (by rw [List.length_take]; exact Nat.min_le_right _ _) (st_le n8))
      have e2 := e'.set 3 ax
      refine EX.go (ex_tupL M.tup (ex_lc 5 (n := "_law_k") (enc := iE) (ls := List.range n) (p := fun k => decide (t'.getD k 0 = 0)) (f := iE) sc_l_cuts.nd (ix_range M.rng (ex_var 1) (by omega)) (by rw [List.length_range]; omega) (blkOk_by (by kernel_rfl))
        (fun _ _ _ _ _ => pg_name (i := 5) sc_l_cuts.nd rfl (by first | exact Or.inl rfl | exact Or.inr rfl)) (fun k hk _ _ _ _ _ => ifx_one ((tx_eq hr (shaped_int _) (shaped_int _) (ex_ixT (s_get (s := t') (k := k) (by rw [htl]; exact List.mem_range.mp hk)) (ex_var 3) (ex_var 5)) ex_int).is (by rw [eqv_int]; exact decide_eq_decide.mpr (by omega)))) (fun k hk _ _ _ _ _ _ => ex_var 5))) e2 fun v4 H4 s4 a4 => ?_
      have e4 := (e2.mono s4).set 4 a4
      have j4 : ((σ'.set 3 (some x)).set 4 (some v4))[2]? = some (some (.ref L)) := by rw [List.getElem?_set_ne (by decide), List.getElem?_set_ne (by decide)]; exact j'
      refine TX.go (tx_w (wx_and2 (u := !wk ls t') (v := ((failed n t').filter fun k => !wk ls (t'.set k 1)).isEmpty) (tx_not (tx_val (ex_call GW hr (ax_cons (ex_var 0) (ax_cons (ex_var 3) ax_nil)) ⟨n, ls, t', S, by omega, rfl, rfl⟩))) fun _ =>
        (tx_eqNil hr (sh_map (n := 0) fun b _ => sh_int _) (ex_lc 5 (n := "_law_k") (enc := iE) (ls := failed n t') (p := fun k => !wk ls (t'.set k 1)) (f := iE) sc_l_cuts.nd (ix_tup ((ex_var 4).is rfl)) (by have := failed_len n t'; omega) (blkOk_by (by kernel_rfl))
          (fun _ _ _ _ _ => pg_name (i := 5) sc_l_cuts.nd rfl (by first | exact Or.inl rfl | exact Or.inr rfl)) (fun k hk _ _ _ _ _ => ifx_one (tx_not (tx_val (ex_call GW hr (ax_cons (ex_var 0) (ax_cons (ex_call GU hr (ax_cons (ex_var 3) (ax_cons (ex_var 5) (ax_cons ex_int ax_nil))) ⟨t', k, by rw [htl]; exact (mem_failed.mp hk).1, by omega, rfl, rfl⟩) ax_nil)) ⟨n, ls, t'.set k 1, S, by rw [List.length_set]; omega, rfl, rfl⟩)))) (fun k hk _ _ _ _ _ _ => ex_var 5)) (ex_lst ax_nil)).is (by rw [List.isEmpty_map]))) e4 fun H5 s5 => ?_
      have e5 := e4.mono s5
      have b5 : But L H3 H5 := b.trans (same_but (s4.trans s5))
      have le : Le [some (sysD n ls), some (.int (n : Int)), none, none, none, none] (([some (sysD n ls), some (.int (n : Int)), none, none, none, none].set 3 (some (nd t'))).set 4 (some (nd (failed n t')))) := Le.same (Le.same (Le.same (Le.drop (Le.drop (Le.same Le.nil)))))
      have hacc5 := (s4.trans s5) _ _ hacc
      cases hc : cutS n ls t' with
      | true =>
        have hc1 : (!wk ls t' && ((failed n t').filter fun k => !wk ls (t'.set k 1)).isEmpty) = true := hc
        rw [hc1]
        refine iteT ⟨.ref L, j4, .inl ⟨rfl, _, .of hacc5⟩, ?_⟩
        refine EX.go (ex_var 4) e5 fun v6 H6 s6 a6 => ?_
        have hacc6 := s6 _ _ hacc5
        refine ⟨L, acc, v6, rfl, rfl, hacc6, Nat.lt_of_le_of_lt hacl (by decide), ?_⟩
        refine ⟨(b5.trans (same_but s6)).trans but_upd, ((e5.mono s6).le le).put hacc6 (.inr rfl) _, j4, acc ++ [v6], upd_same, ?_⟩
        rw [etk, List.filter_append, List.map_append, List.map_append]
        have ef : ([t'].filter (cutS n ls)).map (failed n) = [failed n t'] := by simp [hc]
        rw [ef]
        exact atAll_put hacc6 (.inr rfl) _ _ ((aacc.mono ((s4.trans s5).trans s6)).app (.one a6))
      | false =>
        have hc1 : (!wk ls t' && ((failed n t').filter fun k => !wk ls (t'.set k 1)).isEmpty) = false := hc
        rw [hc1]
        refine iteF ⟨b5, e5.le le, j4, acc, hacc5, ?_⟩
        rw [etk, List.filter_append, List.map_append, List.map_append]
        have ef : ([t'].filter (cutS n ls)).map (failed n) = [] := by simp [hc]
        rw [ef, List.map_nil, List.append_nil]
        exact aacc.mono (s4.trans s5)
    · rintro σ' H' ⟨b, e', j', acc, hacc, aacc⟩
      have hl := g3.len
      rw [List.length_map] at hl
      rw [hl, List.take_length] at aacc
      have nBL : ¬ B L := (hE.dom.mono s1).no hL
      have e6 := e'.free.has j' (.lst hacc nBL (atAll_free _ _ aacc))
      have sH : Same H H' := fun a o ha => by
        have n1 : a ≠ L := ne_of_none (s1 _ _ ha) hL
        exact b a o n1 (s3 _ _ (sL _ _ (s1 _ _ ha)))
      exact BX.go (bx_ret (sx_ret ((ex_tupL M.tup (ex_sortedN (ls := lcuts n ls) M.srt hr (lcuts_ne S) (by have := lcuts_len (n := n) ls n8; omega) (ex_var 2))).is (by rw [lcuts_srt S])))) e6 fun v7 H7 s7 a7 => q v7 H7 (sH.trans s7) a7
/-! ### likeness -/
def RSame (R : PyData → Prop) (ds : List PyData) (d : PyData) : Prop := ∃ x : PyData, R x ∧ ds = [x, x] ∧ d = .bool true
theorem ex_isNone {X : Cx} {a : Expr} {ρ : DEnv} {pos p2 : Pos} {k} {i : Int} (ha : EX X a ρ (.int i)) (hm : behindInMarks .Is (.Constant .none k p2) = false := by first | exact nomark _ | rfl) : TX X (.Compare a [.Is] [.Constant .none k p2] pos) ρ false := fun σ H B Q hE q =>
  PT.w (pt_cmpR op_isN pe_w pe_non hm) (ha σ H B _ hE fun v H1 s1 a1 => by
    cases a1
    exact ⟨rfl, false, rfl, q H1 s1⟩)
theorem c_alike0 (F : Df K mg "_law_alike" s_l_alike ["_law_found", "_law_due"]) (M : Bi mg) : Cl P w K mg base 1 "_law_alike" (RSame fun x => ∃ i : Int, x = .int i) := by
  refine cl_mk F sc_l_alike (fun ds d ⟨_, _, h, _⟩ => by rw [h]; rfl) ?_
  rintro f cdv A outer s H E hr _ _ ⟨_, ⟨i, rfl⟩, rfl, rfl⟩
  refine bx_cons (sx_pass ((tx_val (ex_isi2 M.isi M.tup boot_tuple M.lst boot_list kIT kIL (ex_var 1))).is rfl)) ?_
  refine bx_cons (sx_pass (tx_w (wx_orF (ex_isNone (ex_var 1)) (wx_or1 ((tx_val (ex_isi M.isi M.str boot_str kIS (ex_var 1))).is rfl))))) ?_
  exact bx_ret (sx_ret (ex_andT (ex_isi M.isi M.int boot_int kII (ex_var 0)) (ex_andT ((ex_eq hr rfl rfl (ex_isi M.isi M.bol boot_bool kIB (ex_var 0)) (ex_isi M.isi M.bol boot_bool kIB (ex_var 1))).is (by simp [PyData.eqv])) (ex_one ((ex_eq hr (shaped_int _) (shaped_int _) (ex_var 0) (ex_var 1)).is (by rw [eqv_int, decide_eq_true rfl]))))))
theorem c_alikeT {k : Nat} {R : PyData → Prop} (F : Df K mg "_law_alike" s_l_alike ["_law_found", "_law_due"]) (M : Bi mg) (G : Cl P w K mg base k "_law_alike" (RSame R)) : Cl P w K mg base (k + 1) "_law_alike" (RSame fun x => ∃ xs : List PyData, xs.length ≤ 1000 ∧ (∀ x ∈ xs, R x) ∧ x = .tuple xs) := by
  refine cl_mk F sc_l_alike (fun ds d ⟨_, _, h, _⟩ => by rw [h]; rfl) ?_
  rintro f cdv A outer s H E hr _ _ ⟨_, ⟨xs, hl, hR, rfl⟩, rfl, rfl⟩
  refine bx_ret (sx_ifT ((tx_val (ex_isi2 M.isi M.tup boot_tuple M.lst boot_list kTT kTL (ex_var 1))).is rfl) ?_)
  refine bx_cons (sx_pass (tx_w (wx_orF ((tx_not (tx_val (ex_isi2 M.isi M.tup boot_tuple M.lst boot_list kTT kTL (ex_var 0)))).is rfl) (wx_or1 ((tx_ne hr rfl rfl (ex_isi M.isi M.lst boot_list kTL (ex_var 0)) (ex_isi M.isi M.lst boot_list kTL (ex_var 1))).is (by simp [PyData.eqv])))))) ?_
  refine bx_cons (sx_pass ((tx_ne hr (shaped_int _) (shaped_int _) (ex_lenT M.len (ex_var 0)) (ex_lenT M.len (ex_var 1))).is (by rw [eqv_int, decide_eq_true rfl]; rfl))) ?_
  refine bx_ret (sx_ret ((ex_eqNil hr (sh_map (n := 0) fun b _ => sh_int _) (ex_lc 2 (n := "_law_k") (enc := iE) (ls := List.range xs.length) (p := fun _ => false) (f := iE) sc_l_alike.nd (ix_range M.rng (ex_lenT M.len (ex_var 1)) (by omega)) (by rw [List.length_range]; omega) (blkOk_by (by kernel_rfl))
    (fun _ _ _ _ _ => pg_name (i := 2) sc_l_alike.nd rfl (Or.inl rfl)) (fun k hk _ _ _ _ _ => ifx_one ((tx_not (tx_val (ex_call G hr (ax_cons (ex_ixT (List.getElem?_eq_getElem (List.mem_range.mp hk)) (ex_var 0) (ex_var 2)) (ax_cons (ex_ixT (List.getElem?_eq_getElem (List.mem_range.mp hk)) (ex_var 1) (ex_var 2)) ax_nil))
      ⟨_, hR _ (List.getElem_mem (List.mem_range.mp hk)), rfl, rfl⟩ (Nat.le_refl _)))).is rfl)) (fun k hk _ _ _ _ _ _ => ex_var 2)) (ex_lst ax_nil)).is ?_))
  rw [List.filter_eq_nil_iff.mpr fun _ _ => Bool.false_ne_true]
  rfl
end
end Fw
/-! Faultworks, part M5: the chance that the system works lies between the bounds. -/
namespace Fw
open PySem PySem.Spec PyProof.Rows L2 FM
theorem fold_acc : ∀ (l : List Rat) (a : Rat), l.foldl (· * ·) a = a * mulAll l
  | [], a => (Rat.mul_one a).symm
  | q :: l, a => by
    unfold mulAll
    rw [List.foldl_cons, List.foldl_cons, fold_acc l, fold_acc l (1 * q), Rat.one_mul, Rat.mul_assoc]
theorem mul_cons (q : Rat) (l : List Rat) : mulAll (q :: l) = q * mulAll l := by
  show l.foldl (· * ·) (1 * q) = _
  rw [fold_acc, Rat.one_mul]
theorem mul_snoc (l : List Rat) (q : Rat) : mulAll (l ++ [q]) = mulAll l * q := by
  unfold mulAll
  rw [List.foldl_append]
  rfl
theorem mul_filter {p : Nat → Bool} (x : Nat → Rat) : ∀ l : List Nat, mulAll (l.map fun k => if p k = true then x k else 1) = mulAll ((l.filter p).map x)
  | [] => rfl
  | k :: l => by
    rw [List.map_cons, mul_cons, mul_filter x l]
    cases h : p k with
    | true => rw [List.filter_cons, h, if_pos rfl, if_pos rfl, List.map_cons, mul_cons]
    | false => rw [List.filter_cons, h, if_neg Bool.false_ne_true, if_neg Bool.false_ne_true, Rat.one_mul]
theorem mul_mono {x y : Nat → Rat} : ∀ l : List Nat, (∀ k ∈ l, 0 ≤ x k ∧ x k ≤ y k) → 0 ≤ mulAll (l.map x) ∧ mulAll (l.map x) ≤ mulAll (l.map y)
  | [], _ => ⟨show (0 : Rat) ≤ 1 by decide, Rat.le_refl⟩
  | k :: l, h => by
    obtain ⟨a1, a2⟩ := h k List.mem_cons_self
    obtain ⟨b1, b2⟩ := mul_mono l fun j hj => h j (List.mem_cons_of_mem _ hj)
    rw [List.map_cons, List.map_cons, mul_cons, mul_cons]
    refine ⟨Rat.mul_nonneg a1 b1, Rat.le_trans (Rat.mul_le_mul_of_nonneg_left b2 a1) (Rat.mul_le_mul_of_nonneg_right a2 (Rat.le_trans b1 b2))⟩
theorem mul_zero' {x : Nat → Rat} : ∀ l : List Nat, (∃ k ∈ l, x k = 0) → mulAll (l.map x) = 0
  | [], h => by obtain ⟨k, hk, _⟩ := h; cases hk
  | k :: l, h => by
    rw [List.map_cons, mul_cons]
    obtain ⟨j, hj, e⟩ := h
    rcases List.mem_cons.mp hj with hj | hj
    · rw [← hj, e, Rat.zero_mul]
    · rw [mul_zero' l ⟨j, hj, e⟩, Rat.mul_zero]
theorem mul_congr {x y : Nat → Rat} {l : List Nat} (h : ∀ k ∈ l, x k = y k) : mulAll (l.map x) = mulAll (l.map y) := by rw [List.map_congr_left h]
/-- a sum over states -/
def sm (f : List Nat → Rat) : List (List Nat) → Rat
  | [] => 0
  | s :: l => f s + sm f l
theorem sm_app (f : List Nat → Rat) : ∀ l m : List (List Nat), sm f (l ++ m) = sm f l + sm f m
  | [], m => by show sm f m = 0 + sm f m; rw [Rat.zero_add]
  | s :: l, m => by
    show f s + sm f (l ++ m) = f s + sm f l + sm f m
    rw [sm_app f l m, Rat.add_assoc]
theorem sm_map (f : List Nat → Rat) (g : List Nat → List Nat) : ∀ l : List (List Nat), sm f (l.map g) = sm (fun s => f (g s)) l
  | [] => rfl
  | s :: l => by
    show f (g s) + sm f (l.map g) = f (g s) + sm _ l
    rw [sm_map f g l]
theorem sm_congr {f g : List Nat → Rat} : ∀ {l : List (List Nat)}, (∀ s ∈ l, f s = g s) → sm f l = sm g l
  | [], _ => rfl
  | s :: l, h => by
    show f s + sm f l = g s + sm g l
    rw [h s List.mem_cons_self, sm_congr fun t ht => h t (List.mem_cons_of_mem _ ht)]
theorem sm_le {f g : List Nat → Rat} : ∀ {l : List (List Nat)}, (∀ s ∈ l, f s ≤ g s) → sm f l ≤ sm g l
  | [], _ => Rat.le_refl
  | s :: l, h => by
    have h1 := h s List.mem_cons_self
    have h2 := sm_le fun t ht => h t (List.mem_cons_of_mem _ ht)
    show f s + sm f l ≤ g s + sm g l
    grind
theorem sm_mul (f : List Nat → Rat) (c : Rat) : ∀ l : List (List Nat), sm (fun s => f s * c) l = sm f l * c
  | [] => (Rat.zero_mul c).symm
  | s :: l => by
    show f s * c + sm _ l = (f s + sm f l) * c
    rw [sm_mul f c l]
    grind
theorem sm_sub (f g : List Nat → Rat) : ∀ l : List (List Nat), sm (fun s => f s - g s) l = sm f l - sm g l
  | [] => by show (0 : Rat) = 0 - 0; grind
  | s :: l => by
    show f s - g s + sm _ l = (f s + sm f l) - (g s + sm g l)
    rw [sm_sub f g l]
    grind
theorem tot_sm (ls : List (List Nat)) (ps : List Rat) : ∀ (l : List (List Nat)) (a : Rat), l.foldl (totOf ls ps) a = a + sm (fun s => if wk ls s = true then wt ps s else 0) l
  | [], a => by show a = a + 0; grind
  | s :: l, a => by
    rw [List.foldl_cons, tot_sm ls ps l]
    show totOf ls ps a s + _ = a + ((if wk ls s = true then wt ps s else 0) + _)
    unfold totOf
    split <;> grind
/-- a product over a state's parts -/
def gw (a b : Nat → Rat) (s : List Nat) (k : Nat) : Rat := if s.getD k 0 = 1 then a k else b k
def G (a b : Nat → Rat) (n : Nat) (s : List Nat) : Rat := mulAll ((List.range n).map (gw a b s))
theorem getD_app {t : List Nat} {b k : Nat} (h : k < t.length) : (t ++ [b]).getD k 0 = t.getD k 0 := by
  rw [List.getD_eq_getElem?_getD, List.getD_eq_getElem?_getD, List.getElem?_append_left h]
theorem getD_end {t : List Nat} {b n : Nat} (h : t.length = n) : (t ++ [b]).getD n 0 = b := by
  rw [List.getD_eq_getElem?_getD, List.getElem?_append_right (by omega), h, Nat.sub_self]
  rfl
theorem G_snoc (a b : Nat → Rat) {n : Nat} {t : List Nat} (h : t.length = n) (z : Nat) : G a b (n + 1) (t ++ [z]) = G a b n t * (if z = 1 then a n else b n) := by
  unfold G
  rw [List.range_succ, List.map_append, List.map_singleton, mul_snoc]
  congr 1
  · refine mul_congr fun k hk => ?_
    unfold gw
    rw [getD_app (by rw [h]; exact List.mem_range.mp hk)]
  · unfold gw
    rw [getD_end h]
theorem sum_G (a b : Nat → Rat) : ∀ n : Nat, sm (G a b n) (st n) = mulAll ((List.range n).map fun k => a k + b k)
  | 0 => by show mulAll [] + 0 = mulAll []; grind
  | n + 1 => by
    show sm _ ((st n).map (· ++ [0]) ++ (st n).map (· ++ [1])) = _
    rw [sm_app, sm_map, sm_map]
    rw [sm_congr (g := fun t => G a b n t * b n) fun t ht => by rw [G_snoc a b (st_mem.mp ht).1, if_neg (by decide)], sm_congr (f := fun s => G a b (n + 1) (s ++ [1])) (g := fun t => G a b n t * a n) fun t ht => by rw [G_snoc a b (st_mem.mp ht).1, if_pos rfl]]
    rw [sm_mul, sm_mul, sum_G a b n, List.range_succ, List.map_append, List.map_singleton, mul_snoc]
    grind
section
variable {n : Nat} {ls : List (List Nat)} {ps : List Rat}
theorem wt_G (hs : s.length = n) : wt ps s = G (fun k => ps.getD k 0) (fun k => 1 - ps.getD k 0) n s := by
  unfold wt G
  rw [hs]
  rfl
theorem p01 (C : ChOk n ps) {k : Nat} (h : k ∈ List.range n) : 0 ≤ ps.getD k 0 ∧ ps.getD k 0 ≤ 1 := (getD_bd C (List.mem_range.mp h)).2.2
theorem sum_one (n : Nat) (ps : List Rat) : sm (wt ps) (st n) = 1 := by
  rw [sm_congr fun s hs => wt_G (ps := ps) (st_mem.mp hs).1, sum_G]
  rw [mul_congr (y := fun _ => (1 : Rat)) fun k _ => by grind]
  have : ∀ l : List Nat, mulAll (l.map fun _ => (1 : Rat)) = 1 := fun l => by
    induction l with
    | nil => rfl
    | cons x l ih => rw [List.map_cons, mul_cons, ih]; exact Rat.mul_one 1
  exact this _
theorem wt_nonneg (C : ChOk n ps) {s : List Nat} (hs : s ∈ st n) : 0 ≤ wt ps s := by
  rw [wt_G (st_mem.mp hs).1]
  refine (mul_mono (y := gw (fun k => ps.getD k 0) (fun k => 1 - ps.getD k 0) s) _ fun k hk => ⟨?_, Rat.le_refl⟩).1
  have := p01 C hk
  unfold gw
  split <;> grind
theorem asc_prod {A : List Nat} (x : Nat → Rat) (asc : A.Pairwise (· < ·)) (lt : ∀ k ∈ A, k < n) : mulAll ((List.range n).map fun k => if decide (k ∈ A) = true then x k else 1) = mulAll (A.map x) := by
  rw [mul_filter, ← asc_filter asc lt]
theorem path_le (S : SysOk n ls) (C : ChOk n ps) {l : List Nat} (hl : l ∈ ls) : pr ps l ≤ (st n).foldl (totOf ls ps) 0 := by
  rw [tot_sm, Rat.zero_add]
  have e : pr ps l = sm (G (fun k => ps.getD k 0) (fun k => if decide (k ∈ l) = true then 0 else 1 - ps.getD k 0) n) (st n) := by
    rw [sum_G]
    unfold pr
    rw [← asc_prod _ (S.asc l hl) (S.lt l hl)]
    refine mul_congr fun k _ => ?_
    split <;> grind
  rw [e]
  refine sm_le fun s hs => ?_
  have hm := mul_mono (x := gw (fun k => ps.getD k 0) (fun k => if decide (k ∈ l) = true then 0 else 1 - ps.getD k 0) s) (y := gw (fun k => ps.getD k 0) (fun k => 1 - ps.getD k 0) s) (List.range n) fun k hk => by
    have := p01 C hk
    unfold gw
    dsimp only
    split
    · grind
    · split <;> grind
  split
  · rw [wt_G (st_mem.mp hs).1]
    exact hm.2
  · rename_i hw
    have hw2 := not_wk.mp (Bool.not_eq_true _ ▸ hw)
    obtain ⟨k, h1, h2⟩ := hw2 l hl
    have : G (fun k => ps.getD k 0) (fun k => if decide (k ∈ l) = true then 0 else 1 - ps.getD k 0) n s = 0 := mul_zero' _ ⟨k, List.mem_range.mpr (S.lt l hl k h1), by
      unfold gw
      rw [if_neg (by rw [h2]; decide)]; dsimp only; rw [if_pos (decide_eq_true h1)]⟩
    rw [this]
    exact Rat.le_refl
theorem cut_le (S : SysOk n ls) (C : ChOk n ps) {c : List Nat} (hc : c ∈ cutsOf ls) : (st n).foldl (totOf ls ps) 0 ≤ 1 - qr ps c := by
  rw [tot_sm, Rat.zero_add]
  obtain ⟨lt, _⟩ := cuts_lt S hc
  obtain ⟨m, hm, rfl⟩ := (mem_cuts S).mp hc
  have e : qr ps (bits 8 m) = sm (G (fun k => if decide (k ∈ bits 8 m) = true then 0 else ps.getD k 0) (fun k => 1 - ps.getD k 0) n) (st n) := by
    rw [sum_G]
    unfold qr
    rw [← asc_prod (fun k => 1 - ps.getD k 0) (bits_asc 8 m) lt]
    refine mul_congr fun k _ => ?_
    split <;> grind
  suffices key : sm (fun s => if wk ls s = true then wt ps s else 0) (st n) ≤ sm (fun s => wt ps s - G (fun k => if decide (k ∈ bits 8 m) = true then 0 else ps.getD k 0) (fun k => 1 - ps.getD k 0) n s) (st n) by
    rw [sm_sub, sum_one] at key
    rw [e]
    exact key
  refine sm_le fun s hs => ?_
  have hmo := mul_mono (x := gw (fun k => if decide (k ∈ bits 8 m) = true then 0 else ps.getD k 0) (fun k => 1 - ps.getD k 0) s) (y := gw (fun k => ps.getD k 0) (fun k => 1 - ps.getD k 0) s) (List.range n) fun k hk => by
    have := p01 C hk
    unfold gw
    dsimp only
    split
    · split <;> grind
    · grind
  split
  · rename_i hw
    obtain ⟨p, hp, hu⟩ := wk_iff.mp hw
    obtain ⟨k, h1, h2⟩ := hm.1 p hp
    have hkn := S.lt p hp k h1
    have hk1 : s.getD k 0 = 1 := by
      have h3 := hu k h1
      obtain ⟨hl, hz⟩ := st_mem.mp hs
      have e1 : s.getD k 0 = s[k]'(by omega) := by rw [List.getD_eq_getElem?_getD, List.getElem?_eq_getElem (by omega)]; rfl
      have := hz _ (List.getElem_mem (l := s) (n := k) (by omega))
      rw [e1] at h3 ⊢
      omega
    have : G (fun k => if decide (k ∈ bits 8 m) = true then 0 else ps.getD k 0) (fun k => 1 - ps.getD k 0) n s = 0 := mul_zero' _ ⟨k, List.mem_range.mpr hkn, by
      unfold gw
      rw [if_pos hk1]; dsimp only; rw [if_pos (decide_eq_true (mem_bits.mpr ⟨by have := S.n8; omega, h2⟩))]⟩
    rw [this]
    grind
  · rw [wt_G (st_mem.mp hs).1]
    have := hmo.2
    unfold G
    grind
theorem tot01 (C : ChOk n ps) : 0 ≤ (st n).foldl (totOf ls ps) 0 ∧ (st n).foldl (totOf ls ps) 0 ≤ 1 := by
  rw [tot_sm, Rat.zero_add]
  constructor
  · have h := sm_le (f := fun s => wt ps s * 0) (g := fun s => if wk ls s = true then wt ps s else 0) (l := st n) fun s hs => by
      have := wt_nonneg C hs
      split <;> grind
    rw [sm_mul, Rat.mul_zero] at h
    exact h
  · rw [← sum_one n ps]
    refine sm_le fun s hs => ?_
    have := wt_nonneg C hs
    split <;> grind
theorem low_le (S : SysOk n ls) (C : ChOk n ps) : lowOf ps ls ≤ (st n).foldl (totOf ls ps) 0 := by
  unfold lowOf
  refine fmx_mem (Q := fun q => q ≤ (st n).foldl (totOf ls ps) 0) (tot01 C).1 fun q hq => ?_
  obtain ⟨l, hl, rfl⟩ := List.mem_map.mp hq
  exact path_le S C hl
theorem le_high (S : SysOk n ls) (C : ChOk n ps) : (st n).foldl (totOf ls ps) 0 ≤ highOf ps ls := by
  unfold highOf
  have h := fmx_mem (Q := fun q => (st n).foldl (totOf ls ps) 0 ≤ 1 - q) (a := 0) (qs := (cutCh ps ls).map (1 - ·)) (by have := (tot01 (ls := ls) C).2; grind) fun q hq => by
    obtain ⟨r, hr, rfl⟩ := List.mem_map.mp hq
    obtain ⟨c, hc, rfl⟩ := List.mem_map.mp hr
    have := cut_le S C hc
    grind
  exact h
end
def mn (a q : Rat) : Rat := if q < a then q else a
theorem mn_T {a q : Rat} (h : q < a) : mn a q = q := by unfold mn; rw [if_pos h]
theorem mn_F {a q : Rat} (h : ¬ q < a) : mn a q = a := by unfold mn; rw [if_neg h]
theorem mn_mx (a q : Rat) : 1 - mx a (1 - q) = mn (1 - a) q := by
  unfold mx mn
  split <;> split <;> grind
theorem fold_mn : ∀ (l : List Rat) (a : Rat), 1 - (l.map (1 - ·)).foldl mx a = l.foldl mn (1 - a)
  | [], a => rfl
  | q :: l, a => by
    rw [List.map_cons, List.foldl_cons, List.foldl_cons, fold_mn l, mn_mx]
theorem high_mn (ps : List Rat) (ls : List (List Nat)) : (cutCh ps ls).foldl mn 1 = highOf ps ls := by
  unfold highOf
  rw [fold_mn]
  congr 1
  grind
theorem mn_mem {Q : Rat → Prop} : ∀ (qs : List Rat) (a : Rat), Q a → (∀ q ∈ qs, Q q) → Q (qs.foldl mn a)
  | [], _, h, _ => h
  | q :: qs, a, h, hq => by
    rw [List.foldl_cons]
    refine mn_mem qs _ ?_ fun r hr => hq r (List.mem_cons_of_mem _ hr)
    unfold mn
    split
    · exact hq q List.mem_cons_self
    · exact h
end Fw
/-! Faultworks, part Z: the law itself. -/
namespace Fw
open PySem PySem.Spec PyProof.Rows L2 FM
section
variable {X : Cx} {sts : List Stmt} {ρ : DEnv} {d : PyData} {j : Nat}
theorem rb_of (h : BX X sts ρ (.rt d)) : RB X j sts ρ (· = d) := fun σ H B r s D R E q => h σ H B D E fun v H1 s1 a1 => q v H1 d (same_but s1) (R.row.same s1) rfl a1
theorem RB.go {σ : L2.St} {H : Hp} {B : Ban} {r s : Addr} {D : Ends} (h : RB X j sts ρ (· = d)) (R : RS X.K H B σ j r s) (E : Env X.K H B σ ρ) (q : ∀ v H', But r H H' → Row H' r s → At X.K H' B v d → D.rt v H') : wSs X sts D σ H :=
  h σ H B r s D R E fun v H' d' b w e a => q v H' b w (e ▸ a)
theorem rb_par3 (i k l : Nat) {a b c : Expr} {x y z : Str} {px py pz pt pos : Pos} {kt k2 pt2} {S T : PyData → Prop} {d1 d2 : PyData} (nd : X.N.Nodup) (ha : RX X j a ρ S) (hb : EX X b ρ d1) (hc : EX X c ρ d2) (g : ∀ d, S d → RB X j sts (((ρ.set i (some d)).set k (some d1)).set l (some d2)) T)
    (hcl : X.calm = true := by rfl) (hi : X.N[i]? = some x := by rfl) (hk : X.N[k]? = some y := by rfl) (hl : X.N[l]? = some z := by rfl) (hij : i ≠ j := by decide) (hkj : k ≠ j := by decide) (hlj : l ≠ j := by decide)
    (hx : Loc X.env.scope x := by first | exact Or.inl rfl | exact Or.inr rfl) (hy : Loc X.env.scope y := by first | exact Or.inl rfl | exact Or.inr rfl) (hz : Loc X.env.scope z := by first | exact Or.inl rfl | exact Or.inr rfl)
    (hfx : X.fn x = true ∨ X.env.scope.names.lookup x = some .local := by first | exact .inl rfl | exact .inr rfl | assumption) (hfy : X.fn y = true ∨ X.env.scope.names.lookup y = some .local := by first | exact .inl rfl | exact .inr rfl | assumption) (hfz : X.fn z = true ∨ X.env.scope.names.lookup z = some .local := by first | exact .inl rfl | exact .inr rfl | assumption)
    (he : starEach [a, b, c] X.env = (false, eval a X.env) :: starEach [b, c] X.env := by rfl) (he2 : starEach [b, c] X.env = (false, eval b X.env) :: starEach [c] X.env := by rfl) (he3 : starEach [c] X.env = (false, eval c X.env) :: starEach [] X.env := by rfl)
    (h1 : (assignEach [.Name x px, .Name y py, .Name z pz] X.env).map (·.2) = assign (.Name x px) X.env :: (assignEach [.Name y py, .Name z pz] X.env).map (·.2) := by rfl) (h2 : (assignEach [.Name y py, .Name z pz] X.env).map (·.2) = assign (.Name y py) X.env :: (assignEach [.Name z pz] X.env).map (·.2) := by rfl) (h3 : (assignEach [.Name z pz] X.env).map (·.2) = assign (.Name z pz) X.env :: (assignEach [] X.env).map (·.2) := by rfl)
    (hln : (assignEach [.Name x px, .Name y py, .Name z pz] X.env).length = 3 := by rfl) (hst : (assignEach [.Name x px, .Name y py, .Name z pz] X.env).findIdx? (·.1) = none := by rfl)
    (hs : swapsWithSole [.Tuple [.Name x px, .Name y py, .Name z pz] kt pt] (.Tuple [a, b, c] k2 pt2) pos.line X.env = pure false := by rfl) (hw : swappedStores [.Tuple [.Name x px, .Name y py, .Name z pz] kt pt] (.Tuple [a, b, c] k2 pt2) X.env = pure none := by rfl)
    (h4 : (assignEach [.Tuple [.Name x px, .Name y py, .Name z pz] kt pt] X.env).map (·.2) = [assign (.Tuple [.Name x px, .Name y py, .Name z pz] kt pt) X.env] := by rfl) :
    RB X j (.Assign [.Tuple [.Name x px, .Name y py, .Name z pz] kt pt] (.Tuple [a, b, c] k2 pt2) pos :: sts) ρ T := fun σ H B r s D R E q =>
  PSs.w (pss_cons (ps_asg (pe_tup (pa_cons pe_w (pa_cons pe_w (pa_cons pe_w pa_nil he3) he2) he)) (pg_tup hcl (pgs_cons (pg_name nd hi hx hfx) (pgs_cons (pg_name nd hk hy hfy) (pgs_cons (pg_name nd hl hz hfz) pgs_nil h3) h2) h1) hln hst) hs hw h4) pss_w)
    (ha σ H B r s _ R E fun v H1 d b1 w1 hS a1 => hb σ H1 B _ (R.env E b1 w1) fun v2 H2 s2 a2 => hc σ H2 B _ ((R.env E b1 w1).mono s2) fun v3 H3 s3 a3 => by
    refine ⟨by show 3 ≤ sizeLine; decide, fun t ht => ?_⟩
    have s4 := same_new (o := .tup [v, v2, v3]) ht
    have b3 := ((b1.trans (same_but s2)).trans (same_but s3)).trans (same_but s4)
    have w3 := ((w1.same s2).same s3).same s4
    exact ⟨t, _, rfl, .of upd_same, rfl, _, _, rfl, _, _, rfl, _, _, rfl, rfl, g d hS _ _ B r s D (((((R.step b3 w3).set hij _)).set hkj _).set hlj _) ((((R.env E b3 w3).set i (((a1.mono s2).mono s3).mono s4)).set k ((a2.mono s3).mono s4)).set l (a3.mono s4)) fun v' H' d' b4 w4 => q v' H' d' (b3.trans b4) w4⟩)
end
section
variable {P : Program} {w : World} {K : PySem.W.Frag} {mg : Str → Option Value} {base : Heap}
/-- one more path, one more cut -/
def gLow (ps : List Rat) (a : Rat) (l : List Nat) : Rat := mx a (pr ps l)
def gHigh (ps : List Rat) (a : Rat) (c : List Nat) : Rat := mn a (1 - qr ps c)
theorem low_fold (ps : List Rat) (ls : List (List Nat)) : ls.foldl (gLow ps) 0 = lowOf ps ls := by
  unfold lowOf
  rw [List.foldl_map]
  rfl
theorem high_fold (ps : List Rat) (ls : List (List Nat)) : (cutsOf ls).foldl (gHigh ps) 1 = highOf ps ls := by
  rw [← high_mn]
  unfold cutCh
  rw [List.foldl_map]
  rfl
def spLaw (K : PySem.W.Frag) : Sp := fun vs H Q _ => ∃ (a : Addr) (ns : List Int), vs = [.ref a] ∧ SqL K H a (ns.map V.int) ∧ ∀ v H', v = .bl true → Q v H'
abbrev lawR (n : Nat) (ls : List (List Nat)) (ps : List Rat) : DEnv := [none, none, some (sysD n ls), some (chD ps), none, none, none, none, none, none]
structure LawNeeds (P : Program) (w : World) (K : PySem.W.Frag) (mg : Str → Option Value) (base : Heap) : Prop where
  GB : Cl P w K mg base 6 "single_bounds" RBounds
  GA : Cl P w K mg base 3 "_law_alike" (RSame fun x => ∃ xs : List PyData, xs.length ≤ 1000 ∧ (∀ x ∈ xs, ∃ ys : List PyData, ys.length ≤ 1000 ∧ (∀ y ∈ ys, ∃ i : Int, y = .int i) ∧ x = .tuple ys) ∧ x = .tuple xs)
  GW : Cl P w K mg base 2 "_law_within" RWithin
  GT : Cl P w K mg base 5 "_law_chance" RTotal
  GC : Cl P w K mg base 2 "_law_cuts" RLCuts
  GP : Cl P w K mg base 4 "_law_product" RProd
  GO : Cl P w K mg base 1 "_law_less_one" RTurn
  GL : Cl P w K mg base 1 "_law_less" RLt
  GY : RCl P w K mg base 4 "_law_system" RSystem
  GH : RCl P w K mg base 3 "_law_chances" RChances
theorem ok_law {f : Addr} {fd : FuncData} (F : Fun K "law" "law" s_law f fd) (Z : LawNeeds P w K mg base) : FnOk P w K mg base CX0 7 f fd ["_law_script"] (spLaw K) := by
  refine F.ok sc_law (fun vs H Q E h => ?_) (fun cdv A outer s0 H vs Q E hr h => ?_)
  · obtain ⟨a, ns, rfl, _⟩ := h
    rfl
  obtain ⟨a, ns, rfl, hS, q⟩ := h
  refine ⟨_, pss_cons (ps_set (i := 1) sc_law.nd rfl (by first | exact Or.inl rfl | exact Or.inr rfl) (pe_lst (pa_cons (pe_var (i := 0) rfl (by first | exact Or.inl rfl | exact Or.inr (Or.inl rfl) | exact Or.inr (Or.inr rfl))) (pa_cons pe_int (pa_cons pe_int (pa_cons pe_int pa_nil)))))) pss_w, ?_⟩
  refine ⟨.ref a, rfl, by show 4 ≤ sizeLine; decide, fun r hrn => ?_⟩
  have h1 : (upd H r (.lst [.ref a, .int 0, .int 4032, .int 0])) r = some (.lst [.ref a, .int 0, .int 4032, .int 0]) := upd_same
  have hs1 : Scr K (upd H r (.lst [.ref a, .int 0, .int 4032, .int 0])) r a := ⟨ns, fun H' b => by
    rcases hS with (h | ⟨u, h⟩) | h
    · have e := ne_of_none h hrn
      exact .inl (.inl (b _ _ e (by rw [upd_ne e]; exact h)))
    · have e := ne_of_none h hrn
      exact .inl (.inr ⟨u, b _ _ e (by rw [upd_ne e]; exact h)⟩)
    · exact .inr h⟩
  refine RB.go (d := .bool true) ?_ (r := r) (s := a) (j := 1) (B := ban (fun _ => False) r) (ρ := [none, none, none, none, none, none, none, none, none, none]) ⟨.inr rfl, rfl, ⟨0, 4032, 0, h1, by decide, by decide, by decide⟩, hs1⟩ ⟨fun x hx => ?_, rfl, fun i d hd => ?_⟩ fun v H' b' w' e => q v H' (by cases e; rfl)
  · refine rb_set 2 sc_law.nd (by decide) (rx_call Z.GY hr (ax_cons ex_int ax_nil) ⟨6, by decide, by decide, rfl, rfl⟩) ?_
    rintro d ⟨n, ls, S, rfl⟩
    refine rb_par3 3 4 5 sc_law.nd (rx_call Z.GH hr (ax_cons (ex_ixT (i := 0) rfl (ex_var 2) ex_int) ax_nil) ⟨n, S.n8, rfl, rfl⟩) ((ex_tup (ax_cons ex_int (ax_cons ex_int ax_nil))).is rt_zero) ((ex_tup (ax_cons ex_int (ax_cons ex_int ax_nil))).is rt_one) ?_
    rintro d ⟨ps, C, rfl⟩
    refine rb_of ?_
    have lw : ∀ done : List (List Nat), (∀ l ∈ done, l ∈ ls) → W4 (done.foldl (gLow ps) 0) := fun done hd => by
      rw [low_fold]
      refine fmx_mem w4_zero fun q hq => ?_
      obtain ⟨l, hl, rfl⟩ := List.mem_map.mp hq
      exact w4_of (pr_bd C (S.lt l (hd l hl)) (by have := S.len l (hd l hl); omega))
    have hw : ∀ done : List (List Nat), (∀ c ∈ done, c ∈ cutsOf ls) → W4 (done.foldl (gHigh ps) 1) := fun done hd => by
      have e : done.foldl (gHigh ps) 1 = (done.map fun c => 1 - qr ps c).foldl mn 1 := by rw [List.foldl_map]; rfl
      rw [e]
      refine mn_mem _ _ w4_one fun q hq => ?_
      obtain ⟨c, hc, rfl⟩ := List.mem_map.mp hq
      exact w4_of (cutCh_mem S C _ (List.mem_map.mpr ⟨c, hd c hc, rfl⟩)).2.2
    refine bx_cons ((sx_for 6 (ix_tup (ex_ixT (i := 1) (ds := [.int (n : Int), .tuple (ls.map nd)]) rfl (ex_var 2) ex_int)) (for_fold (s := 4) (i := 6) (enc := nd) (st := rt) (g := gLow ps) [none, none, some (sysD n ls), some (chD ps), none, some (rt 1), none, none, none, none] 0 ls fun done l rest e => ?_)
      (pg_name (i := 6) sc_law.nd rfl (by first | exact Or.inl rfl | exact Or.inr rfl))).le (Le.same (Le.same (Le.same (Le.same (Le.same (Le.same (Le.same (Le.same (Le.same (Le.same Le.nil))))))))))) ?_
    · have hl : l ∈ ls := by rw [e]; exact List.mem_append_right _ List.mem_cons_self
      have hd : ∀ x ∈ done, x ∈ ls := fun x hx => by rw [e]; exact List.mem_append_left _ hx
      have lt := S.lt l hl
      have l6 := S.len l hl
      have hp : W4 (pr ps l) := w4_of (pr_bd C lt (by omega))
      refine ⟨_, bx_cons (sx_set 7 sc_law.nd (ex_call (d := rt (pr ps l)) Z.GP hr (ax_cons ((ex_lc 9 (n := "_law_k") (enc := iE) (ls := l) (p := fun _ => true) (f := fun k => rt (ps.getD k 0)) sc_law.nd (ix_tup (ex_var 6)) (by omega) (blkOk_by (by kernel_rfl))
          (fun _ _ _ _ _ => pg_name (i := 9) sc_law.nd rfl (by first | exact Or.inl rfl | exact Or.inr rfl)) (fun _ _ _ _ _ _ _ => ifx_nil) (fun k hk _ _ _ _ _ _ => ex_ixT (rt_get (getD_bd C (lt k hk)).1) (ex_var 3) (ex_var 9))).is (show _ = PyData.list ((l.map fun k => ps.getD k 0).map rt) by rw [filt_all, List.map_map]; rfl)) ax_nil)
            ⟨l.map fun k => ps.getD k 0, 4, fun q hq => ?_, by decide, by rw [List.length_map]; omega, rfl, rfl⟩))
        (bx_cons (sx_set 4 sc_law.nd (ex_if (u := decide (done.foldl (gLow ps) 0 < pr ps l)) (d := rt (gLow ps (done.foldl (gLow ps) 0) l)) (tx_val (ex_call Z.GL hr (ax_cons (ex_var 4) (ax_cons (ex_var 7) ax_nil)) ⟨_, _, lw done hd, hp, rfl, rfl⟩))
          (fun h => (ex_var 7).is (show rt (pr ps l) = rt (mx (done.foldl (gLow ps) 0) (pr ps l)) by rw [mx_T (of_decide_eq_true h)])) (fun h => (ex_var 4).is (show _ = rt (mx (done.foldl (gLow ps) 0) (pr ps l)) by rw [mx_F (of_decide_eq_false h)])))) bx_nil),
        Le.same (Le.same (Le.same (Le.same (Le.same (Le.same (Le.drop (Le.drop (Le.same (Le.same Le.nil)))))))))⟩
      obtain ⟨k, hk, rfl⟩ := List.mem_map.mp hq
      exact (getD_bd C (lt k hk)).2.1
    refine bx_cons ((sx_for 8 (ix_tup (ex_call Z.GC hr (ax_cons (ex_var 2) ax_nil) ⟨n, ls, S, rfl, rfl⟩)) (for_fold (s := 5) (i := 8) (enc := nd) (st := rt) (g := gHigh ps) [none, none, some (sysD n ls), some (chD ps), some (rt (ls.foldl (gLow ps) 0)), none, none, none, none, none] 1 (cutsOf ls) fun done c rest e => ?_)
      (pg_name (i := 8) sc_law.nd rfl (by first | exact Or.inl rfl | exact Or.inr rfl))).le (Le.same (Le.same (Le.same (Le.same (Le.same (Le.same (Le.same (Le.same (Le.same (Le.same Le.nil))))))))))) ?_
    · have hc : c ∈ cutsOf ls := by rw [e]; exact List.mem_append_right _ List.mem_cons_self
      have hd : ∀ x ∈ done, x ∈ cutsOf ls := fun x hx => by rw [e]; exact List.mem_append_left _ hx
      obtain ⟨lt, l8⟩ := cuts_lt S hc
      have hq4 : W4 (qr ps c) := w4_of (qr_bd C lt l8)
      have hp : W4 (1 - qr ps c) := w4_of (cutCh_mem S C _ (List.mem_map.mpr ⟨c, hc, rfl⟩)).2.2
      refine ⟨_, bx_cons (sx_set 7 sc_law.nd (ex_call (d := rt (1 - qr ps c)) Z.GO hr (ax_cons (ex_call (d := rt (qr ps c)) Z.GP hr (ax_cons ((ex_lc 9 (n := "_law_k") (enc := iE) (ls := c) (p := fun _ => true) (f := fun k => rt (1 - ps.getD k 0)) sc_law.nd (ix_tup (ex_var 8)) (by omega) (blkOk_by (by kernel_rfl))
          (fun _ _ _ _ _ => pg_name (i := 9) sc_law.nd rfl (by first | exact Or.inl rfl | exact Or.inr rfl)) (fun _ _ _ _ _ _ _ => ifx_nil) (fun k hk _ _ _ _ _ _ => ex_call Z.GO hr (ax_cons (ex_ixT (rt_get (getD_bd C (lt k hk)).1) (ex_var 3) (ex_var 9)) ax_nil) ⟨ps.getD k 0, w4_of (getD_bd C (lt k hk)).2.1, rfl, rfl⟩)).is (show _ = PyData.list ((c.map fun k => 1 - ps.getD k 0).map rt) by rw [filt_all, List.map_map]; rfl)) ax_nil)
            ⟨c.map fun k => 1 - ps.getD k 0, 4, fun q hq => ?_, by decide, by rw [List.length_map]; omega, rfl, rfl⟩) ax_nil) ⟨qr ps c, hq4, rfl, rfl⟩))
        (bx_cons (sx_set 5 sc_law.nd (ex_if (u := decide (1 - qr ps c < done.foldl (gHigh ps) 1)) (d := rt (gHigh ps (done.foldl (gHigh ps) 1) c)) (tx_val (ex_call Z.GL hr (ax_cons (ex_var 7) (ax_cons (ex_var 5) ax_nil)) ⟨_, _, hp, hw done hd, rfl, rfl⟩))
          (fun h => (ex_var 7).is (show rt (1 - qr ps c) = rt (mn (done.foldl (gHigh ps) 1) (1 - qr ps c)) by rw [mn_T (of_decide_eq_true h)])) (fun h => (ex_var 5).is (show _ = rt (mn (done.foldl (gHigh ps) 1) (1 - qr ps c)) by rw [mn_F (of_decide_eq_false h)])))) bx_nil),
        Le.same (Le.same (Le.same (Le.same (Le.same (Le.same (Le.same (Le.drop (Le.drop (Le.same Le.nil)))))))))⟩
      obtain ⟨k, hk, rfl⟩ := List.mem_map.mp hq
      exact turn_bd C (lt k hk)
    have e4 := low_fold ps ls
    have e5 := high_fold ps ls
    have w4l := lw ls fun l h => h
    have w4h := hw (cutsOf ls) fun l h => h
    rw [e4] at w4l ⊢
    rw [e5] at w4h ⊢
    have w4t : W4 ((st n).foldl (totOf ls ps) 0) := Bd.mono (tot_bd C S.n8 (st n) 0 1 bd_zero fun s hs => (st_mem.mp hs).1) (by have := st_le S.n8; omega)
    have two : ∀ q : Rat, ∃ ys : List PyData, ys.length ≤ 1000 ∧ (∀ y ∈ ys, ∃ i : Int, y = .int i) ∧ rt q = .tuple ys := fun q => ⟨[.int q.num, .int (q.den : Int)], Nat.le_of_ble_eq_true rfl, fun y hy => by
      rcases List.mem_cons.mp hy with h | h
      · exact ⟨_, h⟩
      · exact ⟨_, List.mem_singleton.mp h⟩, rfl⟩
    exact bx_ret (sx_ret (ex_andT (ex_call Z.GA hr (ax_cons (ex_call Z.GB hr (ax_cons (ex_var 2) (ax_cons (ex_var 3) ax_nil)) ⟨n, ls, ps, S, C, rfl, rfl⟩) (ax_cons (ex_tup (ax_cons (ex_var 4) (ax_cons (ex_var 5) ax_nil))) ax_nil)) ⟨.tuple [rt (lowOf ps ls), rt (highOf ps ls)], ⟨_, by show 2 ≤ 1000; decide, fun x hx => by
        rcases List.mem_cons.mp hx with h | h
        · rw [h]; exact two _
        · rw [List.mem_singleton.mp h]; exact two _, rfl⟩, rfl, rfl⟩)
      (ex_one (ex_call Z.GW hr (ax_cons (ex_var 4) (ax_cons (ex_call Z.GT hr (ax_cons (ex_var 2) (ax_cons (ex_var 3) ax_nil)) ⟨n, ls, ps, S, C, rfl, rfl⟩) (ax_cons (ex_var 5) ax_nil))) ⟨_, _, _, w4l, w4t, w4h, rfl, rfl, low_le S C, le_high S C⟩))))
  · rcases hx with h | h
    · exact h.elim
    · rw [h, h1]; exact fun z => nomatch z
  · match i with
    | 0 | 1 | 2 | 3 | 4 | 5 | 6 | 7 | 8 | 9 => cases hd
    | i + 10 => cases hd
end
end Fw
/-! Faultworks, the end: what the top has left; the head. -/
namespace Fw
open PySem PySem.Spec PyProof.Rows L2 FM
/-- a def stands in the module as it is written -/
structure Stands (K : PySem.W.Frag) (n : Str) (st : Stmt) : Prop where
  ex : ∃ (f : Addr) (oc kV dc pm cd ct : Value) (od an : Option Addr) (sl : Array (Option Value)), PySem.W.nsIn K mainGlobals n = some (some (.ref f)) ∧
    K.lookup f = some ⟨oc, od, .func (PySem.W.fnOf n n (defArgs st) (defBody st) (defScope st) .none kV dc pm an cd ct), sl⟩ ∧ PySem.W.codeIn K cd n = true ∧ PySem.W.keepIn K (.ref f) = true
theorem stands {K : PySem.W.Frag} {n : Str} {st : Stmt} {f : Addr} {oc kV dc pm cd ct : Value} {od an : Option Addr} {sl : Array (Option Value)} (a : PySem.W.nsIn K mainGlobals n = some (some (.ref f)))
    (l : K.lookup f = some ⟨oc, od, .func (PySem.W.fnOf n n (defArgs st) (defBody st) (defScope st) .none kV dc pm an cd ct), sl⟩) (c : PySem.W.codeIn K cd n = true) (k : PySem.W.keepIn K (.ref f) = true) : Stands K n st := ⟨f, oc, kV, dc, pm, cd, ct, od, an, sl, a, l, c, k⟩
theorem Stands.df {K : PySem.W.Frag} {h : Heap} {mg : Str → Option Value} {n : Str} {st : Stmt} {ps : List Str} (I : Stands K n st) (X : K.In h) (G : h.Ns mainGlobals mg) (b : ∀ {f : Addr} {fd : FuncData}, Fun K n n st f fd → Binds K fd ps []) : Df K mg n st ps := by
  obtain ⟨f, oc, kV, dc, pm, cd, ct, od, an, sl, a, l, c, k⟩ := I.ex
  exact ⟨f, _, fun_mk l c k, PySem.W.mg_of X G a, b (fun_mk l c k)⟩
/-- a pair of the module -/
structure PairIs (K : PySem.W.Frag) (n : Str) (x y : Int) : Prop where
  ex : ∃ (a : Addr) (o : Obj) (u v : Value) (m : Nat), PySem.W.nsIn K mainGlobals n = some (some (.ref a)) ∧ K.lookup a = some o ∧ o.cls = .type "tuple" ∧ o.data = .seq #[u, v] m ∧ RelV (.int x) u ∧ RelV (.int y) v
theorem pairIs {K : PySem.W.Frag} {n : Str} {x y : Int} {a : Addr} {od : Option Addr} {t1 t2 : Tok} {m : Nat} {sl : Array (Option Value)} (h : PySem.W.nsIn K mainGlobals n = some (some (.ref a))) (l : K.lookup a = some ⟨.type "tuple", od, .seq #[.int x t1, .int y t2] m, sl⟩) : PairIs K n x y :=
  ⟨a, _, _, _, _, h, l, rfl, rfl, ⟨_, rfl⟩, ⟨_, rfl⟩⟩
theorem PairIs.gl {K : PySem.W.Frag} {h : Heap} {mg : Str → Option Value} {n : Str} {x y : Int} (I : PairIs K n x y) (X : K.In h) (G : h.Ns mainGlobals mg) : GlT K mg n [.int x, .int y] := by
  obtain ⟨a, o, u, v, m, h, l, c, d, r1, r2⟩ := I.ex
  exact ⟨a, [.int x, .int y], PySem.W.mg_of X G h, fun H B => ⟨.inr ⟨o, #[u, v], m, l, c, d, by show 2 ≤ sizeLine; decide, .cons r1 (.cons r2 .nil)⟩, .cons (.int _) (.cons (.int _) .nil)⟩⟩
theorem intIs {K : PySem.W.Frag} {n : Str} {i : Int} {t : Tok} (e : PySem.W.nsIn K mainGlobals n = some (some (.int i t))) : ∃ t, PySem.W.nsIn K mainGlobals n = some (some (.int i t)) := ⟨t, e⟩
structure Top (K : PySem.W.Frag) : Prop where
  d0 : Stands K "is_in" s_is_in
  d1 : Stands K "gcd" s_gcd
  d2 : Stands K "reduced" s_reduced
  d3 : Stands K "minus" s_minus
  d4 : Stands K "times" s_times
  d5 : Stands K "is_below" s_is_below
  d6 : Stands K "is_ratio" s_is_ratio
  d7 : Stands K "are_sets" s_are_sets
  d8 : Stands K "mask_of" s_mask_of
  d9 : Stands K "parts_of" s_parts_of
  d10 : Stands K "is_system" s_is_system
  d11 : Stands K "need_system" s_need_system
  d12 : Stands K "least_of" s_least_of
  d13 : Stands K "cuts_of" s_cuts_of
  d14 : Stands K "is_chance" s_is_chance
  d15 : Stands K "need_chances" s_need_chances
  d16 : Stands K "product_of" s_product_of
  d17 : Stands K "turned" s_turned
  d18 : Stands K "path_chances" s_path_chances
  d19 : Stands K "cut_chances" s_cut_chances
  d20 : Stands K "greatest" s_greatest
  d21 : Stands K "single_bounds" s_single_bounds
  d22 : Stands K "_law_taken" s_l_taken
  d23 : Stands K "_law_pick" s_l_pick
  d24 : Stands K "_law_some_set" s_l_some_set
  d25 : Stands K "_law_least" s_l_least
  d26 : Stands K "_law_system" s_l_system
  d27 : Stands K "_law_gcd" s_l_gcd
  d28 : Stands K "_law_ratio" s_l_ratio
  d29 : Stands K "_law_chances" s_l_chances
  d30 : Stands K "_law_times" s_l_times
  d31 : Stands K "_law_product" s_l_product
  d32 : Stands K "_law_less" s_l_less
  d33 : Stands K "_law_states" s_l_states
  d34 : Stands K "_law_works" s_l_works
  d35 : Stands K "_law_up" s_l_up
  d36 : Stands K "_law_cuts" s_l_cuts
  d37 : Stands K "_law_less_one" s_l_less_one
  d38 : Stands K "_law_alike" s_l_alike
  d39 : Stands K "_law_within" s_l_within
  d40 : Stands K "_law_plus" s_l_plus
  d41 : Stands K "_law_weight" s_l_weight
  d42 : Stands K "_law_chance" s_l_chance
  m8 : ∃ t, PySem.W.nsIn K mainGlobals "MOST_PARTS" = some (some (.int 8 t))
  z0 : PairIs K "ZERO" 0 1
  z1 : PairIs K "ONE" 1 1
  b_isi : PySem.W.nsIn K mainGlobals "isinstance" = some none
  b_tup : PySem.W.nsIn K mainGlobals "tuple" = some none
  b_lst : PySem.W.nsIn K mainGlobals "list" = some none
  b_int : PySem.W.nsIn K mainGlobals "int" = some none
  b_bol : PySem.W.nsIn K mainGlobals "bool" = some none
  b_str : PySem.W.nsIn K mainGlobals "str" = some none
  b_len : PySem.W.nsIn K mainGlobals "len" = some none
  b_srt : PySem.W.nsIn K mainGlobals "sorted" = some none
  b_set : PySem.W.nsIn K mainGlobals "set" = some none
  b_sum : PySem.W.nsIn K mainGlobals "sum" = some none
  b_rng : PySem.W.nsIn K mainGlobals "range" = some none
  b_abs : PySem.W.nsIn K mainGlobals "abs" = some none
theorem needs {P : Program} {w : World} {K : PySem.W.Frag} {h : Heap} {mg : Str → Option Value} {base : Heap} (T : Top K) (X : K.In h) (G : h.Ns mainGlobals mg) : LawNeeds P w K mg base := by
  have M : Bi mg := ⟨PySem.W.mg_none_of X G T.b_isi, PySem.W.mg_none_of X G T.b_tup, PySem.W.mg_none_of X G T.b_lst, PySem.W.mg_none_of X G T.b_int, PySem.W.mg_none_of X G T.b_bol, PySem.W.mg_none_of X G T.b_str, PySem.W.mg_none_of X G T.b_len, PySem.W.mg_none_of X G T.b_srt, PySem.W.mg_none_of X G T.b_set, PySem.W.mg_none_of X G T.b_sum, PySem.W.mg_none_of X G T.b_rng, PySem.W.mg_none_of X G T.b_abs⟩
  have m8 : ∃ t, mg "MOST_PARTS" = some (.int 8 t) := let ⟨t, e⟩ := T.m8; ⟨t, PySem.W.mg_of X G e⟩
  have m0 := T.z0.gl X G
  have m1 := T.z1.gl X G
  have F_is_in : Df K mg "is_in" s_is_in ["value", "least", "most"] := T.d0.df X G fun F => F.binds fun _ _ _ _ _ _ us hl => match us, hl with | [_, _, _], _ => rfl
  have F_gcd : Df K mg "gcd" s_gcd ["one", "other"] := T.d1.df X G fun F => F.binds fun _ _ _ _ _ _ us hl => match us, hl with | [_, _], _ => rfl
  have F_reduced : Df K mg "reduced" s_reduced ["numerator", "denominator"] := T.d2.df X G fun F => F.binds fun _ _ _ _ _ _ us hl => match us, hl with | [_, _], _ => rfl
  have F_minus : Df K mg "minus" s_minus ["one", "other"] := T.d3.df X G fun F => F.binds fun _ _ _ _ _ _ us hl => match us, hl with | [_, _], _ => rfl
  have F_times : Df K mg "times" s_times ["one", "other"] := T.d4.df X G fun F => F.binds fun _ _ _ _ _ _ us hl => match us, hl with | [_, _], _ => rfl
  have F_is_below : Df K mg "is_below" s_is_below ["one", "other"] := T.d5.df X G fun F => F.binds fun _ _ _ _ _ _ us hl => match us, hl with | [_, _], _ => rfl
  have F_is_ratio : Df K mg "is_ratio" s_is_ratio ["value"] := T.d6.df X G fun F => F.binds fun _ _ _ _ _ _ us hl => match us, hl with | [_], _ => rfl
  have F_are_sets : Df K mg "are_sets" s_are_sets ["value", "many"] := T.d7.df X G fun F => F.binds fun _ _ _ _ _ _ us hl => match us, hl with | [_, _], _ => rfl
  have F_mask_of : Df K mg "mask_of" s_mask_of ["parts"] := T.d8.df X G fun F => F.binds fun _ _ _ _ _ _ us hl => match us, hl with | [_], _ => rfl
  have F_parts_of : Df K mg "parts_of" s_parts_of ["mask"] := T.d9.df X G fun F => F.binds fun _ _ _ _ _ _ us hl => match us, hl with | [_], _ => rfl
  have F_is_system : Df K mg "is_system" s_is_system ["value"] := T.d10.df X G fun F => F.binds fun _ _ _ _ _ _ us hl => match us, hl with | [_], _ => rfl
  have F_need_system : Df K mg "need_system" s_need_system ["system"] := T.d11.df X G fun F => F.binds fun _ _ _ _ _ _ us hl => match us, hl with | [_], _ => rfl
  have F_least_of : Df K mg "least_of" s_least_of ["masks"] := T.d12.df X G fun F => F.binds fun _ _ _ _ _ _ us hl => match us, hl with | [_], _ => rfl
  have F_cuts_of : Df K mg "cuts_of" s_cuts_of ["system"] := T.d13.df X G fun F => F.binds fun _ _ _ _ _ _ us hl => match us, hl with | [_], _ => rfl
  have F_is_chance : Df K mg "is_chance" s_is_chance ["value"] := T.d14.df X G fun F => F.binds fun _ _ _ _ _ _ us hl => match us, hl with | [_], _ => rfl
  have F_need_chances : Df K mg "need_chances" s_need_chances ["system", "chances"] := T.d15.df X G fun F => F.binds fun _ _ _ _ _ _ us hl => match us, hl with | [_, _], _ => rfl
  have F_product_of : Df K mg "product_of" s_product_of ["values"] := T.d16.df X G fun F => F.binds fun _ _ _ _ _ _ us hl => match us, hl with | [_], _ => rfl
  have F_turned : Df K mg "turned" s_turned ["value"] := T.d17.df X G fun F => F.binds fun _ _ _ _ _ _ us hl => match us, hl with | [_], _ => rfl
  have F_path_chances : Df K mg "path_chances" s_path_chances ["system", "chances"] := T.d18.df X G fun F => F.binds fun _ _ _ _ _ _ us hl => match us, hl with | [_, _], _ => rfl
  have F_cut_chances : Df K mg "cut_chances" s_cut_chances ["system", "chances"] := T.d19.df X G fun F => F.binds fun _ _ _ _ _ _ us hl => match us, hl with | [_, _], _ => rfl
  have F_greatest : Df K mg "greatest" s_greatest ["values", "start"] := T.d20.df X G fun F => F.binds fun _ _ _ _ _ _ us hl => match us, hl with | [_, _], _ => rfl
  have F_single_bounds : Df K mg "single_bounds" s_single_bounds ["system", "chances"] := T.d21.df X G fun F => F.binds fun _ _ _ _ _ _ us hl => match us, hl with | [_, _], _ => rfl
  have F_l_taken : Df K mg "_law_taken" s_l_taken ["_law_row", "_law_many"] := T.d22.df X G fun F => F.binds fun _ _ _ _ _ _ us hl => match us, hl with | [_, _], _ => rfl
  have F_l_pick : Df K mg "_law_pick" s_l_pick ["_law_row", "_law_things"] := T.d23.df X G fun F => F.binds fun _ _ _ _ _ _ us hl => match us, hl with | [_, _], _ => rfl
  have F_l_some_set : Df K mg "_law_some_set" s_l_some_set ["_law_row", "_law_many"] := T.d24.df X G fun F => F.binds fun _ _ _ _ _ _ us hl => match us, hl with | [_, _], _ => rfl
  have F_l_least : Df K mg "_law_least" s_l_least ["_law_sets"] := T.d25.df X G fun F => F.binds fun _ _ _ _ _ _ us hl => match us, hl with | [_], _ => rfl
  have F_l_system : Df K mg "_law_system" s_l_system ["_law_row", "_law_most"] := T.d26.df X G fun F => F.binds fun _ _ _ _ _ _ us hl => match us, hl with | [_, _], _ => rfl
  have F_l_gcd : Df K mg "_law_gcd" s_l_gcd ["_law_one", "_law_other"] := T.d27.df X G fun F => F.binds fun _ _ _ _ _ _ us hl => match us, hl with | [_, _], _ => rfl
  have F_l_ratio : Df K mg "_law_ratio" s_l_ratio ["_law_numerator", "_law_denominator"] := T.d28.df X G fun F => F.binds fun _ _ _ _ _ _ us hl => match us, hl with | [_, _], _ => rfl
  have F_l_chances : Df K mg "_law_chances" s_l_chances ["_law_row", "_law_many"] := T.d29.df X G fun F => F.binds fun _ _ _ _ _ _ us hl => match us, hl with | [_, _], _ => rfl
  have F_l_times : Df K mg "_law_times" s_l_times ["_law_one", "_law_other"] := T.d30.df X G fun F => F.binds fun _ _ _ _ _ _ us hl => match us, hl with | [_, _], _ => rfl
  have F_l_product : Df K mg "_law_product" s_l_product ["_law_values"] := T.d31.df X G fun F => F.binds fun _ _ _ _ _ _ us hl => match us, hl with | [_], _ => rfl
  have F_l_less : Df K mg "_law_less" s_l_less ["_law_one", "_law_other"] := T.d32.df X G fun F => F.binds fun _ _ _ _ _ _ us hl => match us, hl with | [_, _], _ => rfl
  have F_l_states : Df K mg "_law_states" s_l_states ["_law_many"] := T.d33.df X G fun F => F.binds fun _ _ _ _ _ _ us hl => match us, hl with | [_], _ => rfl
  have F_l_works : Df K mg "_law_works" s_l_works ["_law_system_here", "_law_state"] := T.d34.df X G fun F => F.binds fun _ _ _ _ _ _ us hl => match us, hl with | [_, _], _ => rfl
  have F_l_up : Df K mg "_law_up" s_l_up ["_law_state", "_law_k", "_law_value"] := T.d35.df X G fun F => F.binds fun _ _ _ _ _ _ us hl => match us, hl with | [_, _, _], _ => rfl
  have F_l_cuts : Df K mg "_law_cuts" s_l_cuts ["_law_system_here"] := T.d36.df X G fun F => F.binds fun _ _ _ _ _ _ us hl => match us, hl with | [_], _ => rfl
  have F_l_less_one : Df K mg "_law_less_one" s_l_less_one ["_law_one"] := T.d37.df X G fun F => F.binds fun _ _ _ _ _ _ us hl => match us, hl with | [_], _ => rfl
  have F_l_alike : Df K mg "_law_alike" s_l_alike ["_law_found", "_law_due"] := T.d38.df X G fun F => F.binds fun _ _ _ _ _ _ us hl => match us, hl with | [_, _], _ => rfl
  have F_l_within : Df K mg "_law_within" s_l_within ["_law_low", "_law_one", "_law_high"] := T.d39.df X G fun F => F.binds fun _ _ _ _ _ _ us hl => match us, hl with | [_, _, _], _ => rfl
  have F_l_plus : Df K mg "_law_plus" s_l_plus ["_law_one", "_law_other"] := T.d40.df X G fun F => F.binds fun _ _ _ _ _ _ us hl => match us, hl with | [_, _], _ => rfl
  have F_l_weight : Df K mg "_law_weight" s_l_weight ["_law_chances_here", "_law_state"] := T.d41.df X G fun F => F.binds fun _ _ _ _ _ _ us hl => match us, hl with | [_, _], _ => rfl
  have F_l_chance : Df K mg "_law_chance" s_l_chance ["_law_system_here", "_law_chances_here"] := T.d42.df X G fun F => F.binds fun _ _ _ _ _ _ us hl => match us, hl with | [_, _], _ => rfl
  have G_gcd := c_gcd (P := P) (w := w) (base := base) F_gcd M.abs
  have G_red := c_reduced (P := P) (w := w) (base := base) F_reduced G_gcd
  have G_min := c_minus (P := P) (w := w) (base := base) F_minus G_red
  have G_tim := c_times (P := P) (w := w) (base := base) F_times G_red
  have G_bel := c_below (P := P) (w := w) (base := base) F_is_below
  have G_lgcd := c_lgcd (P := P) (w := w) (base := base) F_l_gcd M.abs M.int
  have G_lrat := c_lratio (P := P) (w := w) (base := base) F_l_ratio G_lgcd
  have G_lplus := c_lplus (P := P) (w := w) (base := base) F_l_plus G_lrat
  have G_ltim := c_ltimes (P := P) (w := w) (base := base) F_l_times G_lrat
  have G_lless := c_lless (P := P) (w := w) (base := base) F_l_less
  have G_lone := c_lless_one (P := P) (w := w) (base := base) F_l_less_one
  have G_turn := c_turned (P := P) (w := w) (base := base) F_turned G_min m1
  have G_lwith := c_lwithin (P := P) (w := w) (base := base) F_l_within G_lless
  have G_mask := c_mask_of (P := P) (w := w) (base := base) F_mask_of M.sum
  have G_parts := c_parts_of (P := P) (w := w) (base := base) F_parts_of M.tup M.rng m8
  have G_least := c_least_of (P := P) (w := w) (base := base) F_least_of
  have G_isin := c_is_in (P := P) (w := w) (base := base) F_is_in M
  have G_ratio := c_is_ratio (P := P) (w := w) (base := base) F_is_ratio M G_gcd
  have G_chance := c_is_chance (P := P) (w := w) (base := base) F_is_chance G_ratio
  have G_sets := c_are_sets (P := P) (w := w) (base := base) F_are_sets M G_isin G_mask
  have G_cuts := c_cuts_of (P := P) (w := w) (base := base) F_cuts_of M G_mask G_least G_parts
  have G_sys := c_is_system (P := P) (w := w) (base := base) F_is_system M G_isin G_sets m8
  have G_needS := c_need_system (P := P) (w := w) (base := base) F_need_system G_sys
  have G_needC := c_need_chances (P := P) (w := w) (base := base) F_need_chances M G_chance
  have G_prod := c_product_of (P := P) (w := w) (base := base) F_product_of G_tim m1
  have G_great := c_greatest (P := P) (w := w) (base := base) F_greatest G_bel
  have G_path := c_path_chances (P := P) (w := w) (base := base) F_path_chances G_prod
  have G_cutc := c_cut_chances (P := P) (w := w) (base := base) F_cut_chances G_cuts G_turn G_prod
  have G_bounds := c_single_bounds (P := P) (w := w) (base := base) F_single_bounds G_needS G_needC G_path G_cutc G_great G_turn m0
  have G_lprod := c_lproduct (P := P) (w := w) (base := base) F_l_product G_ltim
  have G_lstates := c_lstates (P := P) (w := w) (base := base) F_l_states M
  have G_lworks := c_lworks (P := P) (w := w) (base := base) F_l_works
  have G_lup := c_lup (P := P) (w := w) (base := base) F_l_up
  have G_lweight := c_lweight (P := P) (w := w) (base := base) F_l_weight M G_ltim
  have G_lchance := c_lchance (P := P) (w := w) (base := base) F_l_chance G_lstates G_lworks G_lplus G_lweight
  have G_taken := c_taken (P := P) (w := w) (base := base) F_l_taken M
  have G_pick := c_pick (P := P) (w := w) (base := base) F_l_pick M G_taken
  have G_someset := c_some_set (P := P) (w := w) (base := base) F_l_some_set M G_taken G_pick
  have G_lleast := c_lleast (P := P) (w := w) (base := base) F_l_least M
  have G_lsys := c_lsystem (P := P) (w := w) (base := base) F_l_system M G_taken G_pick G_someset G_lleast
  have G_lch := c_lchances (P := P) (w := w) (base := base) F_l_chances M G_taken G_pick G_lrat
  have G_lcuts := c_llcuts (P := P) (w := w) (base := base) F_l_cuts M G_lstates G_lworks G_lup
  have G_al0 := c_alike0 (P := P) (w := w) (base := base) F_l_alike M
  have G_al1 := c_alikeT (P := P) (w := w) (base := base) F_l_alike M G_al0
  have G_al2 := c_alikeT (P := P) (w := w) (base := base) F_l_alike M G_al1
  exact ⟨G_bounds, G_al2, G_lwith, G_lchance, G_lcuts, G_lprod, G_lone, G_lless, G_lsys, G_lch⟩
theorem all_up {l : PySem.W.OpenLaw} {w : World} {K : PySem.W.Frag} {h : Heap} {mg : Str → Option Value} {fa f1 : Addr} (X : K.In h) (G : h.Ns mainGlobals mg) (hfa : mg "law" = some (.ref fa))
    {od1 an1 : Option Addr} {sl1 : Array (Option Value)} {oc1 kV1 dc1 pm1 cd1 ct1 : Value}
    (a1 : PySem.W.nsIn K mainGlobals "law" = some (some (.ref f1))) (l1 : K.lookup f1 = some ⟨oc1, od1, .func (PySem.W.fnOf "law" "law" (defArgs s_law) (defBody s_law) (defScope s_law) .none kV1 dc1 pm1 an1 cd1 ct1), sl1⟩) (c1 : PySem.W.codeIn K cd1 "law" = true) (k1 : PySem.W.keepIn K (.ref f1) = true) (T : Top K) :
    ∃ fd : FuncData, (∀ (s : Shared) (v : Value), BindsTo s fd ⟨[v], []⟩ [("_law_script", v)]) ∧ ∀ base : Heap, K.In base → base.Ns mainGlobals mg → FnOk l.prog w K mg base CX0 7 fa fd ["_law_script"] (spLaw K) := by
  have e := hfa.symm.trans (PySem.W.mg_of X G a1)
  cases e
  have F1 := fun_mk (st := s_law) l1 c1 k1
  exact ⟨PySem.W.fnOf "law" "law" (defArgs s_law) (defBody s_law) (defScope s_law) .none kV1 dc1 pm1 an1 cd1 ct1, fun s v => .of_eq rfl, fun base _ _ => ok_law F1 (needs T X G)⟩
end Fw
open PySem PySem.W PyProof.Rows
set_option maxHeartbeats 0 in
theorem PySem.Challenge.cw_faultworks_k32_whole_bounds_by_single_pa_holds : PySem.Challenge.rw_faultworks_k32_whole_bounds_by_single_pa.Holds := by
  w_on; o_law; k_head; (case hw => w_witness2)
  k_fill
  refine L2.walk_of (l := PySem.Challenge.rw_faultworks_k32_whole_bounds_by_single_pa) (n := 63) (k := 7) (x := "_law_script") (CX := fun _ => L2.CX0) (sp := fun w => Fw.spLaw _) rfl (by decide) rfl ⟨rfl, by decide, by decide⟩ (fun w h Y => PySem.W.kIn_of Y) ?F (fun _ _ a ns hl _ hS => ⟨a, ns, rfl, hS, fun _ _ z => z⟩) (fun _ _ _ _ _ h => h)
  case F =>
    intro w mg fa h KX G hmg
    refine' Fw.all_up KX G hmg ?a1 ?l1 ?c1 ?k1 ?T
    (case a1 => k_is); (case l1 => k_is); (case c1 => k_is); (case k1 => k_is)
    case T =>
      refine' ⟨?d0, ?d1, ?d2, ?d3, ?d4, ?d5, ?d6, ?d7, ?d8, ?d9, ?d10, ?d11, ?d12, ?d13, ?d14, ?d15, ?d16, ?d17, ?d18, ?d19, ?d20, ?d21, ?d22, ?d23, ?d24, ?d25, ?d26, ?d27, ?d28, ?d29, ?d30, ?d31, ?d32, ?d33, ?d34, ?d35, ?d36, ?d37, ?d38, ?d39, ?d40, ?d41, ?d42, ?m8, ?z0, ?z1, ?b_isi, ?b_tup, ?b_lst, ?b_int, ?b_bol, ?b_str, ?b_len, ?b_srt, ?b_set, ?b_sum, ?b_rng, ?b_abs⟩
      case d0 =>
        refine' Fw.stands ?a ?l ?c ?k
        (case a => k_is); (case l => k_is); (case c => k_is); (case k => k_is)
      case d1 =>
        refine' Fw.stands ?a ?l ?c ?k
        (case a => k_is); (case l => k_is); (case c => k_is); (case k => k_is)
      case d2 =>
        refine' Fw.stands ?a ?l ?c ?k
        (case a => k_is); (case l => k_is); (case c => k_is); (case k => k_is)
      case d3 =>
        refine' Fw.stands ?a ?l ?c ?k
        (case a => k_is); (case l => k_is); (case c => k_is); (case k => k_is)
      case d4 =>
        refine' Fw.stands ?a ?l ?c ?k
        (case a => k_is); (case l => k_is); (case c => k_is); (case k => k_is)
      case d5 =>
        refine' Fw.stands ?a ?l ?c ?k
        (case a => k_is); (case l => k_is); (case c => k_is); (case k => k_is)
      case d6 =>
        refine' Fw.stands ?a ?l ?c ?k
        (case a => k_is); (case l => k_is); (case c => k_is); (case k => k_is)
      case d7 =>
        refine' Fw.stands ?a ?l ?c ?k
        (case a => k_is); (case l => k_is); (case c => k_is); (case k => k_is)
      case d8 =>
        refine' Fw.stands ?a ?l ?c ?k
        (case a => k_is); (case l => k_is); (case c => k_is); (case k => k_is)
      case d9 =>
        refine' Fw.stands ?a ?l ?c ?k
        (case a => k_is); (case l => k_is); (case c => k_is); (case k => k_is)
      case d10 =>
        refine' Fw.stands ?a ?l ?c ?k
        (case a => k_is); (case l => k_is); (case c => k_is); (case k => k_is)
      case d11 =>
        refine' Fw.stands ?a ?l ?c ?k
        (case a => k_is); (case l => k_is); (case c => k_is); (case k => k_is)
      case d12 =>
        refine' Fw.stands ?a ?l ?c ?k
        (case a => k_is); (case l => k_is); (case c => k_is); (case k => k_is)
      case d13 =>
        refine' Fw.stands ?a ?l ?c ?k
        (case a => k_is); (case l => k_is); (case c => k_is); (case k => k_is)
      case d14 =>
        refine' Fw.stands ?a ?l ?c ?k
        (case a => k_is); (case l => k_is); (case c => k_is); (case k => k_is)
      case d15 =>
        refine' Fw.stands ?a ?l ?c ?k
        (case a => k_is); (case l => k_is); (case c => k_is); (case k => k_is)
      case d16 =>
        refine' Fw.stands ?a ?l ?c ?k
        (case a => k_is); (case l => k_is); (case c => k_is); (case k => k_is)
      case d17 =>
        refine' Fw.stands ?a ?l ?c ?k
        (case a => k_is); (case l => k_is); (case c => k_is); (case k => k_is)
      case d18 =>
        refine' Fw.stands ?a ?l ?c ?k
        (case a => k_is); (case l => k_is); (case c => k_is); (case k => k_is)
      case d19 =>
        refine' Fw.stands ?a ?l ?c ?k
        (case a => k_is); (case l => k_is); (case c => k_is); (case k => k_is)
      case d20 =>
        refine' Fw.stands ?a ?l ?c ?k
        (case a => k_is); (case l => k_is); (case c => k_is); (case k => k_is)
      case d21 =>
        refine' Fw.stands ?a ?l ?c ?k
        (case a => k_is); (case l => k_is); (case c => k_is); (case k => k_is)
      case d22 =>
        refine' Fw.stands ?a ?l ?c ?k
        (case a => k_is); (case l => k_is); (case c => k_is); (case k => k_is)
      case d23 =>
        refine' Fw.stands ?a ?l ?c ?k
        (case a => k_is); (case l => k_is); (case c => k_is); (case k => k_is)
      case d24 =>
        refine' Fw.stands ?a ?l ?c ?k
        (case a => k_is); (case l => k_is); (case c => k_is); (case k => k_is)
      case d25 =>
        refine' Fw.stands ?a ?l ?c ?k
        (case a => k_is); (case l => k_is); (case c => k_is); (case k => k_is)
      case d26 =>
        refine' Fw.stands ?a ?l ?c ?k
        (case a => k_is); (case l => k_is); (case c => k_is); (case k => k_is)
      case d27 =>
        refine' Fw.stands ?a ?l ?c ?k
        (case a => k_is); (case l => k_is); (case c => k_is); (case k => k_is)
      case d28 =>
        refine' Fw.stands ?a ?l ?c ?k
        (case a => k_is); (case l => k_is); (case c => k_is); (case k => k_is)
      case d29 =>
        refine' Fw.stands ?a ?l ?c ?k
        (case a => k_is); (case l => k_is); (case c => k_is); (case k => k_is)
      case d30 =>
        refine' Fw.stands ?a ?l ?c ?k
        (case a => k_is); (case l => k_is); (case c => k_is); (case k => k_is)
      case d31 =>
        refine' Fw.stands ?a ?l ?c ?k
        (case a => k_is); (case l => k_is); (case c => k_is); (case k => k_is)
      case d32 =>
        refine' Fw.stands ?a ?l ?c ?k
        (case a => k_is); (case l => k_is); (case c => k_is); (case k => k_is)
      case d33 =>
        refine' Fw.stands ?a ?l ?c ?k
        (case a => k_is); (case l => k_is); (case c => k_is); (case k => k_is)
      case d34 =>
        refine' Fw.stands ?a ?l ?c ?k
        (case a => k_is); (case l => k_is); (case c => k_is); (case k => k_is)
      case d35 =>
        refine' Fw.stands ?a ?l ?c ?k
        (case a => k_is); (case l => k_is); (case c => k_is); (case k => k_is)
      case d36 =>
        refine' Fw.stands ?a ?l ?c ?k
        (case a => k_is); (case l => k_is); (case c => k_is); (case k => k_is)
      case d37 =>
        refine' Fw.stands ?a ?l ?c ?k
        (case a => k_is); (case l => k_is); (case c => k_is); (case k => k_is)
      case d38 =>
        refine' Fw.stands ?a ?l ?c ?k
        (case a => k_is); (case l => k_is); (case c => k_is); (case k => k_is)
      case d39 =>
        refine' Fw.stands ?a ?l ?c ?k
        (case a => k_is); (case l => k_is); (case c => k_is); (case k => k_is)
      case d40 =>
        refine' Fw.stands ?a ?l ?c ?k
        (case a => k_is); (case l => k_is); (case c => k_is); (case k => k_is)
      case d41 =>
        refine' Fw.stands ?a ?l ?c ?k
        (case a => k_is); (case l => k_is); (case c => k_is); (case k => k_is)
      case d42 =>
        refine' Fw.stands ?a ?l ?c ?k
        (case a => k_is); (case l => k_is); (case c => k_is); (case k => k_is)
      case m8 =>
        refine' Fw.intIs ?e
        (case e => k_is)
      case z0 =>
        refine' Fw.pairIs ?a ?l
        (case a => k_is); (case l => k_is)
      case z1 =>
        refine' Fw.pairIs ?a ?l
        (case a => k_is); (case l => k_is)
      case b_isi => k_is
      case b_tup => k_is
      case b_lst => k_is
      case b_int => k_is
      case b_bol => k_is
      case b_str => k_is
      case b_len => k_is
      case b_srt => k_is
      case b_set => k_is
      case b_sum => k_is
      case b_rng => k_is
      case b_abs => k_is
