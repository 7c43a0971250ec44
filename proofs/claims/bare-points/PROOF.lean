import PyProof.Rows.All
import HandS.ForMost
import HandS.Wide
import HandS.IsInst
import HandS.Style
import HandS.Evl
import PySem.Challenge.RW_gromatic_k21_whole_bare_points
import HandS.ListItems
import KE.KDictZip
import KE.KUnpackStar
import HandS.More
import HandS.Ends
set_option Elab.async false
set_option linter.all false
set_option maxHeartbeats 4000000
namespace Gr
/-! ### lowest terms -/
/-- what the loop finds, with the sign of what stands under -/
def part (n d : Int) : Int := if d < 0 then -(Int.gcd n d : Int) else (Int.gcd n d : Int)
theorem part_ne {n d : Int} (hd : d ≠ 0) : part n d ≠ 0 := by
  have h : 0 < Int.gcd n d := Int.gcd_pos_of_ne_zero_right _ hd
  unfold part
  split <;> omega
theorem part_le {n d : Int} (hd : d ≠ 0) : (part n d).natAbs ≤ d.natAbs := by
  have h : Int.gcd n d ≤ d.natAbs := Nat.le_of_dvd (by omega) (Nat.gcd_dvd_right _ _)
  unfold part
  split <;> omega
theorem num_part {n d : Int} (hd : d ≠ 0) : n.fdiv (part n d) = (Rat.divInt n d).num := by
  have d1 : (Int.gcd n d : Int) ∣ n := Int.gcd_dvd_left _ _
  rw [Rat.num_divInt, Int.gcd_comm d n]
  unfold part
  split
  · rename_i h
    rw [Int.fdiv_eq_ediv_of_dvd (Int.neg_dvd.mpr d1), Int.ediv_neg, Int.sign_eq_neg_one_of_neg h, Int.neg_mul, Int.one_mul, Int.neg_ediv_of_dvd d1]
  · rename_i h
    rw [Int.fdiv_eq_ediv_of_dvd d1, Int.sign_eq_one_of_pos (by omega), Int.one_mul]
theorem den_part {n d : Int} (hd : d ≠ 0) : d.fdiv (part n d) = ((Rat.divInt n d).den : Int) := by
  have d1 : (Int.gcd n d : Int) ∣ d := Int.gcd_dvd_right _ _
  rw [Rat.den_divInt, if_neg hd, Int.gcd_comm d n]
  unfold part
  split
  · rename_i h
    rw [Int.fdiv_eq_ediv_of_dvd (Int.neg_dvd.mpr d1), Int.ediv_neg, Int.natCast_ediv, ← Int.neg_ediv_of_dvd d1]
    congr 1
    omega
  · rename_i h
    rw [Int.fdiv_eq_ediv_of_dvd d1, Int.natCast_ediv]
    congr 1
    omega

theorem den_ne (a : Rat) : (a.den : Int) ≠ 0 := by have := a.den_nz; omega
theorem add_eq (a b : Rat) : Rat.divInt (a.num * b.den + b.num * a.den) (a.den * b.den) = a + b := by
  rw [← Rat.divInt_add_divInt _ _ (den_ne a) (den_ne b), Rat.num_divInt_den, Rat.num_divInt_den]
theorem sub_eq (a b : Rat) : Rat.divInt (a.num * b.den - b.num * a.den) (a.den * b.den) = a - b := by
  rw [← Rat.divInt_sub_divInt _ _ (den_ne a) (den_ne b), Rat.num_divInt_den, Rat.num_divInt_den]
theorem mul_eq (a b : Rat) : Rat.divInt (a.num * b.num) (a.den * b.den) = a * b := by
  rw [← Rat.divInt_mul_divInt, Rat.num_divInt_den, Rat.num_divInt_den]
theorem div_eq (a b : Rat) : Rat.divInt (a.num * b.den) (a.den * b.num) = a / b := by
  rw [← Rat.divInt_mul_divInt, Rat.num_divInt_den, Rat.div_def, ← Rat.inv_divInt, Rat.num_divInt_den]
theorem num_ne {b : Rat} (h : b ≠ 0) : b.num ≠ 0 := fun z => h (Rat.num_eq_zero.mp z)
theorem lt_num (a b : Rat) : (a.num * b.den - b.num * a.den < 0) ↔ a < b := by
  rw [Rat.lt_iff]
  omega
theorem le_num (a b : Rat) : (a.num * b.den - b.num * a.den ≤ 0) ↔ a ≤ b := by
  rw [Rat.le_iff]
  omega

/-! ### how many bits -/
def sz (q : Rat) : Nat := max (q.num.natAbs.log2 + 1) (q.den.log2 + 1)
theorem num_lt (q : Rat) : q.num.natAbs < 2 ^ sz q := Nat.lt_of_lt_of_le Nat.lt_log2_self (Nat.pow_le_pow_right (by decide) (Nat.le_max_left _ _))
theorem den_lt (q : Rat) : q.den < 2 ^ sz q := Nat.lt_of_lt_of_le Nat.lt_log2_self (Nat.pow_le_pow_right (by decide) (Nat.le_max_right _ _))
theorem log_le {n s : Nat} (h : n < 2 ^ s) (hs : 0 < s) : n.log2 + 1 ≤ s := by
  by_cases h0 : n = 0
  · subst h0
    simp
    omega
  · exact (Nat.log2_lt h0).mpr h
theorem sz_le {q : Rat} {s : Nat} (hs : 0 < s) (h1 : q.num.natAbs < 2 ^ s) (h2 : q.den < 2 ^ s) : sz q ≤ s := Nat.max_le.mpr ⟨log_le h1 hs, log_le h2 hs⟩
theorem sz_pos (q : Rat) : 0 < sz q := Nat.lt_of_lt_of_le (Nat.succ_pos _) (Nat.le_max_left _ _)
/-- lowest terms are no greater -/
theorem sz_divInt {n d : Int} {s : Nat} (hd : d ≠ 0) (hs : 0 < s) (h1 : n.natAbs < 2 ^ s) (h2 : d.natAbs < 2 ^ s) : sz (Rat.divInt n d) ≤ s := by
  have g0 : 0 < Int.gcd d n := Int.gcd_pos_of_ne_zero_left _ hd
  refine sz_le hs ?_ ?_
  · rw [Rat.num_divInt]
    refine Nat.lt_of_le_of_lt ?_ h1
    have e : (d.sign * n).natAbs = n.natAbs := by
      rw [Int.natAbs_mul]
      rcases Int.lt_trichotomy d 0 with h | h | h
      · rw [Int.sign_eq_neg_one_of_neg h]
        simp
      · exact absurd h hd
      · rw [Int.sign_eq_one_of_pos h]
        simp
    have d1 : (Int.gcd d n : Int) ∣ d.sign * n := Int.dvd_mul_of_dvd_right (Int.gcd_dvd_right _ _)
    rw [Int.natAbs_ediv_of_dvd d1, e, Int.natAbs_natCast]
    exact Nat.div_le_self _ _
  · rw [Rat.den_divInt, if_neg hd]
    exact Nat.lt_of_le_of_lt (Nat.div_le_self _ _) h2
theorem mul_lt_pow {a b x y : Nat} (h1 : a < 2 ^ x) (h2 : b < 2 ^ y) : a * b < 2 ^ (x + y) := by
  rw [Nat.pow_add]
  exact Nat.mul_lt_mul'' h1 h2
theorem sz_add {a b : Rat} {m n : Nat} (ha : sz a ≤ m) (hb : sz b ≤ n) : sz (a + b) ≤ m + n + 1 := by
  have a1 := num_lt a; have a2 := den_lt a; have b1 := num_lt b; have b2 := den_lt b
  refine Nat.le_trans (m := sz a + sz b + 1) ?_ (by omega)
  rw [← add_eq]
  have e1 := mul_lt_pow a1 b2
  have e2 := mul_lt_pow b1 a2
  have e3 := mul_lt_pow a2 b2
  have e4 : 2 ^ (sz a + sz b + 1) = 2 ^ (sz a + sz b) + 2 ^ (sz a + sz b) := by rw [Nat.pow_succ]; omega
  rw [Nat.add_comm (sz b)] at e2
  refine sz_divInt (Int.mul_ne_zero (den_ne a) (den_ne b)) (by omega) ?_ ?_
  · refine Nat.lt_of_le_of_lt (Int.natAbs_add_le _ _) ?_
    rw [Int.natAbs_mul, Int.natAbs_mul, Int.natAbs_natCast, Int.natAbs_natCast]
    omega
  · rw [Int.natAbs_mul, Int.natAbs_natCast, Int.natAbs_natCast]
    omega
theorem sz_neg (a : Rat) : sz (-a) = sz a := by
  unfold sz
  rw [Rat.neg_num, Rat.neg_den, Int.natAbs_neg]
theorem sz_sub {a b : Rat} {m n : Nat} (ha : sz a ≤ m) (hb : sz b ≤ n) : sz (a - b) ≤ m + n + 1 := by
  rw [Rat.sub_eq_add_neg]
  exact sz_add ha (by rw [sz_neg]; exact hb)
theorem sz_mul {a b : Rat} {m n : Nat} (ha : sz a ≤ m) (hb : sz b ≤ n) : sz (a * b) ≤ m + n := by
  have a1 := num_lt a; have a2 := den_lt a; have b1 := num_lt b; have b2 := den_lt b
  have p := sz_pos a
  refine Nat.le_trans (m := sz a + sz b) ?_ (by omega)
  rw [← mul_eq]
  have e1 := mul_lt_pow a1 b1
  have e3 := mul_lt_pow a2 b2
  refine sz_divInt (Int.mul_ne_zero (den_ne a) (den_ne b)) (by omega) ?_ ?_
  · rw [Int.natAbs_mul]
    exact e1
  · rw [Int.natAbs_mul, Int.natAbs_natCast, Int.natAbs_natCast]
    exact e3
theorem sz_div {a b : Rat} {m n : Nat} (ha : sz a ≤ m) (hb : sz b ≤ n) : sz (a / b) ≤ m + n := by
  by_cases h0 : b = 0
  · subst h0
    rw [Rat.div_def, Rat.inv_zero, Rat.mul_zero]
    have p := sz_pos a
    have p2 := sz_pos 0
    have : sz 0 = 1 := by decide
    omega
  have a1 := num_lt a; have a2 := den_lt a; have b1 := num_lt b; have b2 := den_lt b
  have p := sz_pos a
  refine Nat.le_trans (m := sz a + sz b) ?_ (by omega)
  rw [← div_eq]
  have e1 := mul_lt_pow a1 b2
  have e3 := mul_lt_pow a2 b1
  refine sz_divInt (Int.mul_ne_zero (den_ne a) (num_ne h0)) (by omega) ?_ ?_
  · rw [Int.natAbs_mul, Int.natAbs_natCast]
    exact e1
  · rw [Int.natAbs_mul, Int.natAbs_natCast]
    exact e3
theorem sz_abs {a : Rat} {m : Nat} (ha : sz a ≤ m) : sz a.abs ≤ m := by
  unfold Rat.abs
  split
  · exact ha
  · rw [sz_neg]
    exact ha
theorem sz_lit {n d : Int} {s : Nat} (hd : d ≠ 0) (hs : 0 < s) (h1 : n.natAbs < 2 ^ s) (h2 : d.natAbs < 2 ^ s) : sz (Rat.divInt n d) ≤ s := sz_divInt hd hs h1 h2
theorem sz_0 : sz 0 ≤ 1 := by decide
theorem sz_1 : sz 1 ≤ 1 := by decide
theorem abs_num (a : Rat) : a.abs.num = if a.num < 0 then -a.num else a.num := by
  unfold Rat.abs
  have h : (0 ≤ a) ↔ 0 ≤ a.num := Rat.num_nonneg.symm
  by_cases h0 : 0 ≤ a
  · rw [if_pos h0, if_neg (by have := h.mp h0; omega)]
  · rw [if_neg h0, if_pos (Int.not_le.mp fun z => h0 (h.mpr z)), Rat.neg_num]
theorem abs_den (a : Rat) : a.abs.den = a.den := by
  unfold Rat.abs
  split
  · rfl
  · rw [Rat.neg_den]
abbrev Spot := Rat × Rat
abbrev Piece := Spot × Spot
/-! ### what the defs reckon -/
def onWay (a b : Spot) (t : Rat) : Spot := (a.1 + t * (b.1 - a.1), a.2 + t * (b.2 - a.2))
def sortedTwo (a b : Rat) : Rat × Rat := if b < a then (b, a) else (a, b)
def narrowed (span : Rat × Rat) (start far low high : Rat) : Option (Rat × Rat) :=
  if far = 0 then (if start < low ∨ high < start then none else some span)
  else
    let e := sortedTwo ((low - start) / far) ((high - start) / far)
    let first := if span.1 < e.1 then e.1 else span.1
    let last := if e.2 < span.2 then e.2 else span.2
    if last < first then none else some (first, last)
def leanOf (x y : Rat) (c p : Spot) : Rat := x * (p.2 - c.2) - y * (p.1 - c.1)
def nearSpan (pc o : Piece) (slack : Rat) : Option (Rat × Rat) :=
  let l0 := sortedTwo o.1.1 o.2.1
  let l1 := sortedTwo o.1.2 o.2.2
  match narrowed (0, 1) pc.1.1 (pc.2.1 - pc.1.1) (l0.1 - slack) (l0.2 + slack) with
  | none => none
  | some s => match narrowed s pc.1.2 (pc.2.2 - pc.1.2) (l1.1 - slack) (l1.2 + slack) with
    | none => none
    | some s2 =>
      let x := o.2.1 - o.1.1
      let y := o.2.2 - o.1.2
      let room := slack * (x.abs + y.abs)
      let start := leanOf x y o.1 pc.1
      narrowed s2 start (leanOf x y o.1 pc.2 - start) (0 - room) room
/-- t lies in a span -/
def In (s : Option (Rat × Rat)) (t : Rat) : Prop := match s with | none => False | some p => p.1 ≤ t ∧ t ≤ p.2
/-- p lies within s of a piece -/
def Near (s : Rat) (o : Piece) (p : Spot) : Prop := ∃ u, 0 ≤ u ∧ u ≤ 1 ∧ (onWay o.1 o.2 u).1 - s ≤ p.1 ∧ p.1 ≤ (onWay o.1 o.2 u).1 + s ∧ (onWay o.1 o.2 u).2 - s ≤ p.2 ∧ p.2 ≤ (onWay o.1 o.2 u).2 + s

theorem exdiv {x : Rat} (hx : x ≠ 0) (z : Rat) : z / x * x = z := by grind
theorem div_le_of {z x t : Rat} (hx : 0 < x) : z / x ≤ t ↔ z ≤ t * x := by
  have h := exdiv (x := x) (by grind) z
  constructor
  · intro h1
    have := Rat.mul_le_mul_of_nonneg_right h1 (c := x) (by grind)
    grind
  · intro h1
    have : z / x * x ≤ t * x := by grind
    exact Rat.le_of_mul_le_mul_right this hx
theorem le_div_of {z x t : Rat} (hx : 0 < x) : t ≤ z / x ↔ t * x ≤ z := by
  have h := exdiv (x := x) (by grind) z
  constructor
  · intro h1
    have := Rat.mul_le_mul_of_nonneg_right h1 (c := x) (by grind)
    grind
  · intro h1
    have : t * x ≤ z / x * x := by grind
    exact Rat.le_of_mul_le_mul_right this hx
theorem div_neg_of {z x : Rat} : z / x = (-z) / (-x) := by
  by_cases h : x = 0
  · subst h; grind
  · grind
theorem div_le_of_neg {z x t : Rat} (hx : x < 0) : z / x ≤ t ↔ t * x ≤ z := by
  rw [div_neg_of, div_le_of (by grind)]
  constructor <;> intro h <;> grind
theorem le_div_of_neg {z x t : Rat} (hx : x < 0) : t ≤ z / x ↔ z ≤ t * x := by
  rw [div_neg_of, le_div_of (by grind)]
  constructor <;> intro h <;> grind
theorem div_mono {z w x : Rat} (hx : 0 < x) (h : z ≤ w) : z / x ≤ w / x := by
  rw [div_le_of hx, exdiv (by grind)]
  exact h
theorem div_anti {z w x : Rat} (hx : x < 0) (h : z ≤ w) : w / x ≤ z / x := by
  rw [div_neg_of, div_neg_of (z := z)]
  exact div_mono (by grind) (by grind)

theorem narrowed_in {span : Rat × Rat} {start far low high t : Rat} (h : low ≤ high) : In (narrowed span start far low high) t ↔ (span.1 ≤ t ∧ t ≤ span.2) ∧ low ≤ start + t * far ∧ start + t * far ≤ high := by
  unfold narrowed
  by_cases h0 : far = 0
  · subst h0
    rw [if_pos rfl]
    by_cases h1 : start < low ∨ high < start
    · rw [if_pos h1]
      unfold In
      constructor
      · intro x; exact x.elim
      · intro x
        grind
    · rw [if_neg h1]
      unfold In
      grind
  · rw [if_neg h0]
    have key : ∀ e1 e2 : Rat, (∀ t, (e1 ≤ t ∧ t ≤ e2) ↔ (low ≤ start + t * far ∧ start + t * far ≤ high)) →
        (In (if (if e2 < span.2 then e2 else span.2) < (if span.1 < e1 then e1 else span.1) then none else some ((if span.1 < e1 then e1 else span.1), (if e2 < span.2 then e2 else span.2))) t ↔ (span.1 ≤ t ∧ t ≤ span.2) ∧ low ≤ start + t * far ∧ start + t * far ≤ high) := by
      intro e1 e2 he
      rw [← he t]
      generalize ha : (if e2 < span.2 then e2 else span.2) = la
      generalize hb : (if span.1 < e1 then e1 else span.1) = fi
      have a1 : ∀ t, t ≤ la ↔ (t ≤ e2 ∧ t ≤ span.2) := by intro t; subst ha; split <;> grind
      have b1 : ∀ t, fi ≤ t ↔ (e1 ≤ t ∧ span.1 ≤ t) := by intro t; subst hb; split <;> grind
      by_cases hl : la < fi
      · rw [if_pos hl]
        unfold In
        constructor
        · intro x; exact x.elim
        · intro ⟨⟨x1, x2⟩, x3, x4⟩
          have := (a1 t).mpr ⟨x4, x2⟩
          have := (b1 t).mpr ⟨x3, x1⟩
          grind
      · rw [if_neg hl]
        unfold In
        show fi ≤ t ∧ t ≤ la ↔ _
        rw [a1, b1]
        grind
    have hd : far < 0 ∨ 0 < far := by grind
    rcases hd with hn | hp
    · have hm := div_anti (x := far) hn (show low - start ≤ high - start by grind)
      have hs : sortedTwo ((low - start) / far) ((high - start) / far) = ((high - start) / far, (low - start) / far) := by
        unfold sortedTwo
        split
        · rfl
        · rename_i hx
          have : (high - start) / far = (low - start) / far := by grind
          rw [this]
      rw [hs]
      refine key _ _ fun t => ?_
      rw [div_le_of_neg hn, le_div_of_neg hn]
      constructor <;> intro ⟨x, y⟩ <;> constructor <;> grind
    · have hm := div_mono (x := far) hp (show low - start ≤ high - start by grind)
      have hs : sortedTwo ((low - start) / far) ((high - start) / far) = ((low - start) / far, (high - start) / far) := by
        unfold sortedTwo
        split
        · grind
        · rfl
      rw [hs]
      refine key _ _ fun t => ?_
      rw [div_le_of hp, le_div_of hp]
      constructor <;> intro ⟨x, y⟩ <;> constructor <;> grind
theorem narrowed_ok {span r : Rat × Rat} {start far low high : Rat} (h : narrowed span start far low high = some r) (hs : span.1 ≤ span.2) : r.1 ≤ r.2 ∧ span.1 ≤ r.1 ∧ r.2 ≤ span.2 := by
  unfold narrowed at h
  by_cases h0 : far = 0
  · rw [if_pos h0] at h
    split at h
    · cases h
    · cases h
      grind
  · rw [if_neg h0] at h
    dsimp only at h
    generalize sortedTwo ((low - start) / far) ((high - start) / far) = e at h
    generalize ha : (if e.2 < span.2 then e.2 else span.2) = la at h
    generalize hb : (if span.1 < e.1 then e.1 else span.1) = fi at h
    have a1 : la ≤ span.2 := by subst ha; split <;> grind
    have b1 : span.1 ≤ fi := by subst hb; split <;> grind
    by_cases hl : la < fi
    · rw [if_pos hl] at h
      cases h
    · rw [if_neg hl] at h
      cases h
      dsimp only
      grind

/-! ### near a piece -/
theorem core_pp {x y a b s : Rat} (hs : 0 ≤ s) (hx : 0 ≤ x) (hy : 0 ≤ y) (a1 : -s ≤ a) (a2 : a ≤ x + s) (b1 : -s ≤ b) (b2 : b ≤ y + s)
    (c1 : -(s * (x + y)) ≤ x * b - y * a) (c2 : x * b - y * a ≤ s * (x + y)) : ∃ u, 0 ≤ u ∧ u ≤ 1 ∧ u * x - s ≤ a ∧ a ≤ u * x + s ∧ u * y - s ≤ b ∧ b ≤ u * y + s := by
  by_cases x0 : x = 0
  · subst x0
    by_cases y0 : y = 0
    · subst y0
      exact ⟨0, by grind, by grind, by grind, by grind, by grind, by grind⟩
    · have yp : 0 < y := by grind
      by_cases hb : b ≤ s
      · exact ⟨0, by grind, by grind, by grind, by grind, by grind, by grind⟩
      · have e := exdiv y0 (b - s)
        have u0 : 0 ≤ (b - s) / y := by rw [le_div_of yp]; grind
        have u1 : (b - s) / y ≤ 1 := by rw [div_le_of yp]; grind
        exact ⟨(b - s) / y, u0, u1, by grind, by grind, by grind, by grind⟩
  · have xp : 0 < x := by grind
    have e := exdiv x0 (a - s)
    by_cases y0 : y = 0
    · subst y0
      by_cases ha : a ≤ s
      · exact ⟨0, by grind, by grind, by grind, by grind, by grind, by grind⟩
      · have u0 : 0 ≤ (a - s) / x := by rw [le_div_of xp]; grind
        have u1 : (a - s) / x ≤ 1 := by rw [div_le_of xp]; grind
        exact ⟨(a - s) / x, u0, u1, by grind, by grind, by grind, by grind⟩
    · have yp : 0 < y := by grind
      have f := exdiv y0 (b - s)
      by_cases ha : a ≤ s ∧ b ≤ s
      · exact ⟨0, by grind, by grind, by grind, by grind, by grind, by grind⟩
      · by_cases hl : (b - s) / y ≤ (a - s) / x
        · have u0 : 0 ≤ (a - s) / x := by
            by_cases h1 : a ≤ s
            · have : 0 ≤ (b - s) / y := by rw [le_div_of yp]; grind
              grind
            · rw [le_div_of xp]; grind
          have u1 : (a - s) / x ≤ 1 := by rw [div_le_of xp]; grind
          have g1 : b - s ≤ (a - s) / x * y := (div_le_of yp).mp hl
          have g2 : (a - s) / x * y ≤ b + s := by
            refine Rat.le_of_mul_le_mul_right (c := x) ?_ xp
            rw [Rat.mul_assoc, Rat.mul_comm y x, ← Rat.mul_assoc, e]
            clear hl u0 u1 g1 e f ha
            grind
          exact ⟨(a - s) / x, u0, u1, by grind, by grind, by grind, by grind⟩
        · have hl' : (a - s) / x ≤ (b - s) / y := by grind
          have u0 : 0 ≤ (b - s) / y := by
            by_cases h1 : b ≤ s
            · have : 0 ≤ (a - s) / x := by rw [le_div_of xp]; grind
              grind
            · rw [le_div_of yp]; grind
          have u1 : (b - s) / y ≤ 1 := by rw [div_le_of yp]; grind
          have g1 : a - s ≤ (b - s) / y * x := (div_le_of xp).mp hl'
          have g2 : (b - s) / y * x ≤ a + s := by
            refine Rat.le_of_mul_le_mul_right (c := y) ?_ yp
            rw [Rat.mul_assoc, Rat.mul_comm x y, ← Rat.mul_assoc, f]
            clear hl hl' u0 u1 g1 e f ha
            grind
          exact ⟨(b - s) / y, u0, u1, by grind, by grind, by grind, by grind⟩
theorem core_p {x y a b s : Rat} (hs : 0 ≤ s) (hx : 0 ≤ x) (a1 : -s ≤ a) (a2 : a ≤ x + s) (b1 : (if y < 0 then y else 0) - s ≤ b) (b2 : b ≤ (if y < 0 then 0 else y) + s)
    (c1 : -(s * (x + y.abs)) ≤ x * b - y * a) (c2 : x * b - y * a ≤ s * (x + y.abs)) : ∃ u, 0 ≤ u ∧ u ≤ 1 ∧ u * x - s ≤ a ∧ a ≤ u * x + s ∧ u * y - s ≤ b ∧ b ≤ u * y + s := by
  by_cases hy : y < 0
  · have e : y.abs = -y := by unfold Rat.abs; rw [if_neg (by grind)]
    rw [e] at c1 c2
    rw [if_pos hy] at b1 b2
    obtain ⟨u, h1, h2, h3, h4, h5, h6⟩ := core_pp (x := x) (y := -y) (a := a) (b := -b) (s := s) hs hx (by grind) a1 a2 (by grind) (by grind) (by grind) (by grind)
    exact ⟨u, h1, h2, h3, h4, by grind, by grind⟩
  · have e : y.abs = y := by unfold Rat.abs; rw [if_pos (by grind)]
    rw [e] at c1 c2
    rw [if_neg hy] at b1 b2
    exact core_pp hs hx (by grind) a1 a2 (by grind) (by grind) c1 c2
theorem core {x y a b s : Rat} (hs : 0 ≤ s) (a1 : (if x < 0 then x else 0) - s ≤ a) (a2 : a ≤ (if x < 0 then 0 else x) + s) (b1 : (if y < 0 then y else 0) - s ≤ b) (b2 : b ≤ (if y < 0 then 0 else y) + s)
    (c1 : -(s * (x.abs + y.abs)) ≤ x * b - y * a) (c2 : x * b - y * a ≤ s * (x.abs + y.abs)) : ∃ u, 0 ≤ u ∧ u ≤ 1 ∧ u * x - s ≤ a ∧ a ≤ u * x + s ∧ u * y - s ≤ b ∧ b ≤ u * y + s := by
  by_cases hx : x < 0
  · have e : x.abs = -x := by unfold Rat.abs; rw [if_neg (by grind)]
    rw [e] at c1 c2
    rw [if_pos hx] at a1 a2
    obtain ⟨u, h1, h2, h3, h4, h5, h6⟩ := core_p (x := -x) (y := y) (a := -a) (b := b) (s := s) hs (by grind) (by grind) (by grind) b1 b2 (by grind) (by grind)
    exact ⟨u, h1, h2, by grind, by grind, h5, h6⟩
  · have e : x.abs = x := by unfold Rat.abs; rw [if_pos (by grind)]
    rw [e] at c1 c2
    rw [if_neg hx] at a1 a2
    exact core_p hs (by grind) (by grind) a2 b1 b2 c1 c2
theorem mul_abs {e x s : Rat} (h1 : -s ≤ e) (h2 : e ≤ s) : -(s * x.abs) ≤ x * e ∧ x * e ≤ s * x.abs := by
  unfold Rat.abs
  split
  · rename_i h
    have g1 := Rat.mul_le_mul_of_nonneg_left h1 h
    have g2 := Rat.mul_le_mul_of_nonneg_left h2 h
    grind
  · rename_i h
    have h' : 0 ≤ -x := by grind
    have g1 := Rat.mul_le_mul_of_nonneg_left h1 h'
    have g2 := Rat.mul_le_mul_of_nonneg_left h2 h'
    grind
theorem between_of {u x : Rat} (h0 : 0 ≤ u) (h1 : u ≤ 1) : (if x < 0 then x else 0) ≤ u * x ∧ u * x ≤ (if x < 0 then 0 else x) := by
  by_cases hx : x < 0
  · rw [if_pos hx, if_pos hx]
    have g1 := Rat.mul_le_mul_of_nonneg_right h0 (show 0 ≤ -x by grind)
    have g2 := Rat.mul_le_mul_of_nonneg_right h1 (show 0 ≤ -x by grind)
    grind
  · rw [if_neg hx, if_neg hx]
    have g1 := Rat.mul_le_mul_of_nonneg_right h0 (show 0 ≤ x by grind)
    have g2 := Rat.mul_le_mul_of_nonneg_right h1 (show 0 ≤ x by grind)
    grind
theorem sorted_eq (c d : Rat) : sortedTwo c d = (c + (if d - c < 0 then d - c else 0), c + (if d - c < 0 then 0 else d - c)) := by
  unfold sortedTwo
  by_cases h : d < c
  · rw [if_pos h, if_pos (by grind), if_pos (by grind)]
    refine Prod.ext ?_ ?_ <;> dsimp only <;> grind
  · rw [if_neg h, if_neg (by grind), if_neg (by grind)]
    refine Prod.ext ?_ ?_ <;> dsimp only <;> grind
theorem nearSpan_in {pc o : Piece} {slack t : Rat} (hs : 0 ≤ slack) : In (nearSpan pc o slack) t ↔ (0 ≤ t ∧ t ≤ 1) ∧ Near slack o (onWay pc.1 pc.2 t) := by
  obtain ⟨a, b⟩ := pc
  obtain ⟨c, d⟩ := o
  obtain ⟨c1, c2⟩ := c
  obtain ⟨d1, d2⟩ := d
  unfold nearSpan
  dsimp only
  rw [sorted_eq c1 d1, sorted_eq c2 d2]
  dsimp only
  generalize hx : d1 - c1 = x
  generalize hy : d2 - c2 = y
  have habs : ∀ z : Rat, 0 ≤ z.abs := fun z => Rat.abs_nonneg
  have hroom : 0 ≤ slack * (x.abs + y.abs) := Rat.mul_nonneg hs (by have := habs x; have := habs y; grind)
  have hle : ∀ z : Rat, (if z < 0 then z else 0) ≤ (if z < 0 then 0 else z) := fun z => by split <;> grind
  -- the three tests
  have i1 : ∀ t, In (narrowed (0, 1) a.1 (b.1 - a.1) (c1 + (if x < 0 then x else 0) - slack) (c1 + (if x < 0 then 0 else x) + slack)) t ↔ _ := fun t => narrowed_in (by have := hle x; grind)
  have conv : (In (match narrowed (0, 1) a.1 (b.1 - a.1) (c1 + (if x < 0 then x else 0) - slack) (c1 + (if x < 0 then 0 else x) + slack) with
      | none => none
      | some s => match narrowed s a.2 (b.2 - a.2) (c2 + (if y < 0 then y else 0) - slack) (c2 + (if y < 0 then 0 else y) + slack) with
        | none => none
        | some s2 => narrowed s2 (leanOf x y (c1, c2) a) (leanOf x y (c1, c2) b - leanOf x y (c1, c2) a) (0 - slack * (x.abs + y.abs)) (slack * (x.abs + y.abs))) t) ↔
      (((0 ≤ t ∧ t ≤ 1) ∧ c1 + (if x < 0 then x else 0) - slack ≤ a.1 + t * (b.1 - a.1) ∧ a.1 + t * (b.1 - a.1) ≤ c1 + (if x < 0 then 0 else x) + slack) ∧
        c2 + (if y < 0 then y else 0) - slack ≤ a.2 + t * (b.2 - a.2) ∧ a.2 + t * (b.2 - a.2) ≤ c2 + (if y < 0 then 0 else y) + slack) ∧
        0 - slack * (x.abs + y.abs) ≤ leanOf x y (c1, c2) a + t * (leanOf x y (c1, c2) b - leanOf x y (c1, c2) a) ∧ leanOf x y (c1, c2) a + t * (leanOf x y (c1, c2) b - leanOf x y (c1, c2) a) ≤ slack * (x.abs + y.abs) := by
    have g1 := i1 t
    dsimp only at g1
    rw [← g1]
    generalize narrowed (0, 1) a.1 (b.1 - a.1) (c1 + (if x < 0 then x else 0) - slack) (c1 + (if x < 0 then 0 else x) + slack) = r1
    cases r1 with
    | none =>
      dsimp only
      unfold In
      grind
    | some s =>
      dsimp only
      have g2 : In (narrowed s a.2 (b.2 - a.2) (c2 + (if y < 0 then y else 0) - slack) (c2 + (if y < 0 then 0 else y) + slack)) t ↔ _ := narrowed_in (by have := hle y; grind)
      have e1 : In (some s) t ↔ (s.1 ≤ t ∧ t ≤ s.2) := Iff.rfl
      rw [e1, ← g2]
      generalize narrowed s a.2 (b.2 - a.2) (c2 + (if y < 0 then y else 0) - slack) (c2 + (if y < 0 then 0 else y) + slack) = r2
      cases r2 with
      | none =>
        dsimp only
        unfold In
        grind
      | some s2 =>
        dsimp only
        have g3 : In (narrowed s2 (leanOf x y (c1, c2) a) (leanOf x y (c1, c2) b - leanOf x y (c1, c2) a) (0 - slack * (x.abs + y.abs)) (slack * (x.abs + y.abs))) t ↔ _ := narrowed_in (by grind)
        rw [g3]
        exact Iff.rfl
  rw [conv]
  unfold Near onWay
  dsimp only
  rw [hx, hy]
  generalize hp : a.1 + t * (b.1 - a.1) = p
  generalize hq : a.2 + t * (b.2 - a.2) = q
  have hl : leanOf x y (c1, c2) a + t * (leanOf x y (c1, c2) b - leanOf x y (c1, c2) a) = x * (q - c2) - y * (p - c1) := by
    unfold leanOf
    dsimp only
    grind
  rw [hl]
  constructor
  · intro ⟨⟨⟨⟨h0, h1⟩, h2, h3⟩, h4, h5⟩, h6, h7⟩
    refine ⟨⟨h0, h1⟩, ?_⟩
    obtain ⟨u, k1, k2, k3, k4, k5, k6⟩ := core (x := x) (y := y) (a := p - c1) (b := q - c2) hs (by grind) (by grind) (by grind) (by grind) (by grind) (by grind)
    exact ⟨u, k1, k2, by grind, by grind, by grind, by grind⟩
  · intro ⟨⟨h0, h1⟩, u, k1, k2, k3, k4, k5, k6⟩
    have bx := between_of (x := x) k1 k2
    have bY := between_of (x := y) k1 k2
    have m1 := mul_abs (e := q - c2 - u * y) (x := x) (s := slack) (by grind) (by grind)
    have m2 := mul_abs (e := p - c1 - u * x) (x := y) (s := slack) (by grind) (by grind)
    refine ⟨⟨⟨⟨h0, h1⟩, by grind, by grind⟩, by grind, by grind⟩, by grind, by grind⟩
theorem nearSpan_ok {pc o : Piece} {slack : Rat} {r : Rat × Rat} (h : nearSpan pc o slack = some r) : r.1 ≤ r.2 ∧ 0 ≤ r.1 ∧ r.2 ≤ 1 := by
  unfold nearSpan at h
  dsimp only at h
  split at h
  · cases h
  · rename_i s hs1
    have k1 := narrowed_ok hs1 (by grind)
    split at h
    · cases h
    · rename_i s2 hs2
      have k2 := narrowed_ok hs2 (by grind)
      have k3 := narrowed_ok h (by grind)
      dsimp only at k1 k2 k3
      grind
/-! ### gaps -/
def insSpan (found : List (Rat × Rat)) (span : Rat × Rat) : List (Rat × Rat) :=
  found.take (found.filter fun one => !decide (span.1 < one.1)).length ++ [span] ++ found.drop (found.filter fun one => !decide (span.1 < one.1)).length
def inOrder (spans : List (Rat × Rat)) : List (Rat × Rat) := spans.foldl insSpan []
def gapGo : Option Rat → List (Rat × Rat) → Option Rat
  | none, [] => some 0
  | some h, [] => if h < 1 then some 1 else none
  | none, (f, l) :: r => if f ≠ 0 then some 0 else gapGo (some l) r
  | some h, (f, l) :: r => if h < f then some (1 / 2 * (h + f)) else gapGo (some (if h < l then l else h)) r
def gapIn (spans : List (Rat × Rat)) : Option Rat := gapGo none (inOrder spans)
def Srt (l : List (Rat × Rat)) : Prop := l.Pairwise fun p q => p.1 ≤ q.1
theorem srt_filter {span : Rat × Rat} : ∀ {l : List (Rat × Rat)}, Srt l → (∀ p ∈ l.take (l.filter fun one => !decide (span.1 < one.1)).length, p.1 ≤ span.1) ∧ (∀ p ∈ l.drop (l.filter fun one => !decide (span.1 < one.1)).length, span.1 < p.1)
  | [], _ => by simp
  | a :: r, h => by
    have h' := List.pairwise_cons.mp h
    by_cases ha : span.1 < a.1
    · have hn : (a :: r).filter (fun one => !decide (span.1 < one.1)) = [] := by
        rw [List.filter_eq_nil_iff]
        intro p hp
        rcases List.mem_cons.mp hp with e | hp
        · subst e
          simp [ha]
        · have := h'.1 p hp
          have : span.1 < p.1 := by grind
          simp [this]
      rw [hn]
      refine ⟨by simp, fun p hp => ?_⟩
      simp only [List.length_nil, List.drop_zero] at hp
      rcases List.mem_cons.mp hp with e | hp
      · subst e
        exact ha
      · have := h'.1 p hp
        grind
    · have ih := srt_filter (span := span) h'.2
      rw [List.filter_cons_of_pos (by simp [ha]), List.length_cons, List.take_succ_cons, List.drop_succ_cons]
      refine ⟨fun p hp => ?_, ih.2⟩
      rcases List.mem_cons.mp hp with e | hp
      · subst e
        grind
      · exact ih.1 p hp
theorem ins_srt {span : Rat × Rat} {l : List (Rat × Rat)} (h : Srt l) : Srt (insSpan l span) := by
  obtain ⟨h1, h2⟩ := srt_filter (span := span) h
  unfold insSpan
  generalize (l.filter fun one => !decide (span.1 < one.1)).length = n at h1 h2
  unfold Srt
  rw [List.append_assoc, List.pairwise_append]
  refine ⟨List.Pairwise.sublist (List.take_sublist _ _) h, ?_, fun p hp q hq => ?_⟩
  · show List.Pairwise _ (span :: l.drop n)
    rw [List.pairwise_cons]
    exact ⟨fun q hq => Rat.le_of_lt (h2 q hq), List.Pairwise.sublist (List.drop_sublist _ _) h⟩
  · rcases List.mem_cons.mp (show q ∈ span :: l.drop n from hq) with e | hq
    · subst e
      exact h1 p hp
    · exact Rat.le_trans (h1 p hp) (Rat.le_of_lt (h2 q hq))
theorem ins_mem {span p : Rat × Rat} {l : List (Rat × Rat)} : p ∈ insSpan l span ↔ p ∈ l ∨ p = span := by
  unfold insSpan
  generalize (l.filter fun one => !decide (span.1 < one.1)).length = n
  have e : l = l.take n ++ l.drop n := (List.take_append_drop n l).symm
  rw [List.mem_append, List.mem_append, List.mem_singleton]
  constructor
  · rintro ((h | h) | h)
    · exact .inl (List.mem_of_mem_take h)
    · exact .inr h
    · exact .inl (List.mem_of_mem_drop h)
  · rintro (h | h)
    · rw [e, List.mem_append] at h
      rcases h with h | h
      · exact .inl (.inl h)
      · exact .inr h
    · exact .inl (.inr h)
theorem fold_ins : ∀ (spans found : List (Rat × Rat)), Srt found → Srt (spans.foldl insSpan found) ∧ ∀ p, p ∈ spans.foldl insSpan found ↔ p ∈ found ∨ p ∈ spans
  | [], found, h => ⟨h, fun p => by simp⟩
  | s :: r, found, h => by
    obtain ⟨k1, k2⟩ := fold_ins r (insSpan found s) (ins_srt h)
    refine ⟨k1, fun p => ?_⟩
    show p ∈ r.foldl insSpan (insSpan found s) ↔ _
    rw [k2 p, ins_mem, List.mem_cons]
    grind
theorem inOrder_srt (spans : List (Rat × Rat)) : Srt (inOrder spans) := (fold_ins spans [] .nil).1
theorem inOrder_mem {spans : List (Rat × Rat)} {p : Rat × Rat} : p ∈ inOrder spans ↔ p ∈ spans := by
  have := (fold_ins spans [] .nil).2 p
  show p ∈ spans.foldl insSpan [] ↔ _
  rw [this]
  simp
theorem gapGo_none : ∀ (r : List (Rat × Rat)) (h : Rat), gapGo (some h) r = none → ∀ t, h < t → t ≤ 1 → ∃ s ∈ r, s.1 ≤ t ∧ t ≤ s.2
  | [], h, e, t, h1, h2 => by
    unfold gapGo at e
    split at e
    · cases e
    · grind
  | (f, l) :: r, h, e, t, h1, h2 => by
    unfold gapGo at e
    split at e
    · cases e
    · rename_i hf
      by_cases hl : t ≤ l
      · exact ⟨(f, l), List.mem_cons_self, by dsimp only; grind, hl⟩
      · obtain ⟨s, hs, k⟩ := gapGo_none r _ e t (by split <;> grind) h2
        exact ⟨s, List.mem_cons_of_mem _ hs, k⟩
theorem gapGo_some : ∀ (r : List (Rat × Rat)) (h g : Rat), gapGo (some h) r = some g → Srt r → (∀ s ∈ r, s.1 ≤ s.2 ∧ 0 ≤ s.1 ∧ s.2 ≤ 1) → h ≤ 1 → h < g ∧ g ≤ 1 ∧ ∀ s ∈ r, ¬ (s.1 ≤ g ∧ g ≤ s.2)
  | [], h, g, e, _, _, h1 => by
    unfold gapGo at e
    split at e
    · cases e
      exact ⟨by assumption, by grind, fun s hs => by cases hs⟩
    · cases e
  | (f, l) :: r, h, g, e, hs, hr, h1 => by
    have hs' := List.pairwise_cons.mp hs
    have hf := hr (f, l) List.mem_cons_self
    dsimp only at hf
    unfold gapGo at e
    split at e
    · rename_i hlt
      cases e
      refine ⟨by grind, by grind, fun s hm => ?_⟩
      have : f ≤ s.1 := by
        rcases List.mem_cons.mp hm with e | hm
        · subst e
          exact Rat.le_refl
        · exact hs'.1 s hm
      grind
    · obtain ⟨k1, k2, k3⟩ := gapGo_some r _ g e hs'.2 (fun s hm => hr s (List.mem_cons_of_mem _ hm)) (by split <;> grind)
      have : h < g ∧ l < g := by
        split at k1 <;> grind
      refine ⟨this.1, k2, fun s hm => ?_⟩
      rcases List.mem_cons.mp hm with e | hm
      · subst e
        dsimp only
        grind
      · exact k3 s hm
theorem gapIn_none {spans : List (Rat × Rat)} (h : gapIn spans = none) (t : Rat) (h0 : 0 ≤ t) (h1 : t ≤ 1) : ∃ s ∈ spans, s.1 ≤ t ∧ t ≤ s.2 := by
  unfold gapIn at h
  have key : ∃ s ∈ inOrder spans, s.1 ≤ t ∧ t ≤ s.2 := by
    generalize inOrder spans = l at h
    cases l with
    | nil => cases h
    | cons p r =>
      obtain ⟨f, l⟩ := p
      unfold gapGo at h
      split at h
      · cases h
      · rename_i hf
        have hf' : f = 0 := by grind
        by_cases hl : t ≤ l
        · exact ⟨(f, l), List.mem_cons_self, by dsimp only; grind, hl⟩
        · obtain ⟨s, hs, k⟩ := gapGo_none r _ h t (by grind) h1
          exact ⟨s, List.mem_cons_of_mem _ hs, k⟩
  obtain ⟨s, hs, k⟩ := key
  exact ⟨s, inOrder_mem.mp hs, k⟩
theorem gapIn_some {spans : List (Rat × Rat)} {g : Rat} (h : gapIn spans = some g) (hr : ∀ s ∈ spans, s.1 ≤ s.2 ∧ 0 ≤ s.1 ∧ s.2 ≤ 1) : 0 ≤ g ∧ g ≤ 1 ∧ ∀ s ∈ spans, ¬ (s.1 ≤ g ∧ g ≤ s.2) := by
  unfold gapIn at h
  have hr' : ∀ s ∈ inOrder spans, s.1 ≤ s.2 ∧ 0 ≤ s.1 ∧ s.2 ≤ 1 := fun s hs => hr s (inOrder_mem.mp hs)
  have hS := inOrder_srt spans
  have key : 0 ≤ g ∧ g ≤ 1 ∧ ∀ s ∈ inOrder spans, ¬ (s.1 ≤ g ∧ g ≤ s.2) := by
    generalize inOrder spans = l at h hr' hS
    cases l with
    | nil =>
      cases h
      exact ⟨by grind, by grind, fun s hs => by cases hs⟩
    | cons p r =>
      obtain ⟨f, l⟩ := p
      have hS' := List.pairwise_cons.mp hS
      have hf := hr' (f, l) List.mem_cons_self
      dsimp only at hf
      unfold gapGo at h
      split at h
      · rename_i hne
        cases h
        refine ⟨by grind, by grind, fun s hm => ?_⟩
        have : f ≤ s.1 := by
          rcases List.mem_cons.mp hm with e | hm
          · subst e
            exact Rat.le_refl
          · exact hS'.1 s hm
        grind
      · rename_i hf0
        have hf0' : f = 0 := by grind
        obtain ⟨k1, k2, k3⟩ := gapGo_some r _ g h hS'.2 (fun s hm => hr' s (List.mem_cons_of_mem _ hm)) (by grind)
        refine ⟨by grind, k2, fun s hm => ?_⟩
        rcases List.mem_cons.mp hm with e | hm
        · subst e
          dsimp only
          grind
        · exact k3 s hm
  exact ⟨key.1, key.2.1, fun s hs => key.2.2 s (inOrder_mem.mpr hs)⟩

/-! ### bare -/
def piecesOf {α : Type} (l : List α) : List (α × α) := match l with
  | [a] => [(a, a)]
  | l => l.zip l.tail
def spansOf (pc : Piece) (others : List Spot) (slack : Rat) : List (Rat × Rat) := ((piecesOf others).map fun o => nearSpan pc o slack).filterMap id
def bareGo (others : List Spot) (slack : Rat) : List Piece → Option Spot
  | [] => none
  | pc :: r => match gapIn (spansOf pc others slack) with
    | some t => some (onWay pc.1 pc.2 t)
    | none => bareGo others slack r
def bareOf (ones others : List Spot) (slack : Rat) : Option Spot := bareGo others slack (piecesOf ones)
theorem spansOf_mem {pc : Piece} {others : List Spot} {slack : Rat} {s : Rat × Rat} : s ∈ spansOf pc others slack ↔ ∃ o ∈ piecesOf others, nearSpan pc o slack = some s := by
  unfold spansOf
  rw [List.mem_filterMap]
  constructor
  · rintro ⟨a, ha, e⟩
    obtain ⟨o, ho, rfl⟩ := List.mem_map.mp ha
    exact ⟨o, ho, e⟩
  · rintro ⟨o, ho, e⟩
    exact ⟨_, List.mem_map.mpr ⟨o, ho, rfl⟩, e⟩
theorem bareGo_none {others : List Spot} {slack : Rat} (hs : 0 ≤ slack) : ∀ {l : List Piece}, bareGo others slack l = none → ∀ pc ∈ l, ∀ t, 0 ≤ t → t ≤ 1 → ∃ o ∈ piecesOf others, Near slack o (onWay pc.1 pc.2 t)
  | [], _, pc, hp, _, _, _ => by cases hp
  | p :: r, h, pc, hp, t, h0, h1 => by
    unfold bareGo at h
    split at h
    · cases h
    · rename_i hg
      rcases List.mem_cons.mp hp with e | hp
      · subst e
        obtain ⟨s, hm, k⟩ := gapIn_none hg t h0 h1
        obtain ⟨o, ho, e⟩ := spansOf_mem.mp hm
        refine ⟨o, ho, ((nearSpan_in hs).mp ?_).2⟩
        rw [e]
        exact k
      · exact bareGo_none hs h pc hp t h0 h1
theorem bareGo_some {others : List Spot} {slack : Rat} {p : Spot} (hs : 0 ≤ slack) : ∀ {l : List Piece}, bareGo others slack l = some p → ∃ pc ∈ l, ∃ t, 0 ≤ t ∧ t ≤ 1 ∧ p = onWay pc.1 pc.2 t ∧ ∀ o ∈ piecesOf others, ¬ Near slack o p
  | [], h => by cases h
  | pc :: r, h => by
    unfold bareGo at h
    split at h
    · rename_i t hg
      cases h
      have k := gapIn_some hg fun s hm => by
        obtain ⟨o, _, e⟩ := spansOf_mem.mp hm
        exact nearSpan_ok e
      refine ⟨pc, List.mem_cons_self, t, k.1, k.2.1, rfl, fun o ho hn => ?_⟩
      have hi := (nearSpan_in hs).mpr ⟨⟨k.1, k.2.1⟩, hn⟩
      cases e : nearSpan pc o slack with
      | none =>
        rw [e] at hi
        exact hi
      | some s =>
        rw [e] at hi
        exact k.2.2 s (spansOf_mem.mpr ⟨o, ho, e⟩) hi
    · obtain ⟨pc', hm, k⟩ := bareGo_some hs h
      exact ⟨pc', List.mem_cons_of_mem _ hm, k⟩

/-! ### the law's own measure -/
def lspan (bits : Option (Rat × Rat)) (start far low high : Rat) : Option (Rat × Rat) := match bits with
  | none => none
  | some b =>
    if far = 0 then (if low ≤ start ∧ start ≤ high then some b else none)
    else
      let e0 := (low - start) / far
      let e1 := (high - start) / far
      let e := if far < 0 then (e1, e0) else (e0, e1)
      let first := if b.1 < e.1 then e.1 else b.1
      let last := if e.2 < b.2 then e.2 else b.2
      if first ≤ last then some (first, last) else none
def lclip (a b low high : Spot) : Option (Rat × Rat) := lspan (lspan (some (0, 1)) a.1 (b.1 - a.1) low.1 high.1) a.2 (b.2 - a.2) low.2 high.2
theorem lspan_in {b : Option (Rat × Rat)} {start far low high t : Rat} : In (lspan b start far low high) t ↔ In b t ∧ low ≤ start + t * far ∧ start + t * far ≤ high := by
  cases b with
  | none =>
    unfold lspan In
    grind
  | some b =>
    unfold lspan
    dsimp only
    by_cases h0 : far = 0
    · subst h0
      rw [if_pos rfl]
      split <;> unfold In <;> grind
    · rw [if_neg h0]
      have key : ∀ e1 e2 : Rat, (∀ t, (e1 ≤ t ∧ t ≤ e2) ↔ (low ≤ start + t * far ∧ start + t * far ≤ high)) →
          (In (if (if b.1 < e1 then e1 else b.1) ≤ (if e2 < b.2 then e2 else b.2) then some ((if b.1 < e1 then e1 else b.1), (if e2 < b.2 then e2 else b.2)) else none) t ↔ In (some b) t ∧ low ≤ start + t * far ∧ start + t * far ≤ high) := by
        intro e1 e2 he
        rw [← he t]
        generalize ha : (if e2 < b.2 then e2 else b.2) = la
        generalize hb : (if b.1 < e1 then e1 else b.1) = fi
        have a1 : ∀ t, t ≤ la ↔ (t ≤ e2 ∧ t ≤ b.2) := by intro t; subst ha; split <;> grind
        have b1 : ∀ t, fi ≤ t ↔ (e1 ≤ t ∧ b.1 ≤ t) := by intro t; subst hb; split <;> grind
        by_cases hl : fi ≤ la
        · rw [if_pos hl]
          unfold In
          show fi ≤ t ∧ t ≤ la ↔ _
          rw [a1, b1]
          grind
        · rw [if_neg hl]
          unfold In
          constructor
          · intro x; exact x.elim
          · intro ⟨⟨x1, x2⟩, x3, x4⟩
            have := (a1 t).mpr ⟨x4, x2⟩
            have := (b1 t).mpr ⟨x3, x1⟩
            grind
      by_cases hn : far < 0
      · rw [if_pos hn]
        refine key _ _ fun t => ?_
        rw [div_le_of_neg hn, le_div_of_neg hn]
        constructor <;> intro ⟨x, y⟩ <;> constructor <;> grind
      · have hp : 0 < far := by grind
        rw [if_neg hn]
        refine key _ _ fun t => ?_
        rw [div_le_of hp, le_div_of hp]
        constructor <;> intro ⟨x, y⟩ <;> constructor <;> grind
theorem lspan_ok {b r : Rat × Rat} {start far low high : Rat} (h : lspan (some b) start far low high = some r) (hb : b.1 ≤ b.2) : r.1 ≤ r.2 ∧ b.1 ≤ r.1 ∧ r.2 ≤ b.2 := by
  unfold lspan at h
  dsimp only at h
  by_cases h0 : far = 0
  · rw [if_pos h0] at h
    split at h
    · cases h
      grind
    · cases h
  · rw [if_neg h0] at h
    generalize (if far < 0 then ((high - start) / far, (low - start) / far) else ((low - start) / far, (high - start) / far)) = e at h
    generalize ha : (if e.2 < b.2 then e.2 else b.2) = la at h
    generalize hb : (if b.1 < e.1 then e.1 else b.1) = fi at h
    have a1 : la ≤ b.2 := by subst ha; split <;> grind
    have b1 : b.1 ≤ fi := by subst hb; split <;> grind
    split at h
    · cases h
      dsimp only
      grind
    · cases h
theorem lclip_ok {a b low high : Spot} {r : Rat × Rat} (h : lclip a b low high = some r) : r.1 ≤ r.2 ∧ 0 ≤ r.1 ∧ r.2 ≤ 1 := by
  unfold lclip at h
  cases e : lspan (some (0, 1)) a.1 (b.1 - a.1) low.1 high.1 with
  | none =>
    rw [e] at h
    cases h
  | some s =>
    rw [e] at h
    have k1 := lspan_ok e (by grind)
    have k2 := lspan_ok h k1.1
    dsimp only at k1
    grind
theorem lclip_in {a b low high : Spot} {t : Rat} : In (lclip a b low high) t ↔ (0 ≤ t ∧ t ≤ 1) ∧ (low.1 ≤ (onWay a b t).1 ∧ (onWay a b t).1 ≤ high.1) ∧ (low.2 ≤ (onWay a b t).2 ∧ (onWay a b t).2 ≤ high.2) := by
  unfold lclip
  rw [lspan_in, lspan_in]
  unfold onWay
  dsimp only
  show ((0 ≤ t ∧ t ≤ 1) ∧ _) ∧ _ ↔ _
  grind
/-- corner k of a polyline, with the one ahead of it -/
def lreach1 (p : Spot) (poly : List Spot) (room : Rat) (k : Nat) : Bool := (lclip (poly.getD (k - 1) (0, 0)) (poly.getD k (0, 0)) (p.1 - room, p.2 - room) (p.1 + room, p.2 + room)).isSome
def lreach (p : Spot) (poly : List Spot) (room : Rat) : Bool := (List.range poly.length).any fun k => lreach1 p poly room k
theorem lclip_near {a b p : Spot} {room : Rat} : (lclip a b (p.1 - room, p.2 - room) (p.1 + room, p.2 + room)).isSome = true ↔ Near room (a, b) p := by
  have key : ∀ t, In (lclip a b (p.1 - room, p.2 - room) (p.1 + room, p.2 + room)) t ↔ _ := fun t => lclip_in
  unfold Near
  dsimp only at key ⊢
  constructor
  · intro h
    obtain ⟨r, e⟩ := Option.isSome_iff_exists.mp h
    have ok := lclip_ok e
    have k := (key r.1).mp (by rw [e]; exact ⟨Rat.le_refl, ok.1⟩)
    exact ⟨r.1, k.1.1, k.1.2, by grind, by grind, by grind, by grind⟩
  · intro ⟨u, h0, h1, h2, h3, h4, h5⟩
    have k := (key u).mpr ⟨⟨h0, h1⟩, ⟨by grind, by grind⟩, by grind, by grind⟩
    cases e : lclip a b (p.1 - room, p.2 - room) (p.1 + room, p.2 + room) with
    | none =>
      rw [e] at k
      exact k.elim
    | some r => rfl
theorem near_same {room : Rat} {a b p : Spot} (h : Near room (a, a) p) : Near room (a, b) p := by
  obtain ⟨u, h0, h1, h2, h3, h4, h5⟩ := h
  unfold onWay at h2 h3 h4 h5
  dsimp only at h2 h3 h4 h5
  refine ⟨0, by grind, by grind, ?_⟩
  unfold onWay
  dsimp only
  grind
theorem mem_pieces {α : Type} {poly : List α} (h2 : 2 ≤ poly.length) {o : α × α} : o ∈ piecesOf poly ↔ ∃ k, ∃ h : k + 1 < poly.length, o = (poly[k], poly[k + 1]) := by
  have e : piecesOf poly = poly.zip poly.tail := by
    unfold piecesOf
    split
    · simp at h2
    · rfl
  rw [e, List.mem_iff_getElem?]
  constructor
  · rintro ⟨k, hk⟩
    rw [List.getElem?_zip_eq_some] at hk
    obtain ⟨g1, g2⟩ := hk
    rw [List.getElem?_tail] at g2
    obtain ⟨l1, e1⟩ := List.getElem?_eq_some_iff.mp g1
    obtain ⟨l2, e2⟩ := List.getElem?_eq_some_iff.mp g2
    exact ⟨k, l2, Prod.ext e1.symm e2.symm⟩
  · rintro ⟨k, h, rfl⟩
    refine ⟨k, ?_⟩
    rw [List.getElem?_zip_eq_some, List.getElem?_tail]
    exact ⟨List.getElem?_eq_getElem (by omega), List.getElem?_eq_getElem h⟩
theorem lreach_iff {p : Spot} {poly : List Spot} {room : Rat} (hne : poly ≠ []) : lreach p poly room = true ↔ ∃ o ∈ piecesOf poly, Near room o p := by
  unfold lreach
  rw [List.any_eq_true]
  unfold lreach1
  constructor
  · rintro ⟨k, hk, h⟩
    have hk := List.mem_range.mp hk
    rw [lclip_near] at h
    by_cases h1 : poly.length = 1
    · obtain ⟨a, rfl⟩ := List.length_eq_one_iff.mp h1
      have : k = 0 := by simp at hk; exact hk
      subst this
      exact ⟨(a, a), List.mem_singleton.mpr rfl, h⟩
    · have h2 : 2 ≤ poly.length := by
        cases poly with
        | nil => exact absurd rfl hne
        | cons a r => simp only [List.length_cons] at h1 ⊢; omega
      cases k with
      | zero =>
        refine ⟨(poly[0], poly[1]), (mem_pieces h2).mpr ⟨0, by omega, rfl⟩, ?_⟩
        have e : ∀ i (h : i < poly.length), poly.getD i (0, 0) = poly[i] := fun i h => by rw [List.getD_eq_getElem?_getD, List.getElem?_eq_getElem h]; rfl
        rw [e 0 hk] at h
        exact near_same h
      | succ j =>
        refine ⟨(poly[j], poly[j + 1]), (mem_pieces h2).mpr ⟨j, hk, rfl⟩, ?_⟩
        have e : ∀ i (h : i < poly.length), poly.getD i (0, 0) = poly[i] := fun i h => by rw [List.getD_eq_getElem?_getD, List.getElem?_eq_getElem h]; rfl
        rw [e (j + 1) hk, Nat.add_sub_cancel, e j (by omega)] at h
        exact h
  · rintro ⟨o, ho, hn⟩
    by_cases h1 : poly.length = 1
    · obtain ⟨a, rfl⟩ := List.length_eq_one_iff.mp h1
      have : o = (a, a) := List.mem_singleton.mp ho
      subst this
      exact ⟨0, List.mem_range.mpr (by simp), lclip_near.mpr hn⟩
    · have h2 : 2 ≤ poly.length := by
        cases poly with
        | nil => exact absurd rfl hne
        | cons a r => simp only [List.length_cons] at h1 ⊢; omega
      obtain ⟨k, h, rfl⟩ := (mem_pieces h2).mp ho
      refine ⟨k + 1, List.mem_range.mpr h, ?_⟩
      have e : ∀ i (h : i < poly.length), poly.getD i (0, 0) = poly[i] := fun i h => by rw [List.getD_eq_getElem?_getD, List.getElem?_eq_getElem h]; rfl
      rw [Nat.add_sub_cancel, e (k + 1) h, e k (by omega)]
      exact lclip_near.mpr hn
theorem near_on {o : Piece} {t : Rat} (h0 : 0 ≤ t) (h1 : t ≤ 1) : Near 0 o (onWay o.1 o.2 t) := ⟨t, h0, h1, by grind, by grind, by grind, by grind⟩
/-- where None is told: all points of the first polyline -/
theorem bare_none {ones others : List Spot} {slack : Rat} (hs : 0 ≤ slack) (ho : others ≠ []) (h : bareOf ones others slack = none) : ∀ pc ∈ piecesOf ones, ∀ t, 0 ≤ t → t ≤ 1 → lreach (onWay pc.1 pc.2 t) others slack = true :=
  fun pc hp t h0 h1 => (lreach_iff ho).mpr (bareGo_none hs h pc hp t h0 h1)
/-- where a point is told -/
theorem bare_some {ones others : List Spot} {slack : Rat} {p : Spot} (hs : 0 ≤ slack) (h1 : ones ≠ []) (ho : others ≠ []) (h : bareOf ones others slack = some p) : lreach p ones 0 = true ∧ lreach p others slack = false := by
  obtain ⟨pc, hm, t, t0, t1, rfl, hf⟩ := bareGo_some hs h
  refine ⟨(lreach_iff h1).mpr ⟨pc, hm, near_on t0 t1⟩, ?_⟩
  cases e : lreach (onWay pc.1 pc.2 t) others slack with
  | false => rfl
  | true =>
    obtain ⟨o, ho', hn⟩ := (lreach_iff ho).mp e
    exact absurd hn (hf o ho')
/-- the first spot lies on the first piece -/
theorem first_on {ones : List Spot} {a : Spot} (h : ones[0]? = some a) : ∃ pc ∈ piecesOf ones, a = onWay pc.1 pc.2 0 := by
  have on0 : ∀ b : Spot, a = onWay a b 0 := fun b => by
    unfold onWay
    refine Prod.ext ?_ ?_ <;> dsimp only <;> grind
  match ones, h with
  | [b], h =>
    have e : b = a := Option.some.inj h
    subst e
    exact ⟨(b, b), List.mem_singleton.mpr rfl, on0 b⟩
  | b :: c :: r, h =>
    have e : b = a := Option.some.inj h
    subst e
    exact ⟨(b, c), List.mem_cons_self, on0 c⟩
end Gr

set_option maxRecDepth 100000
set_option maxHeartbeats 4000000
namespace Gr
open PySem PySem.Spec PyProof.Rows L2

/-! ### what a value stands for -/
abbrev Rp (α : Type) := Hp → V → α → Prop
def rInt : Rp Int := fun _ v i => v = .int i
def rBool : Rp Bool := fun _ v b => v = .bl b
def rRat (K : PySem.W.Frag) : Rp Rat := fun H v q => ∃ p, v = .ref p ∧ SqT K H p [.int q.num, .int (q.den : Int)]
def rPair {α β : Type} (K : PySem.W.Frag) (A : Rp α) (B : Rp β) : Rp (α × β) := fun H v x => ∃ p v1 v2, v = .ref p ∧ SqT K H p [v1, v2] ∧ A H v1 x.1 ∧ B H v2 x.2
def rLst {α : Type} (K : PySem.W.Frag) (A : Rp α) : Rp (List α) := fun H v xs => ∃ p vs, v = .ref p ∧ H p = some (.lst vs) ∧ Paired (A H) vs xs
def rOpt {α : Type} (A : Rp α) : Rp (Option α) := fun H v o => (o = none ∧ v = .non) ∨ (∃ a, o = some a ∧ v ≠ .non ∧ A H v a)
abbrev rSpot (K : PySem.W.Frag) : Rp (Rat × Rat) := rPair K (rRat K) (rRat K)
abbrev rPiece (K : PySem.W.Frag) : Rp ((Rat × Rat) × (Rat × Rat)) := rPair K (rSpot K) (rSpot K)

theorem Same.tup {K : PySem.W.Frag} {H H' : Hp} {a : Addr} {xs : List V} (e : Same H H') (h : SqT K H a xs) : SqT K H' a xs := by
  rcases h with (h | ⟨o, h⟩) | h
  · exact .inl (.inl (e _ _ h))
  · exact .inl (.inr ⟨o, e _ _ h⟩)
  · exact .inr h
theorem same_new {H : Hp} {p : Addr} {o : HO} (h : H p = none) : Same H (upd H p o) := fun b x e => by
  rw [upd_ne (ne_of_none e h)]
  exact e

class Mono {α : Type} (A : Rp α) : Prop where
  go : ∀ {H H' : Hp} {v : V} {a : α}, Same H H' → A H v a → A H' v a
theorem up {α : Type} {A : Rp α} [Mono A] {H H' : Hp} {v : V} {a : α} (e : Same H H') (h : A H v a) : A H' v a := Mono.go e h
instance : Mono rInt := ⟨fun _ h => h⟩
instance : Mono rBool := ⟨fun _ h => h⟩
instance {K : PySem.W.Frag} : Mono (rRat K) := ⟨fun e ⟨p, h1, h2⟩ => ⟨p, h1, Same.tup e h2⟩⟩
instance {α β : Type} {K : PySem.W.Frag} {A : Rp α} {B : Rp β} [Mono A] [Mono B] : Mono (rPair K A B) :=
  ⟨fun e ⟨p, v1, v2, h1, h2, h3, h4⟩ => ⟨p, v1, v2, h1, Same.tup e h2, up e h3, up e h4⟩⟩
theorem paired_up {α : Type} {A : Rp α} [Mono A] {H H' : Hp} (e : Same H H') {vs : List V} {xs : List α} (h : Paired (A H) vs xs) : Paired (A H') vs xs := Paired.mapP h fun _ _ r => up e r
instance {α : Type} {K : PySem.W.Frag} {A : Rp α} [Mono A] : Mono (rLst K A) := ⟨fun e ⟨p, vs, h1, h2, h3⟩ => ⟨p, vs, h1, e _ _ h2, paired_up e h3⟩⟩
instance {α : Type} {A : Rp α} [Mono A] : Mono (rOpt A) := ⟨fun e h => by
  rcases h with h | ⟨a, h1, h2, h3⟩
  · exact .inl h
  · exact .inr ⟨a, h1, h2, up e h3⟩⟩
theorem rRat.ne {K : PySem.W.Frag} {H : Hp} {v : V} {q : Rat} (h : rRat K H v q) : v ≠ .non := by
  obtain ⟨p, rfl, _⟩ := h
  exact fun z => by cases z
theorem rPair.ne {α β : Type} {K : PySem.W.Frag} {A : Rp α} {B : Rp β} {H : Hp} {v : V} {q : α × β} (h : rPair K A B H v q) : v ≠ .non := by
  obtain ⟨p, _, _, rfl, _⟩ := h
  exact fun z => by cases z

/-! ### promises -/
abbrev Ret {γ : Type} (C : Rp γ) (H : Hp) (Q : VK) (c : γ) : Prop := ∀ H' v, Same H H' → C H' v c → Q v H'
def sp1 {α γ : Type} (A : Rp α) (C : Rp γ) (pre : α → Prop) (f : α → γ) : Sp := fun vs H Q _ => ∃ x a, vs = [x] ∧ A H x a ∧ pre a ∧ Ret C H Q (f a)
def sp2 {α β γ : Type} (A : Rp α) (B : Rp β) (C : Rp γ) (pre : α → β → Prop) (f : α → β → γ) : Sp := fun vs H Q _ =>
  ∃ x y a b, vs = [x, y] ∧ A H x a ∧ B H y b ∧ pre a b ∧ Ret C H Q (f a b)
def sp3 {α β γ δ : Type} (A : Rp α) (B : Rp β) (B2 : Rp δ) (C : Rp γ) (pre : α → β → δ → Prop) (f : α → β → δ → γ) : Sp := fun vs H Q _ =>
  ∃ x y z a b c, vs = [x, y, z] ∧ A H x a ∧ B H y b ∧ B2 H z c ∧ pre a b c ∧ Ret C H Q (f a b c)
def sp4 {α β γ δ ε : Type} (A : Rp α) (B : Rp β) (B2 : Rp δ) (B3 : Rp ε) (C : Rp γ) (pre : α → β → δ → ε → Prop) (f : α → β → δ → ε → γ) : Sp := fun vs H Q _ =>
  ∃ x y z u a b c d, vs = [x, y, z, u] ∧ A H x a ∧ B H y b ∧ B2 H z c ∧ B3 H u d ∧ pre a b c d ∧ Ret C H Q (f a b c d)
def sp5 {α β γ δ ε ζ : Type} (A : Rp α) (B : Rp β) (B2 : Rp δ) (B3 : Rp ε) (B4 : Rp ζ) (C : Rp γ) (pre : α → β → δ → ε → ζ → Prop) (f : α → β → δ → ε → ζ → γ) : Sp := fun vs H Q _ =>
  ∃ x y z u w a b c d e, vs = [x, y, z, u, w] ∧ A H x a ∧ B H y b ∧ B2 H z c ∧ B3 H u d ∧ B4 H w e ∧ pre a b c d e ∧ Ret C H Q (f a b c d e)
section
variable {α β γ δ ε ζ : Type} {A : Rp α} {B : Rp β} {B2 : Rp δ} {B3 : Rp ε} {B4 : Rp ζ} {C : Rp γ}
theorem len1 {pre : α → Prop} {f : α → γ} : ∀ vs H Q E, sp1 A C pre f vs H Q E → vs.length = 1 := fun vs H Q E ⟨_, _, h, _⟩ => by rw [h]; rfl
theorem len2 {pre : α → β → Prop} {f : α → β → γ} : ∀ vs H Q E, sp2 A B C pre f vs H Q E → vs.length = 2 := fun vs H Q E ⟨_, _, _, _, h, _⟩ => by rw [h]; rfl
theorem len3 {pre : α → β → δ → Prop} {f : α → β → δ → γ} : ∀ vs H Q E, sp3 A B B2 C pre f vs H Q E → vs.length = 3 := fun vs H Q E ⟨_, _, _, _, _, _, h, _⟩ => by rw [h]; rfl
theorem len4 {pre : α → β → δ → ε → Prop} {f : α → β → δ → ε → γ} : ∀ vs H Q E, sp4 A B B2 B3 C pre f vs H Q E → vs.length = 4 := fun vs H Q E ⟨_, _, _, _, _, _, _, _, h, _⟩ => by rw [h]; rfl
theorem len5 {pre : α → β → δ → ε → ζ → Prop} {f : α → β → δ → ε → ζ → γ} : ∀ vs H Q E, sp5 A B B2 B3 B4 C pre f vs H Q E → vs.length = 5 := fun vs H Q E ⟨_, _, _, _, _, _, _, _, _, _, h, _⟩ => by rw [h]; rfl
theorem g_sp1 {pre : α → Prop} {f : α → γ} {x : V} {a : α} {H : Hp} {Q : VK} {E : XK} (hx : A H x a) (hp : pre a) (q : Ret C H Q (f a)) : sp1 A C pre f [x] H Q E := ⟨x, a, rfl, hx, hp, q⟩
theorem g_sp2 {pre : α → β → Prop} {f : α → β → γ} {x y : V} {a : α} {b : β} {H : Hp} {Q : VK} {E : XK} (hx : A H x a) (hy : B H y b) (hp : pre a b) (q : Ret C H Q (f a b)) : sp2 A B C pre f [x, y] H Q E := ⟨x, y, a, b, rfl, hx, hy, hp, q⟩
theorem g_sp3 {pre : α → β → δ → Prop} {f : α → β → δ → γ} {x y z : V} {a : α} {b : β} {c : δ} {H : Hp} {Q : VK} {E : XK} (hx : A H x a) (hy : B H y b) (hz : B2 H z c) (hp : pre a b c) (q : Ret C H Q (f a b c)) : sp3 A B B2 C pre f [x, y, z] H Q E := ⟨x, y, z, a, b, c, rfl, hx, hy, hz, hp, q⟩
theorem g_sp4 {pre : α → β → δ → ε → Prop} {f : α → β → δ → ε → γ} {x y z u : V} {a : α} {b : β} {c : δ} {d : ε} {H : Hp} {Q : VK} {E : XK} (hx : A H x a) (hy : B H y b) (hz : B2 H z c) (hu : B3 H u d) (hp : pre a b c d) (q : Ret C H Q (f a b c d)) : sp4 A B B2 B3 C pre f [x, y, z, u] H Q E := ⟨x, y, z, u, a, b, c, d, rfl, hx, hy, hz, hu, hp, q⟩
theorem g_sp5 {pre : α → β → δ → ε → ζ → Prop} {f : α → β → δ → ε → ζ → γ} {x y z u w : V} {a : α} {b : β} {c : δ} {d : ε} {e : ζ} {H : Hp} {Q : VK} {E : XK} (hx : A H x a) (hy : B H y b) (hz : B2 H z c) (hu : B3 H u d) (hw : B4 H w e) (hp : pre a b c d e) (q : Ret C H Q (f a b c d e)) : sp5 A B B2 B3 B4 C pre f [x, y, z, u, w] H Q E := ⟨x, y, z, u, w, a, b, c, d, e, rfl, hx, hy, hz, hu, hw, hp, q⟩
end

/-! ### readings, one step each -/
section
variable {K : PySem.W.Frag} {σ : L2.St} {H : Hp} {Q : VK} {ta tb tc td te tf : TE} {x y : V} {D : Ends} {t u : TS} {i : Nat}
theorem g_var {v : V} (h : σ[i]? = some (some v)) (q : Q v H) : tVar i σ H Q := ⟨v, h, q⟩
theorem g_c {v : V} (q : Q v H) : tC v σ H Q := q
theorem g_op {r : R2} (h : ta σ H fun x H1 => tb σ H1 fun y H2 => r x y H2 Q) : tOp r ta tb σ H Q := h
theorem g_un {r : V → Hp → VK → Prop} (h : ta σ H fun x H1 => r x H1 Q) : tUn r ta σ H Q := h
theorem g_call1 {sp : Sp} {E : XK} (h : ta σ H fun x H1 => sp [x] H1 Q E) : tCall sp [] E (tCons ta tNil) σ H Q := h
theorem g_call2 {sp : Sp} {E : XK} (h : ta σ H fun x H1 => tb σ H1 fun y H2 => sp [x, y] H2 Q E) : tCall sp [] E (tCons ta (tCons tb tNil)) σ H Q := h
theorem g_call3 {sp : Sp} {E : XK} (h : ta σ H fun x H1 => tb σ H1 fun y H2 => tc σ H2 fun z H3 => sp [x, y, z] H3 Q E) : tCall sp [] E (tCons ta (tCons tb (tCons tc tNil))) σ H Q := h
theorem g_call4 {sp : Sp} {E : XK} (h : ta σ H fun x H1 => tb σ H1 fun y H2 => tc σ H2 fun z H3 => td σ H3 fun u H4 => sp [x, y, z, u] H4 Q E) : tCall sp [] E (tCons ta (tCons tb (tCons tc (tCons td tNil)))) σ H Q := h
theorem g_call5 {sp : Sp} {E : XK} (h : ta σ H fun x H1 => tb σ H1 fun y H2 => tc σ H2 fun z H3 => td σ H3 fun u H4 => te σ H4 fun w H5 => sp [x, y, z, u, w] H5 Q E) : tCall sp [] E (tCons ta (tCons tb (tCons tc (tCons td (tCons te tNil))))) σ H Q := h
theorem g_asg (h : te σ H fun v H1 => D.nx (σ.set i (some v)) H1) : tAsg te (gName i) D σ H := h
theorem g_seq (h : t { D with nx := u D } σ H) : tSeq t u D σ H := h
theorem g_ret (h : te σ H D.rt) : tRet te D σ H := h
theorem g_ixR0 {q : Rat} (h : rRat K H x q) (k : Q (.int q.num) H) : rIxT K x (.int 0) H Q := by
  obtain ⟨p, rfl, hs⟩ := h
  exact ⟨p, _, 0, _, rfl, rfl, hs, atI_nat (j := 0) rfl, k⟩
theorem g_ixR1 {q : Rat} (h : rRat K H x q) (k : Q (.int (q.den : Int)) H) : rIxT K x (.int 1) H Q := by
  obtain ⟨p, rfl, hs⟩ := h
  exact ⟨p, _, 1, _, rfl, rfl, hs, atI_nat (j := 1) rfl, k⟩
theorem g_ixP0 {α β : Type} {A : Rp α} {B : Rp β} {q : α × β} (h : rPair K A B H x q) (k : ∀ v, A H v q.1 → Q v H) : rIxT K x (.int 0) H Q := by
  obtain ⟨p, v1, v2, rfl, hs, h1, h2⟩ := h
  exact ⟨p, _, 0, _, rfl, rfl, hs, atI_nat (j := 0) rfl, k _ h1⟩
theorem g_ixP1 {α β : Type} {A : Rp α} {B : Rp β} {q : α × β} (h : rPair K A B H x q) (k : ∀ v, B H v q.2 → Q v H) : rIxT K x (.int 1) H Q := by
  obtain ⟨p, v1, v2, rfl, hs, h1, h2⟩ := h
  exact ⟨p, _, 1, _, rfl, rfl, hs, atI_nat (j := 1) rfl, k _ h2⟩
theorem g_tup2 (h : ta σ H fun x H1 => tb σ H1 fun y H2 => ∀ p, H2 p = none → Q (.ref p) (upd H2 p (.tup [x, y]))) : tTup (tCons ta (tCons tb tNil)) σ H Q := by
  show ta σ H fun x H1 => tb σ H1 fun y H2 => [x, y].length ≤ sizeLine ∧ ∀ p, H2 p = none → Q (.ref p) (upd H2 p (.tup [x, y]))
  have e : ∀ x y : V, [x, y].length ≤ sizeLine := fun x y => by show 2 ≤ sizeLine; decide
  simp only [e, true_and]
  exact h
theorem g_if {c : TT} (h : c σ H fun b H1 => if b = true then t D σ H1 else u D σ H1) : tIfS c t u D σ H := h
theorem g_ifE {c : TT} (h : c σ H fun b H1 => if b = true then ta σ H1 Q else tb σ H1 Q) : tIf c ta tb σ H Q := h
theorem g_B {Qb : Bool → Hp → Prop} (h : te σ H fun x H1 => ∃ c, x = .bl c ∧ Qb c H1) : tB te σ H Qb := h
theorem g_test {Qb : Bool → Hp → Prop} (h : te σ H fun x H1 => ∃ c, x = .bl c ∧ Qb c H1) : tTest te σ H Qb := h
theorem g_not {c : TT} {Qb : Bool → Hp → Prop} (h : c σ H fun b H1 => Qb (!b) H1) : tNot c σ H Qb := h
theorem g_and {c d : TT} {Qb : Bool → Hp → Prop} (h : c σ H fun b H1 => if b = true then d σ H1 Qb else Qb false H1) : tAnd c d σ H Qb := h
theorem g_or {c d : TT} {Qb : Bool → Hp → Prop} (h : c σ H fun b H1 => if b = true then Qb true H1 else d σ H1 Qb) : tOr c d σ H Qb := h
end
theorem ret_same {γ : Type} {C : Rp γ} {H H' : Hp} {Q : VK} {c : γ} (k : Ret C H Q c) (e : Same H H') : Ret C H' Q c := fun H2 v e2 h => k H2 v (e.trans e2) h

/-! ### the defs of the text -/
def topS (i : Nat) : Stmt := PySem.Challenge.pw_gromatic_k21_whole_bare_points.main.body.getD i (.Pass ⟨0, 0, 0, 0⟩)
/-- a def of the text, where it stands -/
structure Df (K : PySem.W.Frag) (mg : Str → Option Value) (x : Str) (st : Stmt) (ps : List Str) : Prop where
  ex : ∃ f fd, Fun K x x st f fd ∧ mg x = some (.ref f) ∧ Binds K fd ps []
/-- a def that keeps a promise -/
structure Kn (P : Program) (w : World) (K : PySem.W.Frag) (mg : Str → Option Value) (base : Heap) (x : Str) (k : Nat) (ps : List Str) (sp : Sp) : Prop where
  ex : ∃ f fd, FnOk P w K mg base CX0 k f fd ps sp ∧ mg x = some (.ref f) ∧ PySem.W.keepIn K (.ref f) = true ∧ Binds K fd ps []
theorem Df.kn {P : Program} {w : World} {K : PySem.W.Frag} {mg : Str → Option Value} {base : Heap} {x : Str} {st : Stmt} {ps N : List Str} {k : Nat} {sp : Sp} (d : Df K mg x st ps) (S : FnScope N ps (defScope st)) (len : ∀ vs H Q E, sp vs H Q E → vs.length = ps.length)
    (hbody : ∀ (f : Addr) (cdv : Value) (A : Around) (outer : List Env) (s : Shared) (H : Hp) (vs : List V) (Q : VK) (E : XK), Room k (A.deeper (envOfC x (defScope st) s.heap.objs.size f cdv)) → sp vs H Q E →
      ∃ t, PSs (cxOf CX0 P w K mg base N x (defScope st) f cdv A outer s H E).nox (defBody st) t ∧ t { nx := fun _ H' => Q .non H', rt := Q } (start N vs) H) : Kn P w K mg base x (k + 1) ps sp := by
  obtain ⟨f, fd, F, hm, hb⟩ := d.ex
  exact ⟨f, fd, F.ok S len fun cdv A outer s H vs Q E hr h => hbody f cdv A outer s H vs Q E hr h, hm, F.kp, hb⟩
theorem Kn.imp {P : Program} {w : World} {K : PySem.W.Frag} {mg : Str → Option Value} {base : Heap} {x : Str} {k : Nat} {ps : List Str} {sp sp' : Sp} (d : Kn P w K mg base x k ps sp) (h : ∀ vs H Q E, sp' vs H Q E → sp vs H Q E) : Kn P w K mg base x k ps sp' := by
  obtain ⟨f, fd, F, r⟩ := d.ex
  exact ⟨f, fd, F.imp h, r⟩
section
variable {X : Cx} {k j : Nat} {x : Str} {ps : List Str} {sp : Sp} {p pos : Pos} {e : Expr} {es : List Expr} {t : TA}
theorem pk (N : Kn X.prog X.w X.K X.mg X.base x k ps sp) (hr : Room j X.A) (hkj : k ≤ j) (hg : Gl X x) (ha : PA X (e :: es) t) (hdb : (x == ("__debug__" : Str)) = false := by decide)
    (he : starEach (e :: es) X.env = (false, eval e X.env) :: starEach es X.env := by rfl) (hpl : (backTo pos (starEach es X.env)).any (·.1) = false := by rfl) :
    PE X (.Call (.Name x p) (e :: es) [] pos) (tCall sp [] E0 t) := by
  obtain ⟨f, fd, F, hm, kp, hb⟩ := N.ex
  exact pe_call F (hr.mono hkj) hg hm kp hb .nil pass0 ha hdb he hpl
end
end Gr

set_option maxRecDepth 100000
set_option maxHeartbeats 4000000
/-! ### // by any divisor that is not nought, below 2 ^ 9000 -/
namespace Gr
open PySem PySem.Spec PyProof.Rows L2
def CDivZ (_ j : Int) : Prop := j ≠ 0 ∧ j.natAbs.log2 < 9000
theorem op_fdivZ {X : Cx} : OpR X (binaryOp .FloorDiv) (rI CDivZ fun i j => .int (i.fdiv j)) := opI fun _ _ _ _ _ _ _ hc q => floordiv_int hc.1 q (.inl (PyProof.noPylong_of_log2 hc.2))
theorem fdivZ_of {i j : Int} {b : Nat} (h : j ≠ 0) (hb : j.natAbs < 2 ^ b) (h0 : 0 < b) (h9 : b ≤ 9000) : CDivZ i j := ⟨h, Nat.lt_of_lt_of_le (PySem.Flt.log2_lt_of h0 hb) h9⟩
end Gr

/-! ### list(zip(xs, ys)) -/
namespace PySem.W
open PySem PySem.Calls PyProof.Rows PyProof.V PySem.Spec
theorem zip_no_len : typeLookup (.type "zip") "__len__" = pure none := by rw [typeLookup_type, builtinLookup_eq_fast]; kernel_rfl
theorem zip_no_hint : typeLookup (.type "zip") "__length_hint__" = pure none := by rw [typeLookup_type, builtinLookup_eq_fast]; kernel_rfl
def ZSt (h : Heap) (z TI TO i1 i2 l1 l2 S : Addr) (xs ys : Array Value) (i : Nat) : Prop :=
  IsPair h TI (.ref i1) (.ref i2) ∧ h.IsListIter i1 l1 i ∧ h.IsListIter i2 l2 i ∧ h.IsList l1 xs ∧ h.IsList l2 ys ∧
    ((IsZip h z TI TO .none ∧ ∃ a b, IsPair h TO a b) ∨ ∃ T f oT, IsZipHeld h z TI TO T f ∧ h.get? T = some oT ∧ T ≠ z ∧ T ≠ i1 ∧ T ≠ i2 ∧ T ≠ S)
structure ZOff (z TI TO i1 i2 l1 l2 S : Addr) : Prop where
  z : z ≠ S
  TI : TI ≠ S
  TO : TO ≠ S
  i1 : i1 ≠ S
  i2 : i2 ≠ S
  l1 : l1 ≠ S
  l2 : l2 ≠ S
section
variable {prog : Program} {w : World} {A : Around} {E : Value → Shared → Prop} {s : Shared} {z TI TO i1 i2 l1 l2 S : Addr} {xs ys : Array Value}
theorem ZSt.keep {h h' : Heap} {i : Nat} (O : ZOff z TI TO i1 i2 l1 l2 S) (x : ZSt h z TI TO i1 i2 l1 l2 S xs ys i) (hk : ∀ b o, b ≠ S → h.get? b = some o → h'.get? b = some o) : ZSt h' z TI TO i1 i2 l1 l2 S xs ys i := by
  obtain ⟨hTI, h1, h2, hl1, hl2, hz⟩ := x
  refine ⟨hk _ _ O.TI hTI, h1.at fun o e => hk _ o O.i1 e, h2.at fun o e => hk _ o O.i2 e, hl1.at fun o e => hk _ o O.l1 e, hl2.at fun o e => hk _ o O.l2 e, ?_⟩
  rcases hz with ⟨hz, a, b, hTO⟩ | ⟨T, f, oT, hz, hT, r1, r2, r3, r4⟩
  · exact .inl ⟨hk _ _ O.z hz, a, b, hk _ _ O.TO hTO⟩
  · exact .inr ⟨T, f, oT, hk _ _ O.z hz, hk _ _ r4 hT, r1, r2, r3, r4⟩
theorem zs_item {i : Nat} {x y : Value} {Q : Option Value → Shared → Prop} (D : ZipApart z TI TO i1 i2 l1 l2) (st : ZSt s.heap z TI TO i1 i2 l1 l2 S xs ys i) (hS : S < s.heap.objs.size) (ex : xs[i]? = some x) (ey : ys[i]? = some y)
    (hQ : ∀ h', ZSt h' z TI TO i1 i2 l1 l2 S xs ys (i + 1) → h'.get? s.heap.objs.size = some { cls := .type "tuple", data := .seq #[x, y] } → h'.objs.size = s.heap.objs.size + 1 →
      (∀ b o, b ≠ z → b ≠ TO → b ≠ i1 → b ≠ i2 → s.heap.get? b = some o → h'.get? b = some o) → Q (some (.ref s.heap.objs.size)) { s with heap := h' }) : wpAny (model prog w) A (pyNext (.ref z)) Q E s := by
  obtain ⟨hTI, h1, h2, hl1, hl2, hz⟩ := st
  have lt : ∀ {c o}, s.heap.get? c = some o → s.heap.objs.size ≠ c := fun e => Nat.ne_of_gt (Heap.lt_size e)
  have n1 : s.heap.objs.size ≠ i1 := let ⟨_, e, _⟩ := h1; lt e
  have n2 : s.heap.objs.size ≠ i2 := let ⟨_, e, _⟩ := h2; lt e
  rcases hz with ⟨hz, a, b, hTO⟩ | ⟨T, f, oT, hz, hT, r1, r2, r3, r4⟩
  · refine wpAny_pyNext_zip_item D hz hTI hTO h1 h2 hl1 hl2 ex ey fun h' a1 a2 a3 a4 a5 a6 hk => ?_
    exact hQ h' ⟨hk _ _ D.TIz D.TITO D.TIi1 D.TIi2 hTI, a3, a4, hl1.at fun o e => hk _ o D.l1z D.l1TO D.l1i1 D.l1i2 e, hl2.at fun o e => hk _ o D.l2z D.l2TO D.l2i1 D.l2i2 e,
        .inr ⟨s.heap.objs.size, false, _, a1, a5, lt hz, n1, n2, Nat.ne_of_gt hS⟩⟩ a5 a6 fun c o c1 c2 c3 c4 e => hk c o c1 c2 c3 c4 e
  · refine wpAny_pyNext_zip_item_held D hz hT hTI h1 h2 hl1 hl2 ex ey fun h' a1 a3 a4 a5 a6 hk => ?_
    exact hQ h' ⟨hk _ _ D.TIz D.TIi1 D.TIi2 hTI, a3, a4, hl1.at fun o e => hk _ o D.l1z D.l1i1 D.l1i2 e, hl2.at fun o e => hk _ o D.l2z D.l2i1 D.l2i2 e,
        .inr ⟨T, true, oT, a1, hk _ _ r1 r2 r3 hT, r1, r2, r3, r4⟩⟩ a5 a6 fun c o c1 c2 c3 c4 e => hk c o c1 c3 c4 e
theorem zs_done {i : Nat} {Q : Option Value → Shared → Prop} (hh : A.handled = none) (D : ZipApart z TI TO i1 i2 l1 l2) (st : ZSt s.heap z TI TO i1 i2 l1 l2 S xs ys i) (hend : xs[i]? = none ∨ ys[i]? = none)
    (hQ : ∀ h', (∀ b o, b ≠ z → b ≠ TO → b ≠ i1 → b ≠ i2 → s.heap.get? b = some o → h'.get? b = some o) → Q none { s with heap := h' }) : wpAny (model prog w) A (pyNext (.ref z)) Q E s := by
  obtain ⟨hTI, h1, h2, hl1, hl2, hz⟩ := st
  rcases hz with ⟨hz, a, b, hTO⟩ | ⟨T, f, oT, hz, hT, r1, r2, r3, r4⟩
  · exact wpAny_pyNext_zip_end hh D hz hTI hTO h1 h2 hl1 hl2 hend fun h' hk => hQ h' fun c o c1 c2 c3 c4 e => hk c o c1 c2 c3 c4 e
  · exact wpAny_pyNext_zip_end_held hh D hz hT hTI h1 h2 hl1 hl2 hend fun h' hk => hQ h' fun c o c1 c2 c3 c4 e => hk c o c1 c3 c4 e
structure ZG (xs ys : Array Value) (lo : Addr) (h : Heap) (as : List Addr) : Prop where
  rise : as.Pairwise (· < ·)
  above : ∀ a ∈ as, lo < a
  pairs : ∀ (j : Nat) (a : Addr), as[j]? = some a → ∃ x y, xs[j]? = some x ∧ ys[j]? = some y ∧ h.get? a = some { cls := .type "tuple", data := .seq #[x, y] }
theorem ZG.there {lo : Addr} {h : Heap} {as : List Addr} (g : ZG xs ys lo h as) {a : Addr} (ha : a ∈ as) : a < h.objs.size := by
  obtain ⟨j, hj⟩ := List.mem_iff_getElem?.mp ha
  obtain ⟨_, _, _, _, e⟩ := g.pairs j a hj
  exact Heap.lt_size e
/-- the zip's own objects lie below the list -/
structure ZLow (z TI TO i1 i2 l1 l2 S : Addr) : Prop where
  z : z < S
  TI : TI < S
  TO : TO < S
  i1 : i1 < S
  i2 : i2 < S
  l1 : l1 < S
  l2 : l2 < S
theorem ZLow.off (L : ZLow z TI TO i1 i2 l1 l2 S) : ZOff z TI TO i1 i2 l1 l2 S := ⟨Nat.ne_of_lt L.z, Nat.ne_of_lt L.TI, Nat.ne_of_lt L.TO, Nat.ne_of_lt L.i1, Nat.ne_of_lt L.i2, Nat.ne_of_lt L.l1, Nat.ne_of_lt L.l2⟩
theorem zl_loop {R : Result → Shared → Prop} (hh : A.handled = none) (D : ZipApart z TI TO i1 i2 l1 l2) (L : ZLow z TI TO i1 i2 l1 l2 S) (hn : min xs.size ys.size ≤ sizeLine) (res : Value) {h₁ : Heap}
    (hR : ∀ h' tk acc c as, (∀ b o, b ≠ S → b ≠ z → b ≠ TO → b ≠ i1 → b ≠ i2 → h₁.get? b = some o → h'.get? b = some o) → h'.get? S = some { cls := .type "list", dict := none, data := .seq acc c, slots := #[] } → as.length = min xs.size ys.size → ZG xs ys S h' as →
      acc.toList = as.map Value.ref → R (.ok (.ret res)) { s with heap := h', toks := tk }) :
    ∀ (k i : Nat) (h : Heap) (tk c : Nat) (acc : Array Value) (as : List Addr), min xs.size ys.size - i = k → i ≤ min xs.size ys.size → ZSt h z TI TO i1 i2 l1 l2 S xs ys i → (∀ b o, b ≠ S → b ≠ z → b ≠ TO → b ≠ i1 → b ≠ i2 → h₁.get? b = some o → h.get? b = some o) →
      h.get? S = some { cls := .type "list", dict := none, data := .seq acc c, slots := #[] } → acc.toList = as.map Value.ref → as.length = i → ZG xs ys S h as →
      codeAny (model prog w) A (.builtin "list.extend.loop" ⟨[.ref S, .ref z, res], []⟩) R { s with heap := h, toks := tk } := by
  have O := L.off
  intro k
  induction k with
  | zero =>
    intro i h tk c acc as hk hi hst hkeep hS hacc hal hG
    have hin : i = min xs.size ys.size := by omega
    refine codeAny_builtin PySem.F.entry_extend_loop ?_
    rw [Around.under_plainId PySem.F.plain_extend_loop _]
    show wpAny _ A.in1 (pyNext (.ref z) >>= _) _ _ _
    have hend : xs[i]? = none ∨ ys[i]? = none := by
      rcases Nat.le_total xs.size ys.size with h | h
      · exact .inl (Array.getElem?_eq_none (by rw [hin, Nat.min_eq_left h]; exact Nat.le_refl _))
      · exact .inr (Array.getElem?_eq_none (by rw [hin, Nat.min_eq_right h]; exact Nat.le_refl _))
    refine wpAny_bind (zs_done (s := { s with heap := h, toks := tk }) (A := A.in1) hh D hst hend fun h' he => ?_)
    refine wpAny_pure (hR h' tk acc c as (fun b o h0 h1 h2 h3 h4 e => he b o h1 h2 h3 h4 (hkeep b o h0 h1 h2 h3 h4 e)) (he S _ O.z.symm O.TO.symm O.i1.symm O.i2.symm hS) (by omega) ⟨hG.rise, hG.above, fun j a hj => ?_⟩ hacc)
    obtain ⟨x, y, e1, e2, e3⟩ := hG.pairs j a hj
    have ha := hG.above a (List.mem_of_getElem? hj)
    exact ⟨x, y, e1, e2, he a _ (Nat.ne_of_gt (Nat.lt_trans L.z ha)) (Nat.ne_of_gt (Nat.lt_trans L.TO ha)) (Nat.ne_of_gt (Nat.lt_trans L.i1 ha)) (Nat.ne_of_gt (Nat.lt_trans L.i2 ha)) e3⟩
  | succ k ih =>
    intro i h tk c acc as hk hi hst hkeep hS hacc hal hG
    have hlt : i < min xs.size ys.size := by omega
    have hix : i < xs.size := Nat.lt_of_lt_of_le hlt (Nat.min_le_left ..)
    have hiy : i < ys.size := Nat.lt_of_lt_of_le hlt (Nat.min_le_right ..)
    have ex := Array.getElem?_eq_getElem hix
    have ey := Array.getElem?_eq_getElem hiy
    have hsz : acc.size = i := by rw [← Array.length_toList, hacc, List.length_map, hal]
    have hSl : S < h.objs.size := Heap.lt_size hS
    refine codeAny_builtin PySem.F.entry_extend_loop ?_
    rw [Around.under_plainId PySem.F.plain_extend_loop _]
    show wpAny _ A.in1 (pyNext (.ref z) >>= _) _ _ _
    refine wpAny_bind (zs_item (s := { s with heap := h, toks := tk }) (S := S) D hst hSl ex ey fun h' hst' ht hz hkp => ?_)
    dsimp only at ht hz hkp ⊢
    have hS' := hkp S _ O.z.symm O.TO.symm O.i1.symm O.i2.symm hS
    have up : ∀ b o, b ≠ S → h'.get? b = some o → (h'.update S (Obj.mapSeq (·.push (Value.ref h.objs.size)))).get? b = some o := fun b o hb e => (Heap.get?_update_other _ _ (Ne.symm hb)).trans e
    show wpAny _ A.in1 (updateSeq S (·.push (Value.ref h.objs.size)) >>= _) _ _ _
    refine wpAny_bind ?_
    refine wpAny_updateSeq hS' rfl (wpAny_pure ⟨plainId_quiet PySem.F.plain_extend_loop _, ih (i + 1) _ tk _ (acc.push (Value.ref h.objs.size)) (as ++ [h.objs.size]) (by omega) hlt (hst'.keep O up)
      (fun b o h0 h1 h2 h3 h4 e => up b o h0 (hkp b o h1 h2 h3 h4 (hkeep b o h0 h1 h2 h3 h4 e))) (Heap.get?_update_self _ hS' rfl) (by rw [Array.toList_push, hacc, List.map_append]; rfl) (by rw [List.length_append, hal]; rfl) ⟨?_, ?_, ?_⟩⟩) (by rw [hsz]; omega) (by show (acc.push (Value.ref h.objs.size)).size ≤ sizeLine + 1; rw [Array.size_push, hsz]; omega)
    · refine List.pairwise_append.mpr ⟨hG.rise, List.pairwise_singleton _ _, fun a ha b hb => ?_⟩
      rw [List.mem_singleton.mp hb]
      exact hG.there ha
    · intro a ha
      rcases List.mem_append.mp ha with ha | ha
      · exact hG.above a ha
      · rw [List.mem_singleton.mp ha]; exact hSl
    · intro j b hj
      rcases Nat.lt_trichotomy j as.length with h1 | h1 | h1
      · rw [List.getElem?_append_left h1] at hj
        obtain ⟨x', y', e1, e2, e3⟩ := hG.pairs j b hj
        have hb := hG.above b (List.mem_of_getElem? hj)
        exact ⟨x', y', e1, e2, up b _ (Nat.ne_of_gt hb) (hkp b _ (Nat.ne_of_gt (Nat.lt_trans L.z hb)) (Nat.ne_of_gt (Nat.lt_trans L.TO hb)) (Nat.ne_of_gt (Nat.lt_trans L.i1 hb)) (Nat.ne_of_gt (Nat.lt_trans L.i2 hb)) e3)⟩
      · subst h1
        have hb : h.objs.size = b := by simpa using hj
        subst hb
        exact ⟨_, _, by rw [hal]; exact ex, by rw [hal]; exact ey, up _ _ (Nat.ne_of_gt hSl) ht⟩
      · have hnone : (as ++ [h.objs.size])[j]? = none := List.getElem?_eq_none (by rw [List.length_append, List.length_singleton]; omega)
        rw [hnone] at hj; cases hj
theorem zl_hint (hT : s.TypeIs (.ref z) "zip") {Q : Bool → Shared → Prop} (h : Q true s) : wpAny (model prog w) A (Builtin.List.listLengthHint (.ref z)) Q E s := by
  unfold Builtin.List.listLengthHint
  refine wpAny_bind (wpAny_specialOf hT zip_no_len ?_)
  refine wpAny_bind (wpAny_specialOf hT zip_no_hint ?_)
  exact wpAny_pure h
theorem zl_extend {R : Result → Shared → Prop} (hh : A.handled = none) (D : ZipApart z TI TO i1 i2 l1 l2) (L : ZLow z TI TO i1 i2 l1 l2 S) (hz : IsZip s.heap z TI TO .none) (hTI : IsPair s.heap TI (.ref i1) (.ref i2)) (hTO : ∃ a b, IsPair s.heap TO a b)
    (h1 : s.heap.IsListIter i1 l1 0) (h2 : s.heap.IsListIter i2 l2 0) (hl1 : s.heap.IsList l1 xs) (hl2 : s.heap.IsList l2 ys) (res : Value) (c₀ : Nat) (hS : s.heap.get? S = some { cls := .type "list", data := .seq #[] c₀ })
    (hR : ∀ h' tk acc c as, (∀ b o, b ≠ S → b ≠ z → b ≠ TO → b ≠ i1 → b ≠ i2 → s.heap.get? b = some o → h'.get? b = some o) → h'.get? S = some { cls := .type "list", dict := none, data := .seq acc c, slots := #[] } → as.length = min xs.size ys.size → ZG xs ys S h' as →
      acc.toList = as.map Value.ref → R (.ok (.ret res)) { s with heap := h', toks := tk }) (hn : min xs.size ys.size ≤ sizeLine) :
    wpAny (model prog w) A.in1 (Builtin.List.listExtendWith (.ref S) (.ref z) res)
      (fun fin s' => match fin with | .done f => R (.ok f) s' | .again c' => c'.quiet = true ∧ codeAny (model prog w) A c' R s') (fun e s' => R (.error e) s') s := by
  have O := L.off
  have key : ∀ (h : Heap) (c₁ tk : Nat), (∀ b o, b ≠ S → s.heap.get? b = some o → h.get? b = some o) →
      h.get? S = some { cls := .type "list", data := .seq #[] c₁ } → codeAny (model prog w) A (.builtin "list.extend.loop" ⟨[.ref S, .ref z, res], []⟩) R { s with heap := h, toks := tk } := by
    intro h c₁ tk hk hS₁
    have st0 : ZSt s.heap z TI TO i1 i2 l1 l2 S xs ys 0 := ⟨hTI, h1, h2, hl1, hl2, .inl ⟨hz, hTO⟩⟩
    refine zl_loop (s := s) (h₁ := s.heap) hh D L hn res (fun h' tk' acc c as hk' hS' hl hG hacc => hR h' tk' acc c as hk' hS' hl hG hacc)
      (min xs.size ys.size) 0 h tk c₁ #[] [] (Nat.sub_zero _) (Nat.zero_le _) (st0.keep O hk) (fun b o hb _ _ _ _ e => hk b o hb e) hS₁ rfl rfl
      ⟨List.Pairwise.nil, (fun _ ha => nomatch ha), (fun j a hj => by simp at hj)⟩
  unfold Builtin.List.listExtendWith
  refine wpAny_bind (wpAny_typeOf (T := "zip") ⟨_, hz, rfl⟩ ?_)
  have e1 : Builtin.List.listSameRef (.ref S) (.ref z) = false := by simp [Builtin.List.listSameRef, O.z.symm]
  have e2 : (Value.type "zip" == Value.type "list") = false := by decide
  have e3 : (Value.type "zip" == Value.type "tuple") = false := by decide
  simp only [e1, e2, e3, Bool.or_false, Bool.false_eq_true, if_false]
  refine wpAny_bind (wpAny_pyIter_zip hz ?_)
  refine wpAny_bind (wpAny_holding (zl_hint ⟨_, hz, rfl⟩ ?_))
  refine wpAny_ite_split (fun _ => ?_) (fun hab => absurd rfl hab)
  refine wpAny_bind (wpAny_rule ?_)
  refine wpAny_bind ?_
  show wpAny _ _ (updateSeq S (·.push .none) >>= fun _ => updateSeq S (·.pop)) _ _ _
  refine wpAny_bind (wpAny_updateSeq hS rfl ?_)
  have hS₂ := Heap.get?_update_self (Obj.mapSeq (·.push Value.none)) hS rfl
  refine wpAny_updateSeq (hz := by seq_fits) hS₂ rfl ?_
  have hS₃ := Heap.get?_update_self (Obj.mapSeq (·.pop)) hS₂ rfl
  refine wpAny_pure ⟨plainId_quiet PySem.F.plain_extend_loop _, key _ _ _ (fun b o hb e => ?_) hS₃⟩
  exact (Heap.get?_update_other _ _ (Ne.symm hb)).trans ((Heap.get?_update_other _ _ (Ne.symm hb)).trans e)
theorem zl_init {R : Result → Shared → Prop} (hh : A.handled = none) (D : ZipApart z TI TO i1 i2 l1 l2) (L : ZLow z TI TO i1 i2 l1 l2 S) (hz : IsZip s.heap z TI TO .none) (hTI : IsPair s.heap TI (.ref i1) (.ref i2)) (hTO : ∃ a b, IsPair s.heap TO a b)
    (h1 : s.heap.IsListIter i1 l1 0) (h2 : s.heap.IsListIter i2 l2 0) (hl1 : s.heap.IsList l1 xs) (hl2 : s.heap.IsList l2 ys) (hS : s.heap.get? S = some { cls := .type "list", data := .seq #[] })
    (hR : ∀ h' tk acc c as, (∀ b o, b ≠ S → b ≠ z → b ≠ TO → b ≠ i1 → b ≠ i2 → s.heap.get? b = some o → h'.get? b = some o) → h'.get? S = some { cls := .type "list", dict := none, data := .seq acc c, slots := #[] } → as.length = min xs.size ys.size → ZG xs ys S h' as →
      acc.toList = as.map Value.ref → R (.ok (.ret .none)) { s with heap := h', toks := tk }) (hn : min xs.size ys.size ≤ sizeLine) :
    wpAny (model prog w) A.in1 (Builtin.«list.__init__» ⟨[.ref S, .ref z], []⟩)
      (fun fin s' => match fin with | .done f => R (.ok f) s' | .again c' => c'.quiet = true ∧ codeAny (model prog w) A c' R s') (fun e s' => R (.error e) s') s := by
  have O := L.off
  show wpAny _ _ (do let old ← Builtin.List.listItems (.ref S); Builtin.List.listUpdate (.ref S) (fun _ => #[]); letGo old.toList.reverse; Builtin.List.listExtendWith (.ref S) (.ref z) .none) _ _ s
  refine wpAny_bind ?_
  unfold Builtin.List.listItems
  refine wpAny_bind (wpAny_seqItems hS rfl (wpAny_pure ?_))
  show wpAny _ _ (updateSeq S (fun _ => #[]) >>= fun _ => letGo (#[] : Array Value).toList.reverse >>= fun _ => Builtin.List.listExtendWith (.ref S) (.ref z) .none) _ _ s
  refine wpAny_bind (wpAny_updateSeq hS rfl ?_)
  have hS₂ := Heap.get?_update_self (Obj.mapSeq (fun _ => (#[] : Array Value))) hS rfl
  have oth : ∀ b o, b ≠ S → s.heap.get? b = some o → (s.heap.update S (Obj.mapSeq (fun _ => (#[] : Array Value)))).get? b = some o :=
    fun b o hb e => (Heap.get?_update_other _ _ (Ne.symm hb)).trans e
  refine wpAny_bind (wpAny_letGo ?_)
  obtain ⟨a, b, hTO⟩ := hTO
  refine zl_extend hh D L (oth _ _ O.z hz) (oth _ _ O.TI hTI) ⟨a, b, oth _ _ O.TO hTO⟩ (h1.at fun o e => oth _ o O.i1 e) (h2.at fun o e => oth _ o O.i2 e) (hl1.at fun o e => oth _ o O.l1 e) (hl2.at fun o e => oth _ o O.l2 e) .none _ hS₂ (fun h' tk acc c as hk hS' hl hG hacc => ?_) hn
  exact hR h' tk acc c as (fun b o h0 k1 k2 k3 k4 e => hk b o h0 k1 k2 k3 k4 (oth b o h0 e)) hS' hl hG hacc
theorem zl_call {Q : Value → Shared → Prop} (hh : A.handled = none) (D : ZipApart z TI TO i1 i2 l1 l2) (hz : IsZip s.heap z TI TO .none) (hTI : IsPair s.heap TI (.ref i1) (.ref i2)) (hTO : ∃ a b, IsPair s.heap TO a b)
    (h1 : s.heap.IsListIter i1 l1 0) (h2 : s.heap.IsListIter i2 l2 0) (hl1 : s.heap.IsList l1 xs) (hl2 : s.heap.IsList l2 ys) (hn : min xs.size ys.size ≤ sizeLine)
    (hQ : ∀ h' tk acc c as, (∀ b o, b ≠ z → b ≠ TO → b ≠ i1 → b ≠ i2 → s.heap.get? b = some o → h'.get? b = some o) → h'.get? s.heap.objs.size = some { cls := .type "list", dict := none, data := .seq acc c, slots := #[] } → as.length = min xs.size ys.size → ZG xs ys s.heap.objs.size h' as →
      acc.toList = as.map Value.ref → Q (.ref s.heap.objs.size) { s with heap := h', toks := tk }) :
    wpAny (model prog w) A (call (.type "list") [.ref z]) Q E s := by
  refine callType_codes (Q₁ := fun obj s₁ => obj = .ref s.heap.objs.size ∧ s₁ = { s with heap := s.heap.push { cls := .type "list", data := .seq #[] } }) PySem.F.called_list (PySem.F.typeCall_list_1 _) PySem.F.entry_list_init
    (code_list_new _ ⟨rfl, rfl⟩) fun obj s₁ h₁ => ?_
  obtain ⟨rfl, rfl⟩ := h₁
  have hS : (s.heap.push { cls := .type "list", data := .seq #[] }).get? s.heap.objs.size = some { cls := .type "list", data := .seq #[] } := Heap.get?_push_size _ rfl
  have L : ZLow z TI TO i1 i2 l1 l2 s.heap.objs.size := by
    obtain ⟨a, b, hTO⟩ := hTO
    obtain ⟨o1, e1, _⟩ := h1
    obtain ⟨o2, e2, _⟩ := h2
    obtain ⟨o3, e3, _⟩ := hl1
    obtain ⟨o4, e4, _⟩ := hl2
    exact ⟨Heap.lt_size hz, Heap.lt_size hTI, Heap.lt_size hTO, Heap.lt_size e1, Heap.lt_size e2, Heap.lt_size e3, Heap.lt_size e4⟩
  have pu : ∀ c o, s.heap.get? c = some o → (s.heap.push { cls := .type "list", data := .seq #[] }).get? c = some o := fun c o e => Heap.get?_push_of_some _ e
  refine ⟨⟨_, hS, rfl⟩, PySem.F.args_list_init_2 _ _, zl_init (s := { s with heap := s.heap.push { cls := .type "list", data := .seq #[] } }) (A := A.in1) hh D L (pu _ _ hz) (pu _ _ hTI) (let ⟨a, b, e⟩ := hTO; ⟨a, b, pu _ _ e⟩) (h1.at fun o e => pu _ o e) (h2.at fun o e => pu _ o e) (hl1.at fun o e => pu _ o e) (hl2.at fun o e => pu _ o e) hS (fun h' tk acc c as hk hS' hl hG hacc => ?_) hn⟩
  exact ⟨rfl, hQ h' tk acc c as (fun b o k1 k2 k3 k4 e => hk b o (Nat.ne_of_lt (Heap.lt_size e)) k1 k2 k3 k4 (Heap.get?_push_of_some _ e)) hS' hl hG hacc⟩
end
end PySem.W

set_option maxRecDepth 100000
set_option maxHeartbeats 4000000
namespace Gr
open PySem PySem.Spec PyProof.Rows L2
/-- the pairs tracked at their addresses -/
def putP : Hp → List Addr → List (V × V) → Hp
  | H, a :: as, p :: ps => putP (upd H a (.tup [p.1, p.2])) as ps
  | H, _, _ => H
theorem putP_off {b : Addr} : ∀ (as : List Addr) (ps : List (V × V)) (H : Hp), b ∉ as → putP H as ps b = H b
  | [], _, _, _ => rfl
  | _ :: _, [], _, _ => rfl
  | a :: as, p :: ps, H, h => by
    show putP (upd H a (.tup [p.1, p.2])) as ps b = H b
    rw [putP_off as ps _ (fun z => h (List.mem_cons_of_mem _ z)), upd_ne (fun z => h (by rw [z]; exact List.mem_cons_self))]
theorem putP_at : ∀ (as : List Addr) (ps : List (V × V)) (H : Hp), as.length = ps.length → as.Nodup → Paired (fun (t : Addr) (p : V × V) => putP H as ps t = some (.tup [p.1, p.2])) as ps
  | [], [], _, _, _ => .nil
  | [], _ :: _, _, h, _ => by cases h
  | _ :: _, [], _, h, _ => by cases h
  | a :: as, p :: ps, H, h, hn => by
    have hn' := List.nodup_cons.mp hn
    have ih := putP_at as ps (upd H a (.tup [p.1, p.2])) (Nat.succ.inj h) hn'.2
    refine .cons ?_ ih
    show putP (upd H a (.tup [p.1, p.2])) as ps a = some (.tup [p.1, p.2])
    rw [putP_off as ps _ hn'.1, upd_same]
def tListZip (K : PySem.W.Frag) (ta : TA) : TE := fun σ H Q => ta σ H fun vs H1 => ∃ a b xs ys, vs = [.ref a, .ref b] ∧ SqL K H1 a xs ∧ SqL K H1 b ys ∧
  ∀ (H' : Hp) (p : Addr) (ts : List Addr), Same H1 H' → H1 p = none → H' p = some (.lst (ts.map V.ref)) → Paired (fun (t : Addr) (q : V × V) => H' t = some (.tup [q.1, q.2])) ts (xs.zip ys) → Q (.ref p) H'
section
variable {X : Cx}
theorem zip_laid {pins : List (Addr × Obj)} {σ : L2.St} {H : Hp} {s : Shared} {h' : Heap} {tk : Nat} {xs ys : List V} {us ws : List Value} {acc : Array Value} {c S : Nat} {as : List Addr} (I : Inv X pins σ H s) (rx : Vals xs us) (ry : Vals ys ws) (hz : xs.length ≤ sizeLine)
    (hk : ∀ b o, s.heap.get? b = some o → h'.get? b = some o) (hS0 : s.heap.objs.size ≤ S) (hS : h'.get? S = some { cls := .type "list", dict := none, data := .seq acc c, slots := #[] }) (hl : as.length = min us.length ws.length) (hG : PySem.W.ZG us.toArray ws.toArray S h' as) (hacc : acc.toList = as.map Value.ref) :
    ∃ H' : Hp, Same H H' ∧ H S = none ∧ H' S = some (.lst (as.map V.ref)) ∧ Paired (fun (t : Addr) (q : V × V) => H' t = some (.tup [q.1, q.2])) as (xs.zip ys) ∧ Inv X pins σ H' { s with heap := h', toks := tk } := by
  have lx : xs.length = us.length := rx.length
  have ly : ys.length = ws.length := ry.length
  have lz : (xs.zip ys).length = as.length := by rw [List.length_zip, hl, lx, ly]
  have hSn : S ∉ as := fun z => Nat.lt_irrefl _ (hG.above _ z)
  have nd : as.Nodup := List.Pairwise.imp (fun {a b} (h : a < b) => Nat.ne_of_lt h) hG.rise
  have new : ∀ t ∈ as, H t = none := fun t ht => I.hok.fresh (Nat.le_trans hS0 (Nat.le_of_lt (hG.above t ht)))
  have newS : H S = none := I.hok.fresh hS0
  have atP := putP_at as (xs.zip ys) (upd H S (.lst (as.map V.ref))) lz.symm nd
  have off : ∀ b, b ∉ as → b ≠ S → putP (upd H S (.lst (as.map V.ref))) as (xs.zip ys) b = H b := fun b h1 h2 => by rw [putP_off as _ _ h1, upd_ne h2]
  have low : ∀ b o, s.heap.get? b = some o → b ∉ as ∧ b ≠ S := fun b o e => ⟨fun z => absurd (Heap.lt_size e) (Nat.not_lt.mpr (Nat.le_trans hS0 (Nat.le_of_lt (hG.above b z)))), Nat.ne_of_lt (Nat.lt_of_lt_of_le (Heap.lt_size e) hS0)⟩
  have kp : Same H (putP (upd H S (.lst (as.map V.ref))) as (xs.zip ys)) := fun b u e => by
    rw [off b (fun z => by rw [new b z] at e; cases e) (fun z => by rw [z, newS] at e; cases e)]
    exact e
  have eS : putP (upd H S (.lst (as.map V.ref))) as (xs.zip ys) S = some (.lst (as.map V.ref)) := by rw [putP_off as _ _ hSn, upd_same]
  refine ⟨putP (upd H S (.lst (as.map V.ref))) as (xs.zip ys), kp, newS, eS, atP, ?_⟩
  refine I.call' (ch := []) rfl ⟨fun b o q _ _ _ => hk b o q, fun b o q _ _ _ => ⟨o.slots, hk b o q⟩, fun b o q n _ => ?_, fun b o q _ => ⟨o, hk b o q⟩, fun b xs q => kp b _ q, fun b o u q => kp b _ q, fun b ps q => ⟨#[], by rw [kp b _ q]; simp⟩⟩ (fun b u q => ?_) I.bare fun b z => by simp at z
  · obtain ⟨z1, z2⟩ := low b o q
    rw [off b z1 z2]
    exact n
  · by_cases hb : b ∈ as
    · obtain ⟨j, pk, e1, e2, e3⟩ := LiI.paired_ix atP hb
      rw [e3] at q
      cases q
      obtain ⟨x, y, f1, f2, f3⟩ := hG.pairs j b e1
      rw [List.getElem?_zip_eq_some] at e2
      obtain ⟨u, g1, g2⟩ := rx.get e2.1
      obtain ⟨u', g3, g4⟩ := ry.get e2.2
      have f1' : us[j]? = some x := by simpa using f1
      have f2' : ws[j]? = some y := by simpa using f2
      rw [g1] at f1'
      rw [g3] at f2'
      cases f1'
      cases f2'
      exact ⟨by show 2 ≤ sizeLine; decide, [x, y], .cons g2 (.cons g4 .nil), ⟨_, f3, rfl, _, rfl⟩⟩
    · by_cases hb2 : b = S
      · rw [hb2] at q ⊢
        rw [eS] at q
        cases q
        refine ⟨by rw [List.length_map]; omega, acc.toList, c, by rw [hacc]; exact LiI.vals_refs as, ?_⟩
        rw [Array.toArray_toList]
        exact hS
      · rw [off b hb hb2] at q
        exact (I.hok b u q).stay (fun d v _ y => hk d v y) (fun d y => kp d _ y) fun d xs y => kp d _ y
/-- list(zip(a, b)) -/
theorem pe_listZip {a b : Expr} {ta : TA} {p p2 pos pos2 : Pos} (hc : X.calm = true) (ha : PA X [a, b] ta) (hg : Gl X "list") (hm : X.mg "list" = none) (hv : bootBuiltins "list" = some (.type "list")) (hg2 : Gl X "zip") (hm2 : X.mg "zip" = none)
    (hs : starEach [.Call (.Name "zip" p2) [a, b] [] pos2] X.env = (false, eval (.Call (.Name "zip" p2) [a, b] [] pos2) X.env) :: starEach [] X.env := by rfl)
    (hs2 : starEach [a, b] X.env = (false, eval a X.env) :: starEach [b] X.env := by rfl) (hpl2 : (backTo pos2 (starEach [b] X.env)).any (·.1) = false := by rfl) :
    PE X (.Call (.Name "list" p) [.Call (.Name "zip" p2) [a, b] [] pos2] [] pos) (tListZip X.K ta) := by
  refine ⟨fun pins s σ H Q I hq => ?_⟩
  refine wpAny_Call_Name_kw (ld_blt I hg hm hv ?_)
  refine PyProof.Rows.callWith_type1 ?_ hs rfl
  rw [hs]
  show wpAny _ _ (spliced ((false, eval (.Call (.Name "zip" p2) [a, b] [] pos2) X.env) :: backTo pos (starEach [] X.env))) _ _ s
  refine Calls.spliced_cons ?_
  refine Call_ (ld_blt I hg2 hm2 PyProof.Rows.boot_zip (PyProof.Rows.callWith_type1 (thn (ha.run pos2 pins s σ H _ I hq) fun us s1 ⟨vs, H1, I1, r1, q1⟩ => ?_) hs2 hpl2))
  obtain ⟨la, lb, xs, ys, ex, hqx, hqy, q⟩ := q1
  subst ex
  cases r1 with
  | cons r rr =>
    cases rr with
    | cons r' rr =>
      cases rr
      cases r
      cases r'
      obtain ⟨its, rv, p1, z1⟩ := I1.list hqx
      obtain ⟨its2, rv2, p22, z2⟩ := I1.list hqy
      have lta : la < s1.heap.objs.size := p1.lt
      have ltb : lb < s1.heap.objs.size := p22.lt
      refine call_zip_2 p1.isList p22.isList fun h' hz hTI hTO h1 h2 hsz hk => ?_
      refine Calls.spliced_nil ?_
      have hl1 : h'.IsList la its.toArray := p1.isList.at fun o e => hk _ o e
      have hl2 : h'.IsList lb its2.toArray := p22.isList.at fun o e => hk _ o e
      refine PySem.W.zl_call (s := { s1 with heap := h' }) (xs := its.toArray) (ys := its2.toArray) (I.ok.hd hc) (PySem.W.ktu_apart s1.heap.objs.size la lb lta ltb) hz hTI ⟨_, _, hTO⟩ h1 h2 hl1 hl2 ?_ fun h'' tk acc c as hk2 hS hl hG hacc => ?_
      · have := rv.length
        simp only [List.size_toArray]
        omega
      · have nb : ∀ {b : Addr} {o : Obj}, s1.heap.get? b = some o → ∀ k : Nat, b ≠ s1.heap.objs.size + k := fun {b o} e k => Nat.ne_of_lt (Nat.lt_of_lt_of_le (Heap.lt_size e) (Nat.le_add_right _ _))
        have nb0 : ∀ {b : Addr} {o : Obj}, s1.heap.get? b = some o → b ≠ s1.heap.objs.size := fun {b o} e => Nat.ne_of_lt (Heap.lt_size e)
        obtain ⟨H', k1, k2, k3, k4, J⟩ := zip_laid (tk := tk) I1 rv rv2 z1 (fun b o e => hk2 b o (nb e 4) (nb e 3) (nb0 e) (nb e 1) (hk b o e)) (by show s1.heap.objs.size ≤ h'.objs.size; omega) hS (by simpa using hl) hG hacc
        exact ⟨.ref h'.objs.size, H', J, rfl, q H' _ as k1 k2 k3 k4⟩

/-- a, *b = a list: the iterator's walk, whatever is tracked -/
theorem star_raw {prog : Program} {w : World} {A : Around} {E : Value → Shared → Prop} {s : Shared} {l : Addr} {u : Value} {us : List Value} {Q : List Value → Shared → Prop} (hl : s.heap.IsList l (u :: us).toArray) (hh : A.handled = none) (hz : us.length + 1 ≤ 16384)
    (k : ∀ h2 tk, Heap.ExtBut s.heap.objs.size s.heap h2 → Q [u, .ref h2.objs.size] { s with heap := h2.push { cls := .type "list", data := .seq us.toArray }, toks := tk }) : wpAny (model prog w) A (unpackItems (.ref l) 2 (some 1)) Q E s := by
  have hlt : l ≠ s.heap.objs.size := by
    obtain ⟨o, ho, _⟩ := hl
    exact Nat.ne_of_lt (Heap.lt_size ho)
  unfold unpackItems
  refine wpAny_bind ?_
  unfold notIterableAtAll
  refine wpAny_bind (wpAny_specialOf hl.typeIs PySem.F.slot_list_iter.lookup (wpAny_pure ?_))
  simp only [Bool.false_eq_true, if_false]
  refine wpAny_bind (wpAny_holding (wpAny_pyIter_list hl (wpAny_bind (wpAny_holding (PySem.W.kun_draw hlt 1 0 _ _ ⟨_, Heap.get?_push_size _ rfl, rfl, rfl⟩ (hl.push _) (by simp) fun h1 it1 hs1 => ?_)))))
  have l1 : h1.IsList l (u :: us).toArray := (hl.push _).extBut hs1.extBut hlt
  obtain ⟨oi, hoi, _⟩ := id it1
  obtain ⟨ol, hol, _⟩ := id l1
  show wpAny _ _ (if ([u] : List Value).length < 1 then _ else _) _ _ _
  rw [if_neg (by simp)]
  refine wpAny_bind (wpAny_holding (PySem.W.kun_collect (s := { s with heap := h1 }) (T := "list_iterator") (.inr (.inr (.inl rfl))) (PySem.Walks.list (A := A.in1) hh s.heap.objs.size l hlt (u :: us).toArray) (fun j u st => st.1.typeIs) (k := 1) (by simp) ⟨it1, l1⟩ (Heap.lt_size hoi) (Heap.lt_size hol) (fun h2 tk hk => ?_) (by rw [sizeLine_eq]; simp; omega)))
  show wpAny _ _ (if us.length < 0 then _ else _) _ _ _
  rw [if_neg (by omega)]
  show wpAny _ _ (newList (us.take us.length) >>= fun d => pure ([u] ++ [d] ++ us.drop us.length)) _ _ _
  rw [List.take_length, List.drop_length]
  exact wpAny_bind (wpAny_newList (wpAny_pure (k h2 tk fun b o hb e => hk b o hb (hs1.extBut b o hb (Heap.get?_push_of_some _ e)))) (by rw [sizeLine_eq]; omega))
def gStar (K : PySem.W.Frag) (i j : Nat) : TG := fun v σ H Q => ∃ a x xs, v = .ref a ∧ SqL K H a (x :: xs) ∧ xs.length + 1 ≤ 16384 ∧ ∀ D, H D = none → Q ((σ.set i (some x)).set j (some (.ref D))) (upd H D (.lst xs))
theorem pg_star {x y : Str} {i j k : Nat} {p1 p2 p3 pos : Pos} (hc : X.calm = true) (h1 : PG X (.Name x p1) (gName i)) (h2' : PG X (.Name y p2) (gName j)) :
    PG X (.Tuple [.Name x p1, .Starred (.Name y p2) p3] k pos) (gStar X.K i j) := by
  refine ⟨fun pins s σ H v u Q I r hw => ?_⟩
  obtain ⟨a, x0, xs, e1, hq, hsz, hw⟩ := hw
  subst e1
  cases r
  obtain ⟨its, rv, pl, hz⟩ := I.list hq
  have hl' : s.heap.IsList a its.toArray := pl.isList
  cases rv with
  | @cons _ u0 _ us r0 rr =>
    have lr := rr.length
    have hx : xs.length ≤ sizeLine := Nat.le_trans (Nat.le_succ _) hz
    rw [PyProof.Rows.assign_Tuple]
    refine wpAny_bind (wpAny_standAt ?_)
    unfold unpack
    show wpAny _ _ (holding [.ref a] (unpackItems (.ref a) 2 (some 1)) >>= fun vs => assignInOrder [assign (.Name x p1) X.env, assign (.Name y p2) X.env] vs) _ _ _
    refine wpAny_bind (wpAny_holding (star_raw hl' (I.ok.hd hc) (by omega) fun h2 tk he => ?_))
    have keep : ∀ b o, s.heap.get? b = some o → h2.get? b = some o := fun b o e => he b o (Nat.ne_of_lt (Heap.lt_size e)) e
    have I1 : Inv X pins σ H { s with heap := h2, toks := tk } := I.kept keep
    have I2 : Inv X pins σ (upd H h2.objs.size (.lst xs)) { s with heap := h2.push { cls := .type "list", data := .seq us.toArray }, toks := tk } := by
      refine I1.laid (a := h2.objs.size) (o := .lst xs) (t' := tk) (fun b o e => Heap.get?_push_of_some _ e) (Nat.le_refl _) ⟨hx, us, _, rr, Heap.get?_push_size _ rfl⟩
    have q := hw h2.objs.size (I1.hok.fresh (Nat.le_refl _))
    refine assignInOrder_cons (thn (h1.run pins _ σ _ x0 u0 (fun σ' H' => Q (σ'.set j (some (.ref h2.objs.size))) H') I2 r0 q) fun _ s3 ⟨σ3, H3, I3, q3⟩ => ?_)
    refine assignInOrder_cons (thn (h2'.run pins s3 σ3 H3 (.ref h2.objs.size) (.ref h2.objs.size) Q I3 rfl q3) fun _ s4 ⟨σ4, H4, I4, q4⟩ => ?_)
    exact assignInOrder_nil ⟨σ4, H4, I4, q4⟩
end
end Gr

set_option maxRecDepth 100000
set_option maxHeartbeats 4000000
namespace Gr
open PySem PySem.Spec PyProof.Rows L2
/-- what the top leaves: the built-in names, the three constants -/
structure Tx (K : PySem.W.Frag) (mg : Str → Option Value) : Prop where
  m_abs : mg "abs" = none
  m_len : mg "len" = none
  m_list : mg "list" = none
  m_zip : mg "zip" = none
  m_range : mg "range" = none
  m_max : mg "max" = none
  m_isinstance : mg "isinstance" = none
  m_tuple : mg "tuple" = none
  m_int : mg "int" = none
  m_bool : mg "bool" = none
  nought : ∃ a, mg "NOUGHT" = some (.ref a) ∧ ∀ H, rRat K H (.ref a) 0
  half : ∃ a, mg "HALF" = some (.ref a) ∧ ∀ H, rRat K H (.ref a) (1 / 2)
  one : ∃ a, mg "ONE" = some (.ref a) ∧ ∀ H, rRat K H (.ref a) 1
section
variable {K : PySem.W.Frag} {H : Hp} {Q : VK}
theorem g_mkR {n d : Int} {q : Rat} (hn : n = q.num) (hd : d = (q.den : Int)) (k : ∀ H' v, Same H H' → rRat K H' v q → Q v H') : ∀ p, H p = none → Q (.ref p) (upd H p (.tup [.int n, .int d])) := by
  subst hn hd
  exact fun p hp => k _ _ (same_new hp) ⟨p, rfl, SqT.of upd_same⟩
theorem g_mkP {α β : Type} {A : Rp α} {B : Rp β} [Mono A] [Mono B] {x y : V} {a : α} {b : β} (hx : A H x a) (hy : B H y b) (k : ∀ H' v, Same H H' → rPair K A B H' v (a, b) → Q v H') : ∀ p, H p = none → Q (.ref p) (upd H p (.tup [x, y])) :=
  fun p hp => k _ _ (same_new hp) ⟨p, x, y, rfl, SqT.of upd_same, up (same_new hp) hx, up (same_new hp) hy⟩
end
theorem g_ixS0 {K : PySem.W.Frag} {H : Hp} {Q : VK} {x : V} {q : Rat × Rat} (h : rPair K (rRat K) (rRat K) H x q) (k : ∀ v, rRat K H v q.1 → Q v H) : rIxT K x (.int 0) H Q := g_ixP0 h k
theorem g_ixS1 {K : PySem.W.Frag} {H : Hp} {Q : VK} {x : V} {q : Rat × Rat} (h : rPair K (rRat K) (rRat K) H x q) (k : ∀ v, rRat K H v q.2 → Q v H) : rIxT K x (.int 1) H Q := g_ixP1 h k
theorem g_mkS {K : PySem.W.Frag} {H : Hp} {Q : VK} {x y : V} {a b : Rat} (hx : rRat K H x a) (hy : rRat K H y b) (k : ∀ H' v, Same H H' → rPair K (rRat K) (rRat K) H' v (a, b) → Q v H') : ∀ p, H p = none → Q (.ref p) (upd H p (.tup [x, y])) := g_mkP hx hy k
theorem g_asgG {te : TE} {g : TG} {D : Ends} {σ : L2.St} {H : Hp} (h : te σ H fun v H1 => g v σ H1 D.nx) : tAsg te g D σ H := h
theorem g_seqM {t u : TS} {D : Ends} {σ : L2.St} {H : Hp} (Mid : L2.St → Hp → Prop) (h1 : ∀ N : L2.St → Hp → Prop, (∀ σ' H', Mid σ' H' → N σ' H') → t { D with nx := N } σ H) (h2 : ∀ σ' H', Mid σ' H' → u D σ' H') : tSeq t u D σ H := h1 _ h2
theorem g_asgM {te : TE} {i : Nat} {D : Ends} {σ : L2.St} {H : Hp} (Mid : V → Hp → Prop) (h1 : ∀ G : VK, (∀ v H', Mid v H' → G v H') → te σ H G) (h2 : ∀ v H', Mid v H' → D.nx (σ.set i (some v)) H') : tAsg te (gName i) D σ H := h1 _ h2
theorem g_unP {α β : Type} {A : Rp α} {B : Rp β} {K : PySem.W.Frag} {H : Hp} {x : V} {q : α × β} {σ : L2.St} {i j : Nat} {Q : L2.St → Hp → Prop} (h : rPair K A B H x q) (k : ∀ v1 v2, A H v1 q.1 → B H v2 q.2 → Q ((σ.set i (some v1)).set j (some v2)) H) : gTup K 2 (gCons (gName i) (gCons (gName j) gNil)) x σ H Q := by
  obtain ⟨p, v1, v2, rfl, hs, h1, h2⟩ := h
  exact ⟨p, [v1, v2], rfl, hs, rfl, v1, [v2], rfl, v2, [], rfl, rfl, k v1 v2 h1 h2⟩
theorem g_ixL {α : Type} {A : Rp α} {K : PySem.W.Frag} {H : Hp} {Q : VK} {x : V} {l : List α} {j : Nat} {a : α} (h : rLst K A H x l) (e : l[j]? = some a) (k : ∀ v, A H v a → Q v H) : rIxL K x (.int (j : Int)) H Q := by
  obtain ⟨p, vs, rfl, hs, hp⟩ := h
  have hl := hp.length
  have hj : j < vs.length := by
    have := (List.getElem?_eq_some_iff.mp e).1
    omega
  obtain ⟨a', e1, e2⟩ := LiI.paired_get hp (List.getElem?_eq_getElem hj)
  rw [e] at e1
  cases e1
  exact ⟨p, vs, _, _, rfl, rfl, SqL.of hs, atI_nat (List.getElem?_eq_getElem hj), k _ e2⟩
theorem g_ixL0 {K : PySem.W.Frag} {H : Hp} {Q : VK} {x : V} {a : Rat} {r : List Rat} (h : rLst K (rRat K) H x (a :: r)) (k : ∀ v, rRat K H v a → Q v H) : rIxL K x (.int 0) H Q := g_ixL (j := 0) h rfl k
theorem g_ixL1 {K : PySem.W.Frag} {H : Hp} {Q : VK} {x : V} {a b : Rat} {r : List Rat} (h : rLst K (rRat K) H x (a :: b :: r)) (k : ∀ v, rRat K H v b → Q v H) : rIxL K x (.int 1) H Q := g_ixL (j := 1) h rfl k
theorem paired_rev {α β : Type} {F : α → β → Prop} : ∀ {xs : List α} {ys : List β}, Paired F xs ys → Paired F xs.reverse ys.reverse
  | _, _, .nil => .nil
  | _, _, .cons (a := a) (b := b) h t => by
    rw [List.reverse_cons, List.reverse_cons]
    exact paired_app (paired_rev t) (.cons h .nil)
where
  paired_app {α β : Type} {F : α → β → Prop} : ∀ {xs xs' : List α} {ys ys' : List β}, Paired F xs ys → Paired F xs' ys' → Paired F (xs ++ xs') (ys ++ ys')
  | _, _, _, _, .nil, s => s
  | _, _, _, _, .cons h t, s => .cons h (paired_app t s)
theorem g_rev {α : Type} {A : Rp α} [Mono A] {K : PySem.W.Frag} {H : Hp} {Q : VK} {σ : L2.St} {te : TE} (h : te σ H fun x H1 => ∃ l, rLst K A H1 x l ∧ ∀ H' v, Same H1 H' → rLst K A H' v l.reverse → Q v H')
    (mono : ∀ (R R' : VK), (∀ v H', R v H' → R' v H') → te σ H R → te σ H R') : tRevL K te σ H Q := by
  refine mono _ _ (fun v H' q => ?_) h
  obtain ⟨l, ⟨p, vs, rfl, hs, hp⟩, k⟩ := q
  exact ⟨p, vs, rfl, SqL.of hs, fun p2 h2 => k _ _ (same_new h2) ⟨p2, vs.reverse, rfl, upd_same, paired_up (same_new h2) (paired_rev hp)⟩⟩
theorem retNone {α : Type} {A : Rp α} {H : Hp} {o : Option α} (h : o = none) : rOpt A H .non o := .inl ⟨h, rfl⟩
theorem retPair {α β : Type} {A : Rp α} {B : Rp β} {K : PySem.W.Frag} {H : Hp} {v : V} {o : Option (α × β)} {a : α × β} (h : o = some a) (ha : rPair K A B H v a) : rOpt (rPair K A B) H v o := .inr ⟨a, h, ha.ne, ha⟩
theorem retRat {K : PySem.W.Frag} {H : Hp} {v : V} {o : Option Rat} {a : Rat} (h : o = some a) (ha : rRat K H v a) : rOpt (rRat K) H v o := .inr ⟨a, h, ha.ne, ha⟩
theorem newL2 {α : Type} {A : Rp α} [Mono A] {K : PySem.W.Frag} {H H1 : Hp} {p : Addr} {x y ve : V} {a b : α} (hp : H p = none) (hv : V.ref p = ve) (hH : upd H p (.lst [x, y]) = H1) (hx : A H x a) (hy : A H y b) : Same H H1 ∧ rLst K A H1 ve [a, b] := by
  subst hv hH
  exact ⟨same_new hp, p, [x, y], rfl, upd_same, .cons (up (same_new hp) hx) (.cons (up (same_new hp) hy) .nil)⟩
theorem newT2 {α β : Type} {A : Rp α} {B : Rp β} [Mono A] [Mono B] {K : PySem.W.Frag} {H H1 : Hp} {p : Addr} {x y ve : V} {a : α} {b : β} (hp : H p = none) (hv : V.ref p = ve) (hH : upd H p (.tup [x, y]) = H1) (hx : A H x a) (hy : B H y b) : Same H H1 ∧ rPair K A B H1 ve (a, b) := by
  subst hv hH
  exact ⟨same_new hp, p, x, y, rfl, SqT.of upd_same, up (same_new hp) hx, up (same_new hp) hy⟩
theorem g_unG {α β : Type} {A : Rp α} {B : Rp β} {K : PySem.W.Frag} {H : Hp} {x : V} {q : α × β} {σ : L2.St} {g1 g2 : TG} {Q : L2.St → Hp → Prop} (h : rPair K A B H x q) (k : ∀ v1 v2, A H v1 q.1 → B H v2 q.2 → g1 v1 σ H fun σ' H' => g2 v2 σ' H' Q) : gTup K 2 (gCons g1 (gCons g2 gNil)) x σ H Q := by
  obtain ⟨p, v1, v2, rfl, hs, h1, h2⟩ := h
  refine ⟨p, [v1, v2], rfl, hs, rfl, v1, [v2], rfl, ?_⟩
  have e : ∀ (σ' : L2.St) (H' : Hp), (gCons g2 gNil) [v2] σ' H' Q ↔ ∃ v r, [v2] = v :: r ∧ g2 v σ' H' fun σ2 H2 => gNil r σ2 H2 Q := fun σ' H' => Iff.rfl
  have z : ∀ (σ' : L2.St) (H' : Hp), (gNil [] σ' H' Q) = Q σ' H' := fun σ' H' => propext ⟨fun x => x.2, fun x => ⟨rfl, x⟩⟩
  have k' := k v1 v2 h1 h2
  have e2 : (fun σ' H' => (gCons g2 gNil) [v2] σ' H' Q) = (fun σ' H' => g2 v2 σ' H' Q) := by
    funext σ' H'
    refine propext ⟨fun ⟨v, r, e3, x⟩ => ?_, fun x => ⟨v2, [], rfl, ?_⟩⟩
    · cases e3
      simp only [z] at x
      exact x
    · simp only [z]
      exact x
  show g1 v1 σ H fun σ' H' => (gCons g2 gNil) [v2] σ' H' Q
  rw [e2]
  exact k'
theorem g_par {ta tb : TE} {i j : Nat} {D : Ends} {σ : L2.St} {H : Hp} (h : ta σ H fun x H1 => tb σ H1 fun y H2 => ∃ v w, [x, y] = [v, w] ∧ D.nx ((σ.set i (some v)).set j (some w)) H2) : tPar i j (tCons ta (tCons tb tNil)) D σ H := h
theorem g_ex2 {G : V → V → Prop} {x y : V} (h : G x y) : ∃ v w, [x, y] = [v, w] ∧ G v w := ⟨x, y, rfl, h⟩
def rNN : R2 := fun x y H Q => y = .non ∧ Q (.bl (!decide (x = .non))) H
def rIN : R2 := fun x y H Q => y = .non ∧ Q (.bl (decide (x = .non))) H
theorem op_nn {X : Cx} : OpR X (compareOp .IsNot) rNN := op_notN
theorem op_in {X : Cx} : OpR X (compareOp .Is) rIN := op_isN
theorem g_nn0 {H : Hp} {Q : VK} (q : Q (.bl false) H) : rNN .non .non H Q := ⟨rfl, q⟩
theorem g_nn1 {x : V} {H : Hp} {Q : VK} (h : x ≠ .non) (q : Q (.bl true) H) : rNN x .non H Q := ⟨rfl, by rw [decide_eq_false h]; exact q⟩
theorem g_in0 {H : Hp} {Q : VK} (q : Q (.bl true) H) : rIN .non .non H Q := ⟨rfl, q⟩
theorem g_in1 {x : V} {H : Hp} {Q : VK} (h : x ≠ .non) (q : Q (.bl false) H) : rIN x .non H Q := ⟨rfl, by rw [decide_eq_false h]; exact q⟩
theorem g_name {v : V} {i : Nat} {σ : L2.St} {H : Hp} {Q : L2.St → Hp → Prop} (h : Q (σ.set i (some v)) H) : gName i v σ H Q := h
theorem g_next {D : Ends} {σ : L2.St} {H : Hp} (h : D.nx σ H) : tNext D σ H := h
/-! ### promises of the ratios' defs -/
def spCommon : Sp := fun vs H Q _ => ∃ a b : Int, vs = [.int a, .int b] ∧ Q (.int (Int.gcd a b : Int)) H
def spRatio (K : PySem.W.Frag) : Sp := fun vs H Q _ => ∃ n d : Int, vs = [.int n, .int d] ∧ d ≠ 0 ∧ d.natAbs < 2 ^ 9000 ∧ Ret (rRat K) H Q (Rat.divInt n d)
abbrev Fits (a : Rat) : Prop := sz a ≤ 4000
abbrev spR2 (K : PySem.W.Frag) (f : Rat → Rat → Rat) : Sp := sp2 (rRat K) (rRat K) (rRat K) (fun a b => Fits a ∧ Fits b) f
abbrev spDiv (K : PySem.W.Frag) : Sp := sp2 (rRat K) (rRat K) (rRat K) (fun a b => b ≠ 0 ∧ Fits a ∧ Fits b) (· / ·)
def ordOf (a b : Rat) : Int := if a = b then 0 else if b < a then 1 else -1
abbrev spOrd (K : PySem.W.Frag) : Sp := sp2 (rRat K) (rRat K) rInt (fun a b => Fits a ∧ Fits b) ordOf
abbrev spLess (K : PySem.W.Frag) : Sp := sp2 (rRat K) (rRat K) rBool (fun a b => Fits a ∧ Fits b) fun a b => decide (a < b)
abbrev spSize (K : PySem.W.Frag) : Sp := sp1 (rRat K) (rRat K) (fun _ => True) Rat.abs
theorem pow_fits {a b : Rat} (ha : Fits a) (hb : Fits b) : (a.num.natAbs < 2 ^ 4000 ∧ a.den < 2 ^ 4000) ∧ (b.num.natAbs < 2 ^ 4000 ∧ b.den < 2 ^ 4000) :=
  have h : ∀ {q : Rat}, Fits q → q.num.natAbs < 2 ^ 4000 ∧ q.den < 2 ^ 4000 := fun {q} hq => ⟨Nat.lt_of_lt_of_le (num_lt q) (Nat.pow_le_pow_right (by decide) hq), Nat.lt_of_lt_of_le (den_lt q) (Nat.pow_le_pow_right (by decide) hq)⟩
  ⟨h ha, h hb⟩
theorem den_abs (b : Rat) : ((b.den : Int)).natAbs = b.den := Int.natAbs_natCast _
theorem wnn {a b : Rat} (ha : Fits a) (hb : Fits b) : CMulW a.num b.num := wide_mul (pow_fits ha hb).1.1 (pow_fits ha hb).2.1 (by decide) (by decide) (by decide)
theorem wnd {a b : Rat} (ha : Fits a) (hb : Fits b) : CMulW a.num (b.den : Int) := wide_mul (b := 4000) (pow_fits ha hb).1.1 (by rw [den_abs]; exact (pow_fits ha hb).2.2) (by decide) (by decide) (by decide)
theorem wdn {a b : Rat} (ha : Fits a) (hb : Fits b) : CMulW (a.den : Int) b.num := wide_mul (a := 4000) (by rw [den_abs]; exact (pow_fits ha hb).1.2) (pow_fits ha hb).2.1 (by decide) (by decide) (by decide)
theorem wdd {a b : Rat} (ha : Fits a) (hb : Fits b) : CMulW (a.den : Int) (b.den : Int) := wide_mul (a := 4000) (b := 4000) (by rw [den_abs]; exact (pow_fits ha hb).1.2) (by rw [den_abs]; exact (pow_fits ha hb).2.2) (by decide) (by decide) (by decide)
theorem dd_lt {a b : Rat} (ha : Fits a) (hb : Fits b) : ((a.den : Int) * (b.den : Int)).natAbs < 2 ^ 9000 := by
  rw [Int.natAbs_mul, den_abs, den_abs]
  exact Nat.lt_of_lt_of_le (mul_lt_pow (pow_fits ha hb).1.2 (pow_fits ha hb).2.2) (Nat.pow_le_pow_right (by decide) (by decide))
theorem dn_lt {a b : Rat} (ha : Fits a) (hb : Fits b) : ((a.den : Int) * b.num).natAbs < 2 ^ 9000 := by
  rw [Int.natAbs_mul, den_abs]
  exact Nat.lt_of_lt_of_le (mul_lt_pow (pow_fits ha hb).1.2 (pow_fits ha hb).2.1) (Nat.pow_le_pow_right (by decide) (by decide))
theorem dd_ne (a b : Rat) : (a.den : Int) * (b.den : Int) ≠ 0 := Int.mul_ne_zero (den_ne a) (den_ne b)
section
variable {α β γ δ ε ζ : Type} {A : Rp α} {B : Rp β} {B2 : Rp δ} {B3 : Rp ε} {B4 : Rp ζ} {K : PySem.W.Frag}
theorem g_sp1B {pre : α → Prop} {f : α → Bool} {x : V} {a : α} {H : Hp} {Q : VK} {E : XK} (hx : A H x a) (hp : pre a) (q : ∀ H', Same H H' → Q (.bl (f a)) H') : sp1 A rBool pre f [x] H Q E := ⟨x, a, rfl, hx, hp, fun H' v e h => by cases h; exact q H' e⟩
theorem g_sp2B {pre : α → β → Prop} {f : α → β → Bool} {x y : V} {a : α} {b : β} {H : Hp} {Q : VK} {E : XK} (hx : A H x a) (hy : B H y b) (hp : pre a b) (q : ∀ H', Same H H' → Q (.bl (f a b)) H') : sp2 A B rBool pre f [x, y] H Q E := ⟨x, y, a, b, rfl, hx, hy, hp, fun H' v e h => by cases h; exact q H' e⟩
theorem g_sp2I {pre : α → β → Prop} {f : α → β → Int} {x y : V} {a : α} {b : β} {H : Hp} {Q : VK} {E : XK} (hx : A H x a) (hy : B H y b) (hp : pre a b) (q : ∀ H', Same H H' → Q (.int (f a b)) H') : sp2 A B rInt pre f [x, y] H Q E := ⟨x, y, a, b, rfl, hx, hy, hp, fun H' v e h => by cases h; exact q H' e⟩
theorem g_sp3B {pre : α → β → δ → Prop} {f : α → β → δ → Bool} {x y z : V} {a : α} {b : β} {c : δ} {H : Hp} {Q : VK} {E : XK} (hx : A H x a) (hy : B H y b) (hz : B2 H z c) (hp : pre a b c) (q : ∀ H', Same H H' → Q (.bl (f a b c)) H') : sp3 A B B2 rBool pre f [x, y, z] H Q E := ⟨x, y, z, a, b, c, rfl, hx, hy, hz, hp, fun H' v e h => by cases h; exact q H' e⟩
theorem g_bool {b : Bool} {Qb : Bool → Prop} (h : Qb b) : ∃ c, V.bl b = .bl c ∧ Qb c := ⟨b, rfl, h⟩
theorem g_addI {i j : Int} {f : Int → Int → V} {H : Hp} {Q : VK} (h : Q (f i j) H) : rI0 f (.int i) (.int j) H Q := ⟨i, j, rfl, rfl, h⟩
end
/-- a number's bits, of a spot too -/
abbrev BS (n : Nat) (p : Rat × Rat) : Prop := sz p.1 ≤ n ∧ sz p.2 ≤ n
/-! ### more promises -/
def spLeast (K : PySem.W.Frag) : Sp := fun vs H Q _ => ∃ x q qs, vs = [x] ∧ rLst K (rRat K) H x (q :: qs) ∧ (∀ z ∈ q :: qs, Fits z) ∧ qs.length ≤ 1000 ∧ ∀ H' v r, Same H H' → r ∈ q :: qs → rRat K H' v r → Q v H'
def apartOf (a b : Rat × Rat) : Rat := if (a.1 - b.1).abs < (a.2 - b.2).abs then (a.2 - b.2).abs else (a.1 - b.1).abs
abbrev spApartOf (K : PySem.W.Frag) : Sp := sp2 (rSpot K) (rSpot K) (rRat K) (fun a b => BS 1500 a ∧ BS 1500 b) apartOf
abbrev spOnWay (K : PySem.W.Frag) : Sp := sp3 (rSpot K) (rSpot K) (rRat K) (rSpot K) (fun a b t => BS 100 a ∧ BS 100 b ∧ sz t ≤ 2700) onWay
def crossOf (start far : Rat) : List Rat := if far = 0 then [] else [(0 - start) / far]
abbrev spCross (K : PySem.W.Frag) : Sp := sp2 (rRat K) (rRat K) (rLst K (rRat K)) (fun a b => sz a ≤ 2000 ∧ Fits b) crossOf
abbrev spSorted (K : PySem.W.Frag) : Sp := sp2 (rRat K) (rRat K) (rSpot K) (fun a b => Fits a ∧ Fits b) sortedTwo
abbrev spLean (K : PySem.W.Frag) : Sp := sp4 (rRat K) (rRat K) (rSpot K) (rSpot K) (rRat K) (fun x y c p => sz x ≤ 600 ∧ sz y ≤ 600 ∧ BS 600 c ∧ BS 600 p) leanOf
theorem ord_lt (a b : Rat) : (ordOf a b < 0) ↔ a < b := by
  unfold ordOf
  by_cases h : a = b
  · subst h
    rw [if_pos rfl]
    constructor
    · intro x; omega
    · intro x; exact absurd x (Rat.lt_irrefl)
  · rw [if_neg h]
    by_cases h2 : b < a
    · rw [if_pos h2]
      constructor
      · intro x; omega
      · intro x; grind
    · rw [if_neg h2]
      constructor
      · intro x; grind
      · intro x; omega
/-! ### spans -/
abbrev spNarrow (K : PySem.W.Frag) : Sp := sp5 (rSpot K) (rRat K) (rRat K) (rRat K) (rRat K) (rOpt (rSpot K)) (fun s start far low high => BS 1300 s ∧ sz start ≤ 250 ∧ sz far ≤ 500 ∧ sz low ≤ 510 ∧ sz high ≤ 510) narrowed
abbrev BP (n : Nat) (p : Piece) : Prop := BS n p.1 ∧ BS n p.2
abbrev spNear (K : PySem.W.Frag) : Sp := sp3 (rPiece K) (rPiece K) (rRat K) (rOpt (rSpot K)) (fun a b s => BP 30 a ∧ BP 30 b ∧ sz s ≤ 380) nearSpan
theorem narrowed_sz {s r : Rat × Rat} {start far low high : Rat} (h : narrowed s start far low high = some r) (hs : BS 1300 s) (h1 : sz start ≤ 250) (h2 : sz far ≤ 500) (h3 : sz low ≤ 510) (h4 : sz high ≤ 510) : BS 1300 r := by
  unfold narrowed at h
  by_cases h0 : far = 0
  · rw [if_pos h0] at h
    split at h
    · cases h
    · cases h
      exact hs
  · rw [if_neg h0] at h
    have e0 : sz ((low - start) / far) ≤ 1300 := Nat.le_trans (sz_div (sz_sub h3 h1) h2) (by omega)
    have e1 : sz ((high - start) / far) ≤ 1300 := Nat.le_trans (sz_div (sz_sub h4 h1) h2) (by omega)
    have e2 : BS 1300 (sortedTwo ((low - start) / far) ((high - start) / far)) := by
      unfold sortedTwo
      split
      · exact ⟨e1, e0⟩
      · exact ⟨e0, e1⟩
    dsimp only at h
    generalize sortedTwo ((low - start) / far) ((high - start) / far) = e at h e2
    generalize ha : (if e.2 < s.2 then e.2 else s.2) = la at h
    generalize hb : (if s.1 < e.1 then e.1 else s.1) = fi at h
    have a1 : sz la ≤ 1300 := by
      subst ha
      split
      · exact e2.2
      · exact hs.2
    have b1 : sz fi ≤ 1300 := by
      subst hb
      split
      · exact e2.1
      · exact hs.1
    by_cases hl : la < fi
    · rw [if_pos hl] at h
      cases h
    · rw [if_neg hl] at h
      cases h
      exact ⟨b1, a1⟩
def stepSpan (o : Option (Rat × Rat)) (start far low high : Rat) : Option (Rat × Rat) := match o with
  | none => none
  | some s => narrowed s start far low high
theorem nearSpan_eq (a b c d : Spot) (slack : Rat) : nearSpan (a, b) (c, d) slack =
    stepSpan (stepSpan (stepSpan (some (0, 1)) a.1 (b.1 - a.1) ((sortedTwo c.1 d.1).1 - slack) ((sortedTwo c.1 d.1).2 + slack)) a.2 (b.2 - a.2) ((sortedTwo c.2 d.2).1 - slack) ((sortedTwo c.2 d.2).2 + slack))
      (leanOf (d.1 - c.1) (d.2 - c.2) c a) (leanOf (d.1 - c.1) (d.2 - c.2) c b - leanOf (d.1 - c.1) (d.2 - c.2) c a) (0 - slack * ((d.1 - c.1).abs + (d.2 - c.2).abs)) (slack * ((d.1 - c.1).abs + (d.2 - c.2).abs)) := by
  unfold nearSpan stepSpan
  dsimp only
  cases narrowed (0, 1) a.1 (b.1 - a.1) ((sortedTwo c.1 d.1).1 - slack) ((sortedTwo c.1 d.1).2 + slack) with
  | none => rfl
  | some s =>
    first
      | rfl
      | (dsimp only
         cases narrowed s a.2 (b.2 - a.2) ((sortedTwo c.2 d.2).1 - slack) ((sortedTwo c.2 d.2).2 + slack) with
         | none => rfl
         | some s2 => rfl)
theorem sz_lean {x y : Rat} {c p : Spot} {m n : Nat} (hx : sz x ≤ m) (hy : sz y ≤ m) (hc : BS n c) (hp : BS n p) : sz (leanOf x y c p) ≤ m + (n + n + 1) + (m + (n + n + 1)) + 1 := sz_sub (sz_mul hx (sz_sub hp.2 hc.2)) (sz_mul hy (sz_sub hp.1 hc.1))
theorem sz_sorted {a b : Rat} {n : Nat} (ha : sz a ≤ n) (hb : sz b ≤ n) : BS n (sortedTwo a b) := by
  unfold sortedTwo
  split
  · exact ⟨hb, ha⟩
  · exact ⟨ha, hb⟩
end Gr

set_option maxRecDepth 100000
set_option maxHeartbeats 1000000
namespace Gr
open PySem PySem.Spec PyProof.Rows L2
/-! ### == of such data -/
def dR (q : Rat) : PyData := .tuple [.int q.num, .int (q.den : Int)]
def dS (p : Rat × Rat) : PyData := .tuple [dR p.1, dR p.2]
def dL (l : List (Rat × Rat)) : PyData := .list (l.map dS)
section
variable {K : PySem.W.Frag} {H : Hp}
theorem dp_rat {v : V} {q : Rat} (h : rRat K H v q) : Dp K H v (dR q) := by
  obtain ⟨p, rfl, hs⟩ := h
  exact .tup hs (.cons (.int _) (.cons (.int _) .nil))
theorem dp_spot {v : V} {q : Rat × Rat} (h : rSpot K H v q) : Dp K H v (dS q) := by
  obtain ⟨p, v1, v2, rfl, hs, h1, h2⟩ := h
  exact .tup hs (.cons (dp_rat h1) (.cons (dp_rat h2) .nil))
theorem dp_all : ∀ {vs : List V} {l : List (Rat × Rat)}, Paired (rSpot K H) vs l → DpAll K H vs (l.map dS)
  | _, _, .nil => .nil
  | _, _, .cons h t => .cons (dp_spot h) (dp_all t)
theorem dp_list {v : V} {l : List (Rat × Rat)} (h : rLst K (rSpot K) H v l) : Dp K H v (dL l) := by
  obtain ⟨p, vs, rfl, hs, hp⟩ := h
  exact .lst (SqL.of hs) (dp_all hp)
theorem can_R (q : Rat) : (dR q).canLay0 = true := rfl
theorem can_S (p : Rat × Rat) : (dS p).canLay0 = true := rfl
theorem can_all : ∀ l : List (Rat × Rat), PyData.canLayAll0 (l.map dS) = true
  | [] => rfl
  | p :: r => by
    show ((dS p).canLay0 && PyData.canLayAll0 (r.map dS)) = true
    rw [can_S, can_all r]
    rfl
theorem dep_R (q : Rat) : (dR q).depth = 1 := rfl
theorem dep_S (p : Rat × Rat) : (dS p).depth = 2 := rfl
theorem dep_all : ∀ l : List (Rat × Rat), PyData.depthAll (l.map dS) ≤ 2
  | [] => Nat.zero_le _
  | p :: r => by
    show max (dS p).depth (PyData.depthAll (r.map dS)) ≤ 2
    rw [dep_S]
    exact Nat.max_le.mpr ⟨Nat.le_refl _, dep_all r⟩
theorem sh_R (q : Rat) : SeqAt.shaped (dR q) = true := rfl
theorem sh_L (l : List (Rat × Rat)) : SeqAt.shaped (dL l) = true := by
  unfold SeqAt.shaped
  have h1 : (dL l).canLay0 = true := can_all l
  have h2 : (dL l).depth = PyData.depthAll (l.map dS) + 1 := rfl
  have := dep_all l
  rw [h1, h2, Bool.true_and]
  exact decide_eq_true (by omega)
theorem sh_LL (a b : List (Rat × Rat)) : SeqAt.shaped (.list [dL a, dL b]) = true := by
  unfold SeqAt.shaped
  have h1 : (PyData.list [dL a, dL b]).canLay0 = ((dL a).canLay0 && ((dL b).canLay0 && true)) := rfl
  have e1 : (dL a).canLay0 = true := can_all a
  have e2 : (dL b).canLay0 = true := can_all b
  have h2 : (PyData.list [dL a, dL b]).depth = max (dL a).depth (max (dL b).depth 0) + 1 := rfl
  have h3 : (dL a).depth = PyData.depthAll (a.map dS) + 1 := rfl
  have h4 : (dL b).depth = PyData.depthAll (b.map dS) + 1 := rfl
  have := dep_all a
  have := dep_all b
  rw [h1, h2, h3, h4, e1, e2, Bool.true_and, Bool.true_and]
  exact decide_eq_true (by omega)
theorem eqv_R (a b : Rat) : PyData.eqv (dR a) (dR b) = decide (a = b) := by
  have e : PyData.eqv (dR a) (dR b) = (a.num == b.num && ((a.den : Int) == (b.den : Int) && true)) := by
    unfold dR PyData.eqv PyData.eqvAll PyData.eqvAll PyData.eqvAll PyData.eqv
    rfl
  rw [e]
  by_cases h : a = b
  · subst h
    simp
  · have h' : ¬ (a.num = b.num ∧ a.den = b.den) := fun z => h (Rat.ext z.1 z.2)
    rw [decide_eq_false h]
    by_cases h1 : a.num = b.num
    · have : ¬ (a.den : Int) = (b.den : Int) := fun z => h' ⟨h1, by omega⟩
      simp [this]
    · simp [h1]
theorem eqv_nil (l : List (Rat × Rat)) : PyData.eqv (dL l) (.list []) = l.isEmpty := by
  unfold dL PyData.eqv
  cases l with
  | nil => rfl
  | cons p r => rfl
theorem g_eqR {x y : V} {a b : Rat} {Q : VK} (hx : rRat K H x a) (hy : rRat K H y b) (q : Q (.bl (decide (a = b))) H) : rEqD K x y H Q := ⟨dR a, dR b, dp_rat hx, dp_rat hy, sh_R a, sh_R b, by rw [eqv_R]; exact q⟩
theorem g_neR {x y : V} {a b : Rat} {Q : VK} (hx : rRat K H x a) (hy : rRat K H y b) (q : Q (.bl (!decide (a = b))) H) : rNeD K x y H Q := ⟨dR a, dR b, dp_rat hx, dp_rat hy, sh_R a, sh_R b, by rw [eqv_R]; exact q⟩
end
/-! ### a constant of the module -/
theorem g_lst0 {K : PySem.W.Frag} {σ : L2.St} {H : Hp} {Q : VK} (k : ∀ p, H p = none → Q (.ref p) (upd H p (.lst []))) : tLst tNil σ H Q := ⟨Nat.zero_le _, k⟩
theorem g_lst1 {σ : L2.St} {H : Hp} {Q : VK} {ta : TE} (h : ta σ H fun x H1 => ∀ p, H1 p = none → Q (.ref p) (upd H1 p (.lst [x]))) : tLst (tCons ta tNil) σ H Q := by
  show ta σ H fun x H1 => [x].length ≤ sizeLine ∧ ∀ p, H1 p = none → Q (.ref p) (upd H1 p (.lst [x]))
  have e : ∀ x : V, [x].length ≤ sizeLine := fun x => by show 1 ≤ sizeLine; decide
  simp only [e, true_and]
  exact h
theorem g_lst2 {σ : L2.St} {H : Hp} {Q : VK} {ta tb : TE} (h : ta σ H fun x H1 => tb σ H1 fun y H2 => ∀ p, H2 p = none → Q (.ref p) (upd H2 p (.lst [x, y]))) : tLst (tCons ta (tCons tb tNil)) σ H Q := by
  show ta σ H fun x H1 => tb σ H1 fun y H2 => [x, y].length ≤ sizeLine ∧ ∀ p, H2 p = none → Q (.ref p) (upd H2 p (.lst [x, y]))
  have e : ∀ x y : V, [x, y].length ≤ sizeLine := fun x y => by show 2 ≤ sizeLine; decide
  simp only [e, true_and]
  exact h
section
variable {K : PySem.W.Frag} {H : Hp} {Q : VK} {α : Type} {A : Rp α}
theorem g_mkL0 (k : ∀ H' v, Same H H' → rLst K A H' v [] → Q v H') : ∀ p, H p = none → Q (.ref p) (upd H p (.lst [])) := fun p hp => k _ _ (same_new hp) ⟨p, [], rfl, upd_same, .nil⟩
theorem g_mkL1 [Mono A] {x : V} {a : α} (hx : A H x a) (k : ∀ H' v, Same H H' → rLst K A H' v [a] → Q v H') : ∀ p, H p = none → Q (.ref p) (upd H p (.lst [x])) :=
  fun p hp => k _ _ (same_new hp) ⟨p, [x], rfl, upd_same, .cons (up (same_new hp) hx) .nil⟩
theorem g_mkL2 [Mono A] {x y : V} {a b : α} (hx : A H x a) (hy : A H y b) (k : ∀ H' v, Same H H' → rLst K A H' v [a, b] → Q v H') : ∀ p, H p = none → Q (.ref p) (upd H p (.lst [x, y])) :=
  fun p hp => k _ _ (same_new hp) ⟨p, [x, y], rfl, upd_same, .cons (up (same_new hp) hx) (.cons (up (same_new hp) hy) .nil)⟩
end
/-! ### what stands in tuples alone outlives any change of a list -/
def TS (K : PySem.W.Frag) (H H' : Hp) : Prop := ∀ a xs, SqT K H a xs → SqT K H' a xs
theorem TS.refl (K : PySem.W.Frag) (H : Hp) : TS K H H := fun _ _ h => h
theorem TS.trans {K : PySem.W.Frag} {H H1 H2 : Hp} (a : TS K H H1) (b : TS K H1 H2) : TS K H H2 := fun x xs h => b x xs (a x xs h)
theorem Same.ts {K : PySem.W.Frag} {H H' : Hp} (e : Same H H') : TS K H H' := fun a xs h => Gr.Same.tup e h
theorem ts_upd {K : PySem.W.Frag} {H : Hp} {p : Addr} {o : HO} {xs : List V} (h : H p = some (.lst xs)) : TS K H (upd H p o) := fun a ys q => by
  rcases q with (q | ⟨o, q⟩) | q
  · exact .inl (.inl (by rw [upd_ne (ne_of q h (by intro z; cases z))]; exact q))
  · exact .inl (.inr ⟨o, by rw [upd_ne (ne_of q h (by intro z; cases z))]; exact q⟩)
  · exact .inr q
class MonoT {α : Type} (K : PySem.W.Frag) (A : Rp α) : Prop where
  go : ∀ {H H' : Hp} {v : V} {a : α}, TS K H H' → A H v a → A H' v a
theorem upT {α : Type} {K : PySem.W.Frag} {A : Rp α} [MonoT K A] {H H' : Hp} {v : V} {a : α} (e : TS K H H') (h : A H v a) : A H' v a := MonoT.go e h
instance {K : PySem.W.Frag} : MonoT K rInt := ⟨fun _ h => h⟩
instance {K : PySem.W.Frag} : MonoT K rBool := ⟨fun _ h => h⟩
instance {K : PySem.W.Frag} : MonoT K (rRat K) := ⟨fun e ⟨p, h1, h2⟩ => ⟨p, h1, e _ _ h2⟩⟩
instance {α β : Type} {K : PySem.W.Frag} {A : Rp α} {B : Rp β} [MonoT K A] [MonoT K B] : MonoT K (rPair K A B) :=
  ⟨fun e ⟨p, v1, v2, h1, h2, h3, h4⟩ => ⟨p, v1, v2, h1, e _ _ h2, upT e h3, upT e h4⟩⟩
instance {α : Type} {K : PySem.W.Frag} {A : Rp α} [MonoT K A] : MonoT K (rOpt A) := ⟨fun e h => by
  rcases h with h | ⟨a, h1, h2, h3⟩
  · exact .inl h
  · exact .inr ⟨a, h1, h2, upT e h3⟩⟩
theorem paired_ts {α : Type} {K : PySem.W.Frag} {A : Rp α} [MonoT K A] {H H' : Hp} (e : TS K H H') {vs : List V} {xs : List α} (h : Paired (A H) vs xs) : Paired (A H') vs xs := Paired.mapP h fun _ _ r => upT e r
/-! ### a comprehension over a list -/
def keptF {α β : Type} (keep : α → Bool) (F : α → β) (l : List α) (i : Nat) : List β := ((l.take i).filter keep).map F
theorem keptF_yes {α β : Type} {keep : α → Bool} {F : α → β} {l : List α} {i : Nat} {a : α} (h : l[i]? = some a) (hk : keep a = true) : keptF keep F l (i + 1) = keptF keep F l i ++ [F a] := by
  unfold keptF
  rw [List.take_add_one, h, List.filter_append, List.map_append]
  show _ ++ (List.filter keep [a]).map F = _
  rw [List.filter_cons_of_pos hk]
  rfl
theorem keptF_no {α β : Type} {keep : α → Bool} {F : α → β} {l : List α} {i : Nat} {a : α} (h : l[i]? = some a) (hk : keep a = false) : keptF keep F l (i + 1) = keptF keep F l i := by
  unfold keptF
  rw [List.take_add_one, h, List.filter_append]
  show ((l.take i).filter keep ++ List.filter keep [a]).map F = _
  rw [List.filter_cons_of_neg (by rw [hk]; decide), List.filter_nil, List.append_nil]
theorem keptF_len {α β : Type} (keep : α → Bool) (F : α → β) (l : List α) (i : Nat) : (keptF keep F l i).length ≤ l.length := by
  unfold keptF
  rw [List.length_map]
  refine Nat.le_trans (List.length_filter_le _ _) ?_
  rw [List.length_take]
  exact Nat.min_le_right _ _
theorem paired_snoc {α β : Type} {F : α → β → Prop} {xs : List α} {ys : List β} {x : α} {y : β} (h : Paired F xs ys) (r : F x y) : Paired F (xs ++ [x]) (ys ++ [y]) := paired_rev.paired_app h (.cons r .nil)
def LcR (K : PySem.W.Frag) (g : TG) (tt : TT) (te : TE) (vs : List Nat) (σ : L2.St) (Q : VK) (x : V) (H : Hp) : Prop := ∃ a, x = .ref a ∧ (∃ xs, SqL K H a xs) ∧ ∀ D, H D = none → ∃ W : Nat → Nat → Hp → Prop, (∃ m, W 0 m (upd H D (.lst []))) ∧ ∀ i m H, W i m H →
      ((Itl K a).stop i H ∧ Q (.ref D) H) ∨ ((Itl K a).go i H ∧ ∃ Nx : Hp → Prop, (∀ H', Nx H' → ∃ m', m' < m ∧ W (i + 1) m' H') ∧ ∀ x H', (Itl K a).yld i H x H' → g x (wipe σ vs) H' fun σ2 H2 => wipe σ2 vs = wipe σ vs ∧ tt σ2 H2 fun b H3 =>
        if b = true then te σ2 H3 fun y H4 => ∃ acc, H4 D = some (.lst acc) ∧ acc.length < sizeLine ∧ Nx (upd H4 D (.lst (acc ++ [y]))) else Nx H3)
theorem g_lc {α β : Type} {K : PySem.W.Frag} {A : Rp α} {B : Rp β} [Mono A] [MonoT K B] {H : Hp} {x : V} {l : List α} {g : TG} {tt : TT} {te : TE} {σ : L2.St} {vs : List Nat} {Q : VK} (keep : α → Bool) (F : α → β) (hx : rLst K A H x l) (hl : l.length ≤ 1000)
    (turn : ∀ (i : Nat) (a : α) (v : V) (H1 : Hp), l[i]? = some a → Same H H1 → A H1 v a → ∀ (Kp : VK) (Sk : Hp → Prop), (∀ y H2, Same H1 H2 → keep a = true → B H2 y (F a) → Kp y H2) → (∀ H2, Same H1 H2 → keep a = false → Sk H2) →
      g v (wipe σ vs) H1 fun σ2 H2 => wipe σ2 vs = wipe σ vs ∧ tt σ2 H2 fun b H3 => if b = true then te σ2 H3 Kp else Sk H3)
    (q : Ret (rLst K B) H Q ((l.filter keep).map F)) :
    LcR K g tt te vs σ Q x H := by
  obtain ⟨p, xs, rfl, hs, hp⟩ := hx
  have hlen := hp.length
  refine ⟨p, rfl, ⟨xs, SqL.of hs⟩, fun D hD => ?_⟩
  have hpD : p ≠ D := ne_of_none hs hD
  refine lc_list (xs := xs) (fun i H1 => Same H H1 ∧ ∃ acc, H1 D = some (.lst acc) ∧ Paired (B H1) acc (keptF keep F l i)) ⟨same_new hD, [], upd_same, .nil⟩ (fun i H1 _ hW => SqL.of (hW.1 _ _ hs)) (fun i v H1 hi hW => ?_) (fun H1 hW => ?_)
  · obtain ⟨e, acc, hacc, hP⟩ := hW
    obtain ⟨a, ha, hA⟩ := LiI.paired_get hp hi
    refine turn i a v H1 ha e (up e hA) _ _ (fun y H2 e2 hk hB => ?_) (fun H2 e2 hk => ?_)
    · have h2 := e2 _ _ hacc
      have la := hP.length
      have lk := keptF_len keep F l i
      refine ⟨acc, h2, Nat.lt_of_le_of_lt (by omega : acc.length ≤ 1000) (by decide), fun b o hb => ?_, acc ++ [y], upd_same, ?_⟩
      · rw [upd_ne (ne_of_none hb hD)]
        exact e2 _ _ (e _ _ hb)
      · rw [keptF_yes ha hk]
        exact paired_snoc (paired_ts (K := K) (ts_upd h2) (paired_ts (K := K) (Gr.Same.ts e2) hP)) (upT (K := K) (ts_upd h2) hB)
    · refine ⟨e.trans e2, acc, e2 _ _ hacc, ?_⟩
      rw [keptF_no ha hk]
      exact paired_ts (K := K) (Gr.Same.ts e2) hP
  · obtain ⟨e, acc, hacc, hP⟩ := hW
    refine q _ _ e ⟨D, acc, rfl, hacc, ?_⟩
    have : keptF keep F l xs.length = (l.filter keep).map F := by
      unfold keptF
      rw [List.take_of_length_le (by omega)]
    rw [← this]
    exact hP
theorem g_lcl {g : TG} {tt : TT} {te : TE} {vs : List Nat} {σ : L2.St} {H : Hp} {Q : VK} {K : PySem.W.Frag} {tl : TE} (h : tl σ H fun x H1 => LcR K g tt te vs σ Q x H1) : tLc (iList K tl) g tt te vs σ H Q := h
/-! ### built-in calls -/
def rLenG (K : PySem.W.Frag) : List V → Hp → VK → Prop := fun xs H Q => ∃ p ys, xs = [.ref p] ∧ (SqL K H p ys ∨ SqT K H p ys) ∧ Q (.int ys.length) H
def rListG (K : PySem.W.Frag) : List V → Hp → VK → Prop := fun xs H Q => ∃ p ys, xs = [.ref p] ∧ (SqL K H p ys ∨ SqT K H p ys) ∧ ∀ l, H l = none → Q (.ref l) (upd H l (.lst ys))
def rAbsG : List V → Hp → VK → Prop := fun xs H Q => ∃ i, xs = [.int i] ∧ Q (.int (if i < 0 then -i else i)) H
def rMaxG : List V → Hp → VK → Prop := fun xs H Q => ∃ i j, xs = [.int i, .int j] ∧ Q (.int (if j > i then j else i)) H
theorem call_lenG {X : Cx} : CallR X (.builtin "len") (rLenG X.K) := call_len_seq
theorem call_listG {X : Cx} : CallR X (.type "list") (rListG X.K) := call_list_of
theorem call_absG {X : Cx} : CallR X (.builtin "abs") rAbsG := call_abs
theorem call_maxG {X : Cx} (hc : X.calm = true) : CallR X (.builtin "max") rMaxG := call_max2 hc
section
variable {K : PySem.W.Frag} {σ : L2.St} {H : Hp} {Q : VK} {ta tb : TE} {α : Type} {A : Rp α}
theorem g_cb1 {r : List V → Hp → VK → Prop} (h : ta σ H fun x H1 => r [x] H1 Q) : tCB r (tCons ta tNil) σ H Q := h
theorem g_cb2 {r : List V → Hp → VK → Prop} (h : ta σ H fun x H1 => tb σ H1 fun y H2 => r [x, y] H2 Q) : tCB r (tCons ta (tCons tb tNil)) σ H Q := h
theorem g_len {x : V} {l : List α} (h : rLst K A H x l) (q : Q (.int (l.length : Int)) H) : rLenG K [x] H Q := by
  obtain ⟨p, vs, rfl, hs, hp⟩ := h
  exact ⟨p, vs, rfl, .inl (SqL.of hs), by rw [hp.length]; exact q⟩
theorem g_abs {i : Int} (q : Q (.int (if i < 0 then -i else i)) H) : rAbsG [.int i] H Q := ⟨i, rfl, q⟩
theorem g_max {i j : Int} (q : Q (.int (if j > i then j else i)) H) : rMaxG [.int i, .int j] H Q := ⟨i, j, rfl, q⟩
theorem g_list [Mono A] {x : V} {l : List α} (h : rLst K A H x l) (q : Ret (rLst K A) H Q l) : rListG K [x] H Q := by
  obtain ⟨p, vs, rfl, hs, hp⟩ := h
  exact ⟨p, vs, rfl, .inl (SqL.of hs), fun l hl => q _ _ (same_new hl) ⟨l, vs, rfl, upd_same, paired_up (same_new hl) hp⟩⟩
theorem g_eqI {i j : Int} (q : Q (.bl (decide (i = j))) H) : rEq (.int i) (.int j) H Q := ⟨rfl, by
  have e : decide (V.int i = V.int j) = decide (i = j) := decide_eq_decide.mpr ⟨V.int.inj, fun z => by rw [z]⟩
  rw [e]
  exact q⟩
theorem cut_from (xs : List V) (n : Nat) : cutV xs (some (n : Int)) none = xs.drop n := by
  unfold cutV
  rw [HT.sIx_nat, HT.sIx_none]
  rcases Nat.le_total n xs.length with h | h
  · rw [Nat.min_eq_left h, List.take_of_length_le (by rw [List.length_drop]; omega)]
  · rw [Nat.min_eq_right h, List.drop_of_length_le (Nat.le_refl _), List.drop_of_length_le h, List.take_nil]
theorem cut_to (xs : List V) (n : Nat) : cutV xs none (some (n : Int)) = xs.take n := by
  unfold cutV
  rw [HT.sIx_nat, HT.sIx_none, List.drop_zero, Nat.sub_zero]
  rcases Nat.le_total n xs.length with h | h
  · rw [Nat.min_eq_left h]
  · rw [Nat.min_eq_right h, List.take_of_length_le (Nat.le_refl _), List.take_of_length_le h]
theorem paired_drop {α β : Type} {F : α → β → Prop} : ∀ {xs : List α} {ys : List β} (n : Nat), Paired F xs ys → Paired F (xs.drop n) (ys.drop n)
  | _, _, 0, h => h
  | _, _, _ + 1, .nil => .nil
  | _, _, n + 1, .cons _ t => paired_drop n t
theorem paired_take {α β : Type} {F : α → β → Prop} : ∀ {xs : List α} {ys : List β} (n : Nat), Paired F xs ys → Paired F (xs.take n) (ys.take n)
  | _, _, 0, _ => .nil
  | _, _, _ + 1, .nil => .nil
  | _, _, n + 1, .cons h t => .cons h (paired_take n t)
/-- xs[n:], xs[:n] -/
theorem g_slFrom [Mono A] {x : V} {l : List α} {n : Nat} (h : rLst K A H x l) (q : Ret (rLst K A) H Q (l.drop n)) : rSlL K x (some (n : Int)) none H Q := by
  obtain ⟨p, vs, rfl, hs, hp⟩ := h
  refine ⟨p, vs, rfl, SqL.of hs, fun c hc => ?_⟩
  rw [cut_from]
  exact q _ _ (same_new hc) ⟨c, vs.drop n, rfl, upd_same, paired_up (same_new hc) (paired_drop n hp)⟩
theorem g_slTo [Mono A] {x : V} {l : List α} {n : Nat} (h : rLst K A H x l) (q : Ret (rLst K A) H Q (l.take n)) : rSlL K x none (some (n : Int)) H Q := by
  obtain ⟨p, vs, rfl, hs, hp⟩ := h
  refine ⟨p, vs, rfl, SqL.of hs, fun c hc => ?_⟩
  rw [cut_to]
  exact q _ _ (same_new hc) ⟨c, vs.take n, rfl, upd_same, paired_up (same_new hc) (paired_take n hp)⟩
theorem g_cat [Mono A] {x y : V} {l m : List α} (h : rLst K A H x l) (h2 : rLst K A H y m) (hz : l.length + m.length ≤ 2000) (q : Ret (rLst K A) H Q (l ++ m)) : rCat x y H Q := by
  obtain ⟨p, vs, rfl, hs, hp⟩ := h
  obtain ⟨p2, ws, rfl, hs2, hp2⟩ := h2
  have e1 := hp.length
  have e2 := hp2.length
  exact ⟨p, p2, vs, ws, rfl, rfl, hs, hs2, Nat.le_trans (by omega : vs.length + ws.length ≤ 2000) (by decide), fun c hc => q _ _ (same_new hc) ⟨c, vs ++ ws, rfl, upd_same, paired_rev.paired_app (paired_up (same_new hc) hp) (paired_up (same_new hc) hp2)⟩⟩
end
theorem zip_rep {α : Type} {K : PySem.W.Frag} {A : Rp α} {H : Hp} : ∀ {vs ws : List V} {l m : List α} {ts : List Addr}, Paired (A H) vs l → Paired (A H) ws m → Paired (fun (t : Addr) (q : V × V) => H t = some (.tup [q.1, q.2])) ts (vs.zip ws) → Paired (rPair K A A H) (ts.map V.ref) (l.zip m)
  | [], _, [], _, ts, .nil, _, h => by
    cases h
    exact .nil
  | _ :: _, [], _ :: _, [], ts, .cons _ _, .nil, h => by
    cases h
    exact .nil
  | v :: vs, u :: ws, a :: l, b :: m, ts, .cons h1 t1, .cons h2 t2, h => by
    cases h with
    | cons h3 t3 => exact .cons ⟨_, v, u, rfl, SqT.of h3, h1, h2⟩ (zip_rep t1 t2 t3)
/-- list(zip(a, b)) -/
theorem g_zip {α : Type} {K : PySem.W.Frag} {A : Rp α} [Mono A] {H : Hp} {Q : VK} {x y : V} {l m : List α} (h : rLst K A H x l) (h2 : rLst K A H y m) (q : Ret (rLst K (rPair K A A)) H Q (l.zip m)) :
    ∃ a b xs ys, [x, y] = [V.ref a, V.ref b] ∧ SqL K H a xs ∧ SqL K H b ys ∧ ∀ (H' : Hp) (p : Addr) (ts : List Addr), Same H H' → H p = none → H' p = some (.lst (ts.map V.ref)) → Paired (fun (t : Addr) (q : V × V) => H' t = some (.tup [q.1, q.2])) ts (xs.zip ys) → Q (.ref p) H' := by
  obtain ⟨p, vs, rfl, hs, hp⟩ := h
  obtain ⟨p2, ws, rfl, hs2, hp2⟩ := h2
  exact ⟨p, p2, vs, ws, rfl, SqL.of hs, SqL.of hs2, fun H' c ts e _ hc hP => q _ _ e ⟨c, _, rfl, hc, zip_rep (paired_up e hp) (paired_up e hp2) hP⟩⟩
theorem g_lz {K : PySem.W.Frag} {σ : L2.St} {H : Hp} {Q : VK} {ta tb : TE} (h : ta σ H fun x H1 => tb σ H1 fun y H2 => ∃ a b xs ys, [x, y] = [V.ref a, V.ref b] ∧ SqL K H2 a xs ∧ SqL K H2 b ys ∧ ∀ (H' : Hp) (p : Addr) (ts : List Addr), Same H2 H' → H2 p = none → H' p = some (.lst (ts.map V.ref)) → Paired (fun (t : Addr) (q : V × V) => H' t = some (.tup [q.1, q.2])) ts (xs.zip ys) → Q (.ref p) H') :
    tListZip K (tCons ta (tCons tb tNil)) σ H Q := h
section
variable {K : PySem.W.Frag} {σ : L2.St} {H : Hp} {Q : VK} {te : TE} {α : Type} {A : Rp α}
theorem g_sl {r : V → Option Int → Option Int → Hp → VK → Prop} {tl th : TO} (h : te σ H fun x H1 => tl σ H1 fun l H2 => th σ H2 fun u H3 => r x l u H3 Q) : tSl r te tl th σ H Q := h
theorem g_nop {Q : Option Int → Hp → Prop} (h : Q none H) : tNoPart σ H Q := h
theorem g_part {Q : Option Int → Hp → Prop} (h : te σ H fun x H1 => ∃ i, x = .int i ∧ Q (some i) H1) : tPart te σ H Q := h
theorem g_int {i : Int} {G : Int → Prop} (h : G i) : ∃ j, V.int i = .int j ∧ G j := ⟨i, rfl, h⟩
theorem g_sl1 [Mono A] {x : V} {l : List α} (h : rLst K A H x l) (q : Ret (rLst K A) H Q (l.drop 1)) : rSlL K x (some 1) none H Q := g_slFrom (n := 1) h q
end
end Gr

set_option maxRecDepth 100000
set_option maxHeartbeats 1000000
namespace Gr
open PySem PySem.Spec PyProof.Rows L2
theorem g_andV {ta tb : TE} {σ : L2.St} {H : Hp} {Q : VK} (h : ta σ H fun x H1 => ∃ c, x = .bl c ∧ if c = true then tb σ H1 Q else Q (.bl false) H1) : tAndV ta tb σ H Q := h
theorem g_notV {ta : TE} {σ : L2.St} {H : Hp} {Q : VK} (h : ta σ H fun x H1 => ∃ c, x = .bl c ∧ Q (.bl (!c)) H1) : tNotV ta σ H Q := h
theorem g_andM {ta tb : TE} {σ : L2.St} {H : Hp} {Q : VK} (b : Bool) (Mid : Hp → Prop) (h1 : ∀ G : VK, (∀ H', Mid H' → G (.bl b) H') → tAndV ta tb σ H G) (h2 : ∀ H', Mid H' → Q (.bl b) H') : tAndV ta tb σ H Q := h1 Q h2
/-- two things in a tuple or in a list -/
def rTwo (K : PySem.W.Frag) : Rp (Rat × Rat) := fun H v q => rSpot K H v q ∨ rLst K (rRat K) H v [q.1, q.2]
instance {K : PySem.W.Frag} : Mono (rTwo K) := ⟨fun e h => h.elim (fun h => .inl (up e h)) fun h => .inr (up e h)⟩
theorem g_two0 {K : PySem.W.Frag} {H : Hp} {Q : VK} {x : V} {q : Rat × Rat} (h : rTwo K H x q) (k : ∀ v, rRat K H v q.1 → Q v H) : rIx K x (.int 0) H Q := by
  rcases h with h | h
  · exact .inr (.inl (g_ixP0 h k))
  · exact .inl (g_ixL0 h k)
theorem g_two1 {K : PySem.W.Frag} {H : Hp} {Q : VK} {x : V} {q : Rat × Rat} (h : rTwo K H x q) (k : ∀ v, rRat K H v q.2 → Q v H) : rIx K x (.int 1) H Q := by
  rcases h with h | h
  · exact .inr (.inl (g_ixP1 h k))
  · exact .inl (g_ixL1 h k)
theorem g_forL {K : PySem.W.Frag} {tl : TE} {g : TG} {tb : L2.TS} {D : Ends} {σ : L2.St} {H : Hp} (h : tl σ H fun x H1 => ∃ a, x = .ref a ∧ (∃ xs, SqL K H1 a xs) ∧ tFor (fun _ H R => R (Itl K a) H) g tb D σ H1) : tFor (iList K tl) g tb D σ H := h
theorem comp_lt {a b : Rat} : decide (a.num * b.den - b.num * a.den < 0) = decide (a < b) := decide_eq_decide.mpr (lt_num a b)
theorem comp_le {a b : Rat} : decide (a.num * b.den - b.num * a.den ≤ 0) = decide (a ≤ b) := decide_eq_decide.mpr (le_num a b)
theorem newR {K : PySem.W.Frag} {H H1 : Hp} {p : Addr} {ve : V} {n d : Int} (q : Rat) (hn : n = q.num) (hd : d = (q.den : Int)) (hp : H p = none) (hv : V.ref p = ve) (hH : upd H p (.tup [.int n, .int d]) = H1) : Same H H1 ∧ rRat K H1 ve q := by
  subst hv hH hn hd
  exact ⟨same_new hp, p, rfl, SqT.of upd_same⟩
theorem g_rng1 {te : TE} {g : TG} {tb : L2.TS} {D : Ends} {σ : L2.St} {H : Hp} (h : te σ H fun x H1 => ∃ j : Int, [x] = [.int j] ∧ -(2 ^ 62) ≤ j ∧ j < 2 ^ 62 ∧ tFor (fun _ H R => R (Itr 0 j.toNat) H) g tb D σ H1) : tFor (iRng1 (tCons te tNil)) g tb D σ H := h
theorem g_rngN {n : Nat} {g : TG} {tb : L2.TS} {D : Ends} {σ : L2.St} {H : Hp} (hn : n ≤ 100000) (Pv : Nat → L2.St → Hp → Prop) (h0 : Pv 0 σ H)
    (hs : ∀ i σ H, i < n → Pv i σ H → g (.int (i : Int)) σ H fun σ2 H2 => tb { D with nx := Pv (i + 1), ct := Pv (i + 1), bk := D.nx } σ2 H2) (hd : ∀ σ H, Pv n σ H → D.nx σ H) :
    ∃ j : Int, [V.int (n : Int)] = [.int j] ∧ -(2 ^ 62) ≤ j ∧ j < 2 ^ 62 ∧ tFor (fun _ H R => R (Itr 0 j.toNat) H) g tb D σ H := by
  refine ⟨n, rfl, by omega, by omega, ?_⟩
  rw [Int.toNat_natCast]
  exact for_range (lo := 0) Pv h0 (fun i σ H hi p => by rw [Int.zero_add]; exact hs i σ H hi p) hd
theorem g_bm {K : PySem.W.Frag} {N : String} {r : V → List V → Hp → VK → Prop} {to ta : TE} {σ : L2.St} {H : Hp} {Q : VK} (h : to σ H fun x H1 => tyV K N x H1 ∧ ta σ H1 fun y H2 => r x [y] H2 Q) : tBM K N r to (tCons ta tNil) σ H Q := h
theorem g_drop {te : TE} {D : Ends} {σ : L2.St} {H : Hp} (h : te σ H fun _ H1 => D.nx σ H1) : tDrop te D σ H := h
theorem tyL {K : PySem.W.Frag} {H : Hp} {p : Addr} {xs : List V} (h : H p = some (.lst xs)) : tyV K "list" (.ref p) H := .inl ⟨rfl, _, SqL.of h⟩
theorem g_app {H : Hp} {Q : VK} {p : Addr} {xs : List V} {y : V} (h : H p = some (.lst xs)) (hz : xs.length ≤ 2000) (q : Q .non (upd H p (.lst (xs ++ [y])))) : rAppend (.ref p) [y] H Q := ⟨p, xs, y, rfl, rfl, h, Nat.lt_of_le_of_lt hz (by decide), q⟩
theorem same_own {H H1 : Hp} {p : Addr} {o : HO} (hp : H p = none) (e : Same H H1) : Same H (upd H1 p o) := fun b x hb => by
  rw [upd_ne (ne_of_none hb hp)]
  exact e _ _ hb
def cI (i : Nat) (q : Rat × Rat) : Rat := if i = 0 then q.1 else q.2
theorem g_ixI {K : PySem.W.Frag} {H : Hp} {Q : VK} {x : V} {q : Rat × Rat} {i : Nat} (hi : i < 2) (h : rSpot K H x q) (k : ∀ v, rRat K H v (cI i q) → Q v H) : rIxT K x (.int (i : Int)) H Q := by
  match i, hi with
  | 0, _ => exact g_ixS0 h k
  | 1, _ => exact g_ixS1 h k
  | i + 2, hi => omega
theorem sz_cI {i n : Nat} {q : Rat × Rat} (h : BS n q) : sz (cI i q) ≤ n := by
  unfold cI
  split
  · exact h.1
  · exact h.2
theorem isi_int {K : PySem.W.Frag} {H : Hp} {Q : VK} {i : Int} (q : Q (.bl true) H) : rIsi K [.int i, .ty "int"] H Q := ⟨_, _, _, _, true, rfl, .ty _, .base (.int i), kit_ty (by decide +kernel), q⟩
theorem isi_intB {K : PySem.W.Frag} {H : Hp} {Q : VK} {i : Int} (q : Q (.bl false) H) : rIsi K [.int i, .ty "bool"] H Q := ⟨_, _, _, _, false, rfl, .ty _, .base (.int i), kit_ty (by decide +kernel), q⟩
theorem ty_tup {K : PySem.W.Frag} {H : Hp} {p : Addr} {xs : List V} (h : SqT K H p xs) : TyX K H (.ref p) (.type "tuple") := by
  rcases h with h | ⟨o, its, n, h1, h2, _⟩
  · rcases h with h | ⟨o, h⟩
    · exact .base (.tup h)
    · exact .fTuple h
  · exact .kTuple h1 h2
theorem isi_tup {K : PySem.W.Frag} {H : Hp} {Q : VK} {p : Addr} {xs : List V} (h : SqT K H p xs) (q : Q (.bl true) H) : rIsi K [.ref p, .ty "tuple"] H Q := ⟨_, _, _, _, true, rfl, .ty _, ty_tup h, kit_ty (by decide +kernel), q⟩
theorem g_lenT {K : PySem.W.Frag} {H : Hp} {Q : VK} {p : Addr} {xs : List V} (h : SqT K H p xs) (q : Q (.int xs.length) H) : rLenG K [.ref p] H Q := ⟨p, xs, rfl, .inr h, q⟩
theorem g_neI {i j : Int} {H : Hp} {Q : VK} (q : Q (.bl (!decide (i = j))) H) : rNe (.int i) (.int j) H Q := ⟨rfl, by
  have e : decide (V.int i = V.int j) = decide (i = j) := decide_eq_decide.mpr ⟨V.int.inj, fun z => by rw [z]⟩
  rw [e]
  exact q⟩
end Gr

set_option maxRecDepth 100000
set_option maxHeartbeats 1000000
namespace Gr
open PySem PySem.Spec PyProof.Rows L2
/-! ### the bag -/
/-- the bag at b, its cells at c -/
def Bag (b c : Addr) (H : Hp) : Prop := ∃ (cs : List Int) (slot seed : Int), H b = some (.lst [.ref c, .int slot, .int seed]) ∧ H c = some (.lst (cs.map V.int)) ∧ b ≠ c ∧ 0 ≤ slot ∧ 0 ≤ seed ∧ seed < 2147483647
/-- all but the bag is kept -/
def Kp (K : PySem.W.Frag) (b c : Addr) (H H' : Hp) : Prop := TS K H H' ∧ ∀ a o, a ≠ b → a ≠ c → H a = some o → H' a = some o
theorem Kp.refl (K : PySem.W.Frag) (b c : Addr) (H : Hp) : Kp K b c H H := ⟨TS.refl K H, fun _ _ _ _ h => h⟩
theorem Kp.trans {K : PySem.W.Frag} {b c : Addr} {H H1 H2 : Hp} (x : Kp K b c H H1) (y : Kp K b c H1 H2) : Kp K b c H H2 := ⟨x.1.trans y.1, fun a o h1 h2 h => y.2 a o h1 h2 (x.2 a o h1 h2 h)⟩
theorem kp_same {K : PySem.W.Frag} {b c : Addr} {H H' : Hp} (e : Same H H') : Kp K b c H H' := ⟨Gr.Same.ts e, fun a o _ _ h => e a o h⟩
theorem kp_b {K : PySem.W.Frag} {b c : Addr} {H : Hp} {xs ys : List V} (h : H b = some (.lst xs)) : Kp K b c H (upd H b (.lst ys)) := ⟨ts_upd h, fun a o h1 _ h => by rw [upd_ne h1]; exact h⟩
theorem kp_c {K : PySem.W.Frag} {b c : Addr} {H : Hp} {xs ys : List V} (h : H c = some (.lst xs)) : Kp K b c H (upd H c (.lst ys)) := ⟨ts_upd h, fun a o _ h1 h => by rw [upd_ne h1]; exact h⟩
theorem Bag.same {b c : Addr} {H H' : Hp} (h : Bag b c H) (e : Same H H') : Bag b c H' := by
  obtain ⟨cs, slot, seed, h1, h2, h3⟩ := h
  exact ⟨cs, slot, seed, e _ _ h1, e _ _ h2, h3⟩
theorem Bag.ne {b c p : Addr} {H : Hp} (h : Bag b c H) (hp : H p = none) : p ≠ b ∧ p ≠ c := by
  obtain ⟨cs, slot, seed, h1, h2, h3⟩ := h
  exact ⟨fun e => (by rw [e, h1] at hp; cases hp), fun e => (by rw [e, h2] at hp; cases hp)⟩
theorem kept {α : Type} {K : PySem.W.Frag} {A : Rp α} [MonoT K A] {b c p : Addr} {H H' : Hp} {l : List α} (e : Kp K b c H H') (h1 : p ≠ b) (h2 : p ≠ c) (h : rLst K A H (.ref p) l) : rLst K A H' (.ref p) l := by
  obtain ⟨p', vs, e1, h3, h4⟩ := h
  cases e1
  exact ⟨p, vs, rfl, e.2 _ _ h1 h2 h3, paired_ts e.1 h4⟩
theorem g_bx {K : PySem.W.Frag} {H : Hp} {Q : VK} {p : Addr} {xs : List V} {i : Int} {v : V} (h : H p = some (.lst xs)) (e : atI xs i = some v) (q : Q v H) : rIxL K (.ref p) (.int i) H Q := ⟨p, xs, i, v, rfl, rfl, SqL.of h, e, q⟩
theorem g_setL {H : Hp} {Q : Hp → Prop} {p : Addr} {xs : List V} {k : Int} {j : Nat} {v : V} (h : H p = some (.lst xs)) (e : ixN xs.length k = some j) (q : Q (upd H p (.lst (xs.set j v)))) : rSetL (.ref p) (.int k) v H Q := ⟨p, xs, k, j, rfl, rfl, h, e, q⟩
theorem g_gsub {to ti : TE} {t : TSet} {v : V} {σ : L2.St} {H : Hp} {Q : L2.St → Hp → Prop} (h : to σ H fun o H1 => ti σ H1 fun i H2 => t o i v H2 fun H3 => Q σ H3) : gSub to ti t v σ H Q := h
theorem g_lenQ {K : PySem.W.Frag} {H : Hp} {Q : VK} {p : Addr} {xs : List V} (h : H p = some (.lst xs)) (q : Q (.int xs.length) H) : rLenG K [.ref p] H Q := ⟨p, xs, rfl, .inl (SqL.of h), q⟩
def spDraw (K : PySem.W.Frag) : Sp := fun vs H Q _ => ∃ (b c : Addr) (many : Int), vs = [.ref b, .int many] ∧ Bag b c H ∧ 1 ≤ many ∧ many < 2 ^ 62 ∧ ∀ (H' : Hp) (r : Nat), Kp K b c H H' → Bag b c H' → (r : Int) < many → Q (.int (r : Int)) H'
def spBag (K : PySem.W.Frag) : Sp := fun vs H Q _ => ∃ (a : Addr) (ns : List Int), vs = [.ref a] ∧ SqL K H a (ns.map V.int) ∧ ∀ (H' : Hp) (b c : Addr), Same H H' → H b = none → H c = none → Bag b c H' → Q (.ref b) H'
def spAny (K : PySem.W.Frag) : Sp := fun vs H Q _ => ∃ (b c p : Addr) (xs : List V), vs = [.ref b, .ref p] ∧ Bag b c H ∧ p ≠ b ∧ p ≠ c ∧ H p = some (.lst xs) ∧ xs ≠ [] ∧ xs.length ≤ 1000 ∧ ∀ (H' : Hp) (v : V), Kp K b c H H' → Bag b c H' → v ∈ xs → Q v H'
theorem and_len {n : Nat} (h : n ≤ sizeLine) {p : Prop} : (n ≤ sizeLine ∧ p) = p := propext ⟨fun x => x.2, fun x => ⟨h, x⟩⟩
theorem g_lst3 {σ : L2.St} {H : Hp} {Q : VK} {ta tb tc : TE} (h : ta σ H fun x H1 => tb σ H1 fun y H2 => tc σ H2 fun z H3 => ∀ p, H3 p = none → Q (.ref p) (upd H3 p (.lst [x, y, z]))) : tLst (tCons ta (tCons tb (tCons tc tNil))) σ H Q := by
  show ta σ H fun x H1 => tb σ H1 fun y H2 => tc σ H2 fun z H3 => [x, y, z].length ≤ sizeLine ∧ ∀ p, H3 p = none → Q (.ref p) (upd H3 p (.lst [x, y, z]))
  have e : ∀ x y z : V, [x, y, z].length ≤ sizeLine := fun x y z => by show 3 ≤ sizeLine; decide
  simp only [and_len (e _ _ _)]
  exact h
theorem g_lst4 {σ : L2.St} {H : Hp} {Q : VK} {ta tb tc td : TE} (h : ta σ H fun x H1 => tb σ H1 fun y H2 => tc σ H2 fun z H3 => td σ H3 fun u H4 => ∀ p, H4 p = none → Q (.ref p) (upd H4 p (.lst [x, y, z, u]))) : tLst (tCons ta (tCons tb (tCons tc (tCons td tNil)))) σ H Q := by
  show ta σ H fun x H1 => tb σ H1 fun y H2 => tc σ H2 fun z H3 => td σ H3 fun u H4 => [x, y, z, u].length ≤ sizeLine ∧ ∀ p, H4 p = none → Q (.ref p) (upd H4 p (.lst [x, y, z, u]))
  have e : ∀ x y z u : V, [x, y, z, u].length ≤ sizeLine := fun x y z u => by show 4 ≤ sizeLine; decide
  simp only [and_len (e _ _ _ _)]
  exact h
theorem g_lst5 {σ : L2.St} {H : Hp} {Q : VK} {ta tb tc td te : TE} (h : ta σ H fun x H1 => tb σ H1 fun y H2 => tc σ H2 fun z H3 => td σ H3 fun u H4 => te σ H4 fun w H5 => ∀ p, H5 p = none → Q (.ref p) (upd H5 p (.lst [x, y, z, u, w]))) : tLst (tCons ta (tCons tb (tCons tc (tCons td (tCons te tNil))))) σ H Q := by
  show ta σ H fun x H1 => tb σ H1 fun y H2 => tc σ H2 fun z H3 => td σ H3 fun u H4 => te σ H4 fun w H5 => [x, y, z, u, w].length ≤ sizeLine ∧ ∀ p, H5 p = none → Q (.ref p) (upd H5 p (.lst [x, y, z, u, w]))
  have e : ∀ x y z u w : V, [x, y, z, u, w].length ≤ sizeLine := fun x y z u w => by show 5 ≤ sizeLine; decide
  simp only [and_len (e _ _ _ _ _)]
  exact h
theorem kp_own {K : PySem.W.Frag} {b c p : Addr} {H H1 : Hp} {xs ys : List V} (hp : H p = none) (e : Kp K b c H H1) (h : H1 p = some (.lst xs)) : Kp K b c H (upd H1 p (.lst ys)) :=
  ⟨e.1.trans (ts_upd h), fun a o h1 h2 ho => by rw [upd_ne (ne_of_none ho hp)]; exact e.2 a o h1 h2 ho⟩
theorem kp_none {K : PySem.W.Frag} {b c p : Addr} {H G : Hp} (e : Kp K b c H G) (h : G p = none) (h1 : p ≠ b) (h2 : p ≠ c) : H p = none := by
  cases h3 : H p with
  | none => rfl
  | some o =>
    rw [e.2 _ _ h1 h2 h3] at h
    cases h
theorem Bag.own {b c p : Addr} {H : Hp} {o : HO} (h : Bag b c H) (h1 : p ≠ b) (h2 : p ≠ c) : Bag b c (upd H p o) := by
  obtain ⟨cs, slot, seed, k1, k2, k3⟩ := h
  exact ⟨cs, slot, seed, by rw [upd_ne (Ne.symm h1)]; exact k1, by rw [upd_ne (Ne.symm h2)]; exact k2, k3⟩
theorem g_catF {α : Type} {K : PySem.W.Frag} {A : Rp α} [Mono A] {H : Hp} {Q : VK} {x y : V} {l m : List α} (h : rLst K A H x l) (h2 : rLst K A H y m) (hz : l.length + m.length ≤ 2000) (q : ∀ c H', H c = none → Same H H' → rLst K A H' (.ref c) (l ++ m) → Q (.ref c) H') : rCat x y H Q := by
  obtain ⟨p, vs, rfl, hs, hp⟩ := h
  obtain ⟨p2, ws, rfl, hs2, hp2⟩ := h2
  have e1 := hp.length
  have e2 := hp2.length
  exact ⟨p, p2, vs, ws, rfl, rfl, hs, hs2, Nat.le_trans (by omega : vs.length + ws.length ≤ 2000) (by decide), fun c hc => q _ _ hc (same_new hc) ⟨c, vs ++ ws, rfl, upd_same, paired_rev.paired_app (paired_up (same_new hc) hp) (paired_up (same_new hc) hp2)⟩⟩
theorem g_listF {α : Type} {K : PySem.W.Frag} {A : Rp α} [Mono A] {H : Hp} {Q : VK} {x : V} {l : List α} (h : rLst K A H x l) (q : ∀ c H', H c = none → Same H H' → rLst K A H' (.ref c) l → Q (.ref c) H') : rListG K [x] H Q := by
  obtain ⟨p, vs, rfl, hs, hp⟩ := h
  exact ⟨p, vs, rfl, .inl (SqL.of hs), fun l hl => q _ _ hl (same_new hl) ⟨l, vs, rfl, upd_same, paired_up (same_new hl) hp⟩⟩
theorem g_rng2 {ta tb : TE} {g : TG} {t : L2.TS} {D : Ends} {σ : L2.St} {H : Hp} (h : ta σ H fun x H1 => tb σ H1 fun y H2 => ∃ i j : Int, [x, y] = [.int i, .int j] ∧ (-(2 ^ 62) ≤ i ∧ i < 2 ^ 62 ∧ -(2 ^ 62) ≤ j ∧ j < 2 ^ 62) ∧ tFor (fun _ H R => R (Itr i (j - i).toNat) H) g t D σ H2) : tFor (iRng2 (tCons ta (tCons tb tNil))) g t D σ H := h
theorem g_rng2N {n : Nat} {g : TG} {tb : L2.TS} {D : Ends} {σ : L2.St} {H : Hp} (h1 : 1 ≤ n) (hn : n ≤ 100000) (Pv : Nat → L2.St → Hp → Prop) (h0 : Pv 0 σ H)
    (hs : ∀ i σ H, i + 1 < n → Pv i σ H → g (.int ((i + 1 : Nat) : Int)) σ H fun σ2 H2 => tb { D with nx := Pv (i + 1), ct := Pv (i + 1), bk := D.nx } σ2 H2) (hd : ∀ σ H, Pv (n - 1) σ H → D.nx σ H) :
    ∃ i j : Int, [V.int 1, V.int (n : Int)] = [.int i, .int j] ∧ (-(2 ^ 62) ≤ i ∧ i < 2 ^ 62 ∧ -(2 ^ 62) ≤ j ∧ j < 2 ^ 62) ∧ tFor (fun _ H R => R (Itr i (j - i).toNat) H) g tb D σ H := by
  refine ⟨1, n, rfl, by omega, ?_⟩
  rw [show ((n : Int) - 1).toNat = n - 1 by omega]
  exact for_range (lo := 1) Pv h0 (fun i σ H hi p => by rw [show (1 : Int) + (i : Int) = ((i + 1 : Nat) : Int) by omega]; exact hs i σ H (by omega) p) hd
theorem g_slFromF {α : Type} {K : PySem.W.Frag} {A : Rp α} [Mono A] {H : Hp} {Q : VK} {x : V} {l : List α} {n : Nat} (h : rLst K A H x l) (q : ∀ c H', H c = none → Same H H' → rLst K A H' (.ref c) (l.drop n) → Q (.ref c) H') : rSlL K x (some (n : Int)) none H Q := by
  obtain ⟨p, vs, rfl, hs, hp⟩ := h
  refine ⟨p, vs, rfl, SqL.of hs, fun c hc => ?_⟩
  rw [cut_from]
  exact q _ _ hc (same_new hc) ⟨c, vs.drop n, rfl, upd_same, paired_up (same_new hc) (paired_drop n hp)⟩
theorem lst_last {α : Type} {K : PySem.W.Frag} {A : Rp α} {H : Hp} {p : Addr} {l : List α} (h : rLst K A H (.ref p) l) (hl : l ≠ []) : ∃ vs v s, H p = some (.lst vs) ∧ atI vs (-1) = some v ∧ A H v s ∧ s ∈ l := by
  obtain ⟨p', vs, e', k3, k4⟩ := h
  cases e'
  have hn : vs ≠ [] := fun z => by
    have := k4.length
    rw [z] at this
    exact hl (List.length_eq_zero_iff.mp this.symm)
  have e := List.dropLast_concat_getLast hn
  have hj : vs.length - 1 < vs.length := by
    have := List.length_pos_iff.mpr hn
    omega
  obtain ⟨s, h1, h2⟩ := LiI.paired_get k4 (List.getElem?_eq_getElem hj)
  refine ⟨vs, vs.getLast hn, s, k3, ?_, ?_, List.mem_of_getElem? h1⟩
  · have z := atI_last vs.dropLast (vs.getLast hn)
    rw [e] at z
    exact z
  · rw [List.getLast_eq_getElem]
    exact h2
theorem lst_mem {α : Type} {K : PySem.W.Frag} {A : Rp α} {H : Hp} {p : Addr} {l : List α} (h : rLst K A H (.ref p) l) : ∃ vs, H p = some (.lst vs) ∧ vs.length = l.length ∧ ∀ v ∈ vs, ∃ s ∈ l, A H v s := by
  obtain ⟨p', vs, e', k3, k4⟩ := h
  cases e'
  refine ⟨vs, k3, k4.length, fun v hv => ?_⟩
  obtain ⟨j, hj, e⟩ := List.mem_iff_getElem.mp hv
  obtain ⟨s, h1, h2⟩ := LiI.paired_get k4 (List.getElem?_eq_getElem hj)
  rw [e] at h2
  exact ⟨s, List.mem_of_getElem? h1, h2⟩
end Gr

set_option maxRecDepth 100000
set_option maxHeartbeats 1000000
namespace Gr
open PySem PySem.Spec PyProof.Rows L2
local macro_rules | `(tactic| walk_at "up") => `(tactic| first | with_reducible assumption | ((with_reducible refine' up ?e ?_); (case e => with_reducible assumption); walk_at "up"))
local macro_rules | `(tactic| walk_at "same") => `(tactic| first | with_reducible exact Same.refl _ | with_reducible assumption | ((with_reducible refine' Same.trans ?a ?b); (case b => with_reducible assumption); (case a => walk_at "same")))
local macro_rules | `(tactic| walk_at "nm") => `(tactic| try dsimp only [cxOf, Cx.nox, Cx.wish])
local macro_rules | `(tactic| walk_at "st") => `(tactic| first
  | ((with_reducible refine' g_var ?h ?_); (case h => exact rfl))
  | with_reducible refine' g_c ?_ | with_reducible refine' g_seq ?_ | with_reducible refine' g_asg ?_ | with_reducible refine' g_asgG ?_ | with_reducible refine' g_ret ?_ | with_reducible refine' g_op ?_ | with_reducible refine' g_un ?_ | with_reducible refine' g_call2 ?_ | with_reducible refine' g_call1 ?_ | with_reducible refine' g_call3 ?_ | with_reducible refine' g_call4 ?_ | with_reducible refine' g_call5 ?_
  | with_reducible refine' g_if ?_ | with_reducible refine' g_ifE ?_ | with_reducible refine' g_B ?_ | with_reducible refine' g_test ?_ | with_reducible refine' g_not ?_ | with_reducible refine' g_andV ?_ | with_reducible refine' g_bm ?_ | with_reducible refine' g_drop ?_ | with_reducible refine' g_notV ?_ | with_reducible refine' g_and ?_ | with_reducible refine' g_or ?_ | with_reducible refine' g_tup2 ?_ | with_reducible refine' g_next ?_ | with_reducible refine' g_sl ?_ | with_reducible refine' g_nop ?_ | with_reducible refine' g_part ?_ | with_reducible refine' g_int ?_ | with_reducible refine' g_cb1 ?_ | with_reducible refine' g_cb2 ?_ | with_reducible refine' g_abs ?_ | with_reducible refine' g_max ?_ | with_reducible refine' g_eqI ?_ | with_reducible refine' g_neI ?_ | with_reducible refine' g_lz ?_ | with_reducible refine' g_lcl ?_ | ((with_reducible refine' g_len ?h ?_); (case h => with_reducible assumption)) | with_reducible refine' g_name ?_ | with_reducible refine' g_par ?_ | with_reducible refine' g_ex2 ?_ | with_reducible refine' g_nn0 ?_ | with_reducible refine' g_in0 ?_ | ((with_reducible refine' g_nn1 ?h ?_); (case h => with_reducible assumption)) | ((with_reducible refine' g_in1 ?h ?_); (case h => with_reducible assumption)) | ((with_reducible refine' g_unP ?h (fun _ _ _ _ => ?_)); (case h => with_reducible assumption))
  | ((with_reducible refine' g_ixR0 ?h ?_); (case h => walk_at "up")) | ((with_reducible refine' g_ixR1 ?h ?_); (case h => walk_at "up")) | ((with_reducible refine' g_ixS0 ?h (fun _ _ => ?_)); (case h => walk_at "up")) | ((with_reducible refine' g_ixS1 ?h (fun _ _ => ?_)); (case h => walk_at "up")) | ((with_reducible refine' g_ixL0 ?h (fun _ _ => ?_)); (case h => walk_at "up")) | ((with_reducible refine' g_two0 ?h (fun _ _ => ?_)); (case h => walk_at "up")) | ((with_reducible refine' g_two1 ?h (fun _ _ => ?_)); (case h => walk_at "up")) | ((with_reducible refine' g_ixL1 ?h (fun _ _ => ?_)); (case h => walk_at "up")))
local macro_rules | `(tactic| walk_at "szb") => `(tactic| first
  | with_reducible assumption | with_reducible exact sz_0 | with_reducible exact sz_1
  | ((with_reducible refine' sz_add ?a ?b); (case a => walk_at "szb"); (case b => walk_at "szb")) | ((with_reducible refine' sz_sub ?a ?b); (case a => walk_at "szb"); (case b => walk_at "szb"))
  | ((with_reducible refine' sz_mul ?a ?b); (case a => walk_at "szb"); (case b => walk_at "szb")) | ((with_reducible refine' sz_div ?a ?b); (case a => walk_at "szb"); (case b => walk_at "szb")) | ((with_reducible refine' sz_abs ?a); (case a => walk_at "szb")))
local macro_rules | `(tactic| walk_at "fit") => `(tactic| first | with_reducible assumption | ((refine' Nat.le_trans ?h ?l); (case h => walk_at "szb"); (case l => omega)))
local macro_rules | `(tactic| walk_at "pre") => `(tactic| first | with_reducible exact True.intro | ((with_reducible refine' And.intro ?_ ?_) <;> walk_at "pre") | walk_at "fit")
local macro_rules | `(tactic| walk_at "sp") => `(tactic| first
  | ((with_reducible refine' g_sp2B ?a ?b ?p (fun _ _ => ?_)); (case a => walk_at "up"); (case b => walk_at "up"); (case p => walk_at "pre"))
  | ((with_reducible refine' g_sp2I ?a ?b ?p (fun _ _ => ?_)); (case a => walk_at "up"); (case b => walk_at "up"); (case p => walk_at "pre"))
  | ((with_reducible refine' g_sp2 ?a ?b ?p (fun _ _ _ _ => ?_)); (case a => walk_at "up"); (case b => walk_at "up"); (case p => walk_at "pre"))
  | ((with_reducible refine' g_sp1B ?a ?p (fun _ _ => ?_)); (case a => walk_at "up"); (case p => walk_at "pre"))
  | ((with_reducible refine' g_sp1 ?a ?p (fun _ _ _ _ => ?_)); (case a => walk_at "up"); (case p => walk_at "pre"))
  | ((with_reducible refine' g_sp3B ?a ?b ?c ?p (fun _ _ => ?_)); (case a => walk_at "up"); (case b => walk_at "up"); (case c => walk_at "up"); (case p => walk_at "pre"))
  | ((with_reducible refine' g_sp3 ?a ?b ?c ?p (fun _ _ _ _ => ?_)); (case a => walk_at "up"); (case b => walk_at "up"); (case c => walk_at "up"); (case p => walk_at "pre"))
  | ((with_reducible refine' g_sp4 ?a ?b ?c ?d ?p (fun _ _ _ _ => ?_)); (case a => walk_at "up"); (case b => walk_at "up"); (case c => walk_at "up"); (case d => walk_at "up"); (case p => walk_at "pre"))
  | ((with_reducible refine' g_sp5 ?a ?b ?c ?d ?e ?p (fun _ _ _ _ => ?_)); (case a => walk_at "up"); (case b => walk_at "up"); (case c => walk_at "up"); (case d => walk_at "up"); (case e => walk_at "up"); (case p => walk_at "pre"))
  | with_reducible refine' g_bool ?_ | with_reducible refine' g_addI ?_)
local macro_rules | `(tactic| walk_at "go") => `(tactic| repeat (first | walk_at "st" | walk_at "sp"))
local macro_rules | `(tactic| walk_at "tup") => `(tactic| ((with_reducible refine' g_mkS ?a ?b (fun _ _ _ _ => ?_)); (case a => walk_at "up"); (case b => walk_at "up")))
section
variable {P : Program} {w : World} {K : PySem.W.Frag} {mg : Str → Option Value} {base : Heap}
theorem sc_common : FnScope ["one", "other"] ["one", "other"] (defScope (topS 5)) := ⟨rfl, rfl, rfl, by decide +kernel, rfl, by decide +kernel, by decide +kernel⟩
theorem ok_common (T : Tx K mg) (d : Df K mg "common" (topS 5) ["one", "other"]) : Kn P w K mg base "common" 1 ["one", "other"] spCommon := by
  refine d.kn sc_common (fun vs H Q E h => by obtain ⟨a, b, rfl, _⟩ := h; rfl) (fun f cdv A outer s H vs Q E hr h => ?_)
  obtain ⟨a, b, rfl, q⟩ := h
  refine ⟨_, (pss_cons (ps_par (i := 0) (j := 1) (by rfl) sc_common.nd rfl rfl (by decide) rfl rfl (pa_cons (pe_callB call_absG (by rfl) T.m_abs (by decide +kernel) (pa_cons (pv 0) pa_nil)) (pa_cons (pe_callB call_absG (by rfl) T.m_abs (by decide +kernel) (pa_cons (pv 1) pa_nil)) pa_nil)) (by rfl))
      (pss_cons (ps_while PassesOwn.never (pt_cmpR op_gt (pv 1) pe_int (nomark _)) (pss_one (ps_par (i := 0) (j := 1) (by rfl) sc_common.nd rfl rfl (by decide) rfl rfl (pa_cons (pv 1) (pa_cons (pe_op op_mod (pv 0) (pv 1)) pa_nil)) (by rfl))))
      (pss_one (ps_ret (pv 0))))), ?_⟩
  refine ⟨_, rfl, _, rfl, _, rfl, _, rfl, _, _, rfl, ?_⟩
  have ab : ∀ z : Int, (if z < 0 then -z else z) = (z.natAbs : Int) := fun z => by split <;> omega
  rw [ab a, ab b]
  refine ⟨fun m σ H' => ∃ x y : Nat, σ = [some (.int (x : Int)), some (.int (y : Int))] ∧ m = y ∧ Nat.gcd x y = Int.gcd a b ∧ H' = H, ⟨_, a.natAbs, b.natAbs, rfl, rfl, rfl, rfl⟩, fun m σ H' hW => ?_⟩
  obtain ⟨x, y, rfl, rfl, hg, rfl⟩ := hW
  refine ⟨_, rfl, _, _, rfl, rfl, _, rfl, ite2 (fun e => ?_) (fun e => ?_)⟩
  · have e1 : (0 : Int) < (m : Int) := of_decide_eq_true e
    refine ⟨fun σ' H2 => ∃ x' y' : Nat, σ' = [some (.int (x' : Int)), some (.int (y' : Int))] ∧ y' < m ∧ Nat.gcd x' y' = Int.gcd a b ∧ H2 = H', fun σ' H2 hN => ?_, ?_⟩
    · obtain ⟨x', y', k1, k2, k3, k4⟩ := hN
      exact ⟨y', k2, x', y', k1, rfl, k3, k4⟩
    · refine ⟨_, rfl, _, rfl, _, rfl, _, _, rfl, rfl, e1, _, _, rfl, ?_⟩
      refine ⟨m, x % m, rfl, Nat.mod_lt _ (by omega), ?_, rfl⟩
      rw [← hg, Nat.gcd_comm x m, Nat.gcd_rec m x, Nat.gcd_comm]
  · have e1 : ¬ (0 : Int) < (m : Int) := fun z => e (decide_eq_true z)
    have e2 : m = 0 := by omega
    subst e2
    refine ⟨_, rfl, ?_⟩
    rw [Nat.gcd_zero_right] at hg
    rw [hg]
    exact q
theorem sc_ratio : FnScope ["over", "under", "part"] ["over", "under"] (defScope (topS 6)) := ⟨rfl, rfl, rfl, by decide +kernel, rfl, by decide +kernel, by decide +kernel⟩
theorem ok_ratio (T : Tx K mg) (d : Df K mg "ratio" (topS 6) ["over", "under"]) (n_common : Kn P w K mg base "common" 1 ["one", "other"] spCommon) : Kn P w K mg base "ratio" 2 ["over", "under"] (spRatio K) := by
  refine d.kn sc_ratio (fun vs H Q E h => by obtain ⟨a, b, rfl, _⟩ := h; rfl) (fun f cdv A outer s H vs Q E hr h => ?_)
  obtain ⟨n, dd, rfl, hd, hb, q⟩ := h
  refine ⟨_, (pss_cons (ps_if (pt_cmpR op_eq (pv 1) pe_int (nomark _)) (pss_one ps_never) pss_nil)
      (pss_cons (ps_set (i := 2) sc_ratio.nd rfl (.inl rfl) (pk n_common hr (by decide) (by rfl) (pa_cons (pv 0) (pa_cons (pv 1) pa_nil))))
      (pss_cons (ps_if (pt_cmpR op_lt (pv 1) pe_int (nomark _)) (pss_one (ps_set (i := 2) sc_ratio.nd rfl (.inl rfl) (pe_un un_neg (pv 2)))) pss_nil)
      (pss_one (ps_ret (pe_tup (pa_cons (pe_op op_fdivZ (pv 0) (pv 2)) (pa_cons (pe_op op_fdivZ (pv 1) (pv 2)) pa_nil)))))))), ?_⟩
  refine ⟨_, rfl, rfl, _, rfl, ite2 (fun e => absurd (V.int.inj (of_decide_eq_true e)) hd) (fun _ => ?_)⟩
  refine ⟨_, rfl, _, rfl, _, _, rfl, ?_⟩
  have p0 : part n dd ≠ 0 := part_ne hd
  have pb : (part n dd).natAbs < 2 ^ 9000 := Nat.lt_of_le_of_lt (part_le hd) hb
  have fin : ∀ σ : L2.St, σ[0]? = some (some (.int n)) → σ[1]? = some (some (.int dd)) → σ[2]? = some (some (.int (part n dd))) → tRet (tTup (tCons (tOp (rI CDivZ fun i j => .int (i.fdiv j)) (tVar 0) (tVar 2)) (tCons (tOp (rI CDivZ fun i j => .int (i.fdiv j)) (tVar 1) (tVar 2)) tNil))) { nx := fun _ H' => Q .non H', rt := Q } σ H := by
    intro σ e0 e1 e2
    refine ⟨_, e0, _, e2, _, _, rfl, rfl, fdivZ_of p0 pb (by decide) (by decide), _, e1, _, e2, _, _, rfl, rfl, fdivZ_of p0 pb (by decide) (by decide), by show 2 ≤ sizeLine; decide, ?_⟩
    exact g_mkR (num_part hd) (den_part hd) q
  refine ⟨_, rfl, _, _, rfl, rfl, _, rfl, ite2 (fun e => ?_) (fun e => ?_)⟩
  · have e1 : dd < 0 := of_decide_eq_true e
    refine ⟨_, rfl, _, rfl, ?_⟩
    refine fin _ rfl rfl ?_
    show some (some (V.int (-(Int.gcd n dd : Int)))) = _
    unfold part
    rw [if_pos e1]
  · have e1 : ¬ dd < 0 := fun z => e (decide_eq_true z)
    refine fin _ rfl rfl ?_
    show some (some (V.int ((Int.gcd n dd : Int)))) = _
    unfold part
    rw [if_neg e1]
theorem sc_plus : FnScope ["one", "other"] ["one", "other"] (defScope (topS 7)) := ⟨rfl, rfl, rfl, by decide +kernel, rfl, by decide +kernel, by decide +kernel⟩
theorem ok_plus (T : Tx K mg) (d : Df K mg "plus" (topS 7) ["one", "other"]) (n_ratio : Kn P w K mg base "ratio" 2 ["over", "under"] (spRatio K)) : Kn P w K mg base "plus" 3 ["one", "other"] (spR2 K (· + ·)) := by
  refine d.kn sc_plus len2 (fun f cdv A outer s H vs Q E hr h => ?_)
  obtain ⟨x, y, a, b, rfl, hx, hy, ⟨ha, hb⟩, q⟩ := h
  refine ⟨_, (pss_one (ps_ret (pk n_ratio hr (by decide) (by rfl) (pa_cons (pe_op op_add (pe_op op_mulW (pe_ix (r := rIxT K) ix_tup (pv 0) pe_int (fun _ _ => rfl)) (pe_ix (r := rIxT K) ix_tup (pv 1) pe_int (fun _ _ => rfl))) (pe_op op_mulW (pe_ix (r := rIxT K) ix_tup (pv 1) pe_int (fun _ _ => rfl)) (pe_ix (r := rIxT K) ix_tup (pv 0) pe_int (fun _ _ => rfl)))) (pa_cons (pe_op op_mulW (pe_ix (r := rIxT K) ix_tup (pv 0) pe_int (fun _ _ => rfl)) (pe_ix (r := rIxT K) ix_tup (pv 1) pe_int (fun _ _ => rfl))) pa_nil))))), ?_⟩
  walk_at "nm"
  repeat walk_at "st"
  refine ⟨_, _, rfl, rfl, wnd ha hb, ?_⟩
  repeat walk_at "st"
  refine ⟨_, _, rfl, rfl, wnd hb ha, ?_⟩
  refine ⟨_, _, rfl, rfl, ?_⟩
  repeat walk_at "st"
  refine ⟨_, _, rfl, rfl, wdd ha hb, _, _, rfl, dd_ne a b, dd_lt ha hb, ?_⟩
  rw [add_eq]
  exact q
theorem sc_minus : FnScope ["one", "other"] ["one", "other"] (defScope (topS 8)) := ⟨rfl, rfl, rfl, by decide +kernel, rfl, by decide +kernel, by decide +kernel⟩
theorem ok_minus (T : Tx K mg) (d : Df K mg "minus" (topS 8) ["one", "other"]) (n_ratio : Kn P w K mg base "ratio" 2 ["over", "under"] (spRatio K)) : Kn P w K mg base "minus" 3 ["one", "other"] (spR2 K (· - ·)) := by
  refine d.kn sc_minus len2 (fun f cdv A outer s H vs Q E hr h => ?_)
  obtain ⟨x, y, a, b, rfl, hx, hy, ⟨ha, hb⟩, q⟩ := h
  refine ⟨_, (pss_one (ps_ret (pk n_ratio hr (by decide) (by rfl) (pa_cons (pe_op op_sub (pe_op op_mulW (pe_ix (r := rIxT K) ix_tup (pv 0) pe_int (fun _ _ => rfl)) (pe_ix (r := rIxT K) ix_tup (pv 1) pe_int (fun _ _ => rfl))) (pe_op op_mulW (pe_ix (r := rIxT K) ix_tup (pv 1) pe_int (fun _ _ => rfl)) (pe_ix (r := rIxT K) ix_tup (pv 0) pe_int (fun _ _ => rfl)))) (pa_cons (pe_op op_mulW (pe_ix (r := rIxT K) ix_tup (pv 0) pe_int (fun _ _ => rfl)) (pe_ix (r := rIxT K) ix_tup (pv 1) pe_int (fun _ _ => rfl))) pa_nil))))), ?_⟩
  walk_at "nm"
  repeat walk_at "st"
  refine ⟨_, _, rfl, rfl, wnd ha hb, ?_⟩
  repeat walk_at "st"
  refine ⟨_, _, rfl, rfl, wnd hb ha, ?_⟩
  refine ⟨_, _, rfl, rfl, ?_⟩
  repeat walk_at "st"
  refine ⟨_, _, rfl, rfl, wdd ha hb, _, _, rfl, dd_ne a b, dd_lt ha hb, ?_⟩
  rw [sub_eq]
  exact q
theorem sc_times : FnScope ["one", "other"] ["one", "other"] (defScope (topS 9)) := ⟨rfl, rfl, rfl, by decide +kernel, rfl, by decide +kernel, by decide +kernel⟩
theorem ok_times (T : Tx K mg) (d : Df K mg "times" (topS 9) ["one", "other"]) (n_ratio : Kn P w K mg base "ratio" 2 ["over", "under"] (spRatio K)) : Kn P w K mg base "times" 3 ["one", "other"] (spR2 K (· * ·)) := by
  refine d.kn sc_times len2 (fun f cdv A outer s H vs Q E hr h => ?_)
  obtain ⟨x, y, a, b, rfl, hx, hy, ⟨ha, hb⟩, q⟩ := h
  refine ⟨_, (pss_one (ps_ret (pk n_ratio hr (by decide) (by rfl) (pa_cons (pe_op op_mulW (pe_ix (r := rIxT K) ix_tup (pv 0) pe_int (fun _ _ => rfl)) (pe_ix (r := rIxT K) ix_tup (pv 1) pe_int (fun _ _ => rfl))) (pa_cons (pe_op op_mulW (pe_ix (r := rIxT K) ix_tup (pv 0) pe_int (fun _ _ => rfl)) (pe_ix (r := rIxT K) ix_tup (pv 1) pe_int (fun _ _ => rfl))) pa_nil))))), ?_⟩
  walk_at "nm"
  repeat walk_at "st"
  refine ⟨_, _, rfl, rfl, wnn ha hb, ?_⟩
  repeat walk_at "st"
  refine ⟨_, _, rfl, rfl, wdd ha hb, _, _, rfl, dd_ne a b, dd_lt ha hb, ?_⟩
  rw [mul_eq]
  exact q
theorem sc_divided : FnScope ["one", "other"] ["one", "other"] (defScope (topS 10)) := ⟨rfl, rfl, rfl, by decide +kernel, rfl, by decide +kernel, by decide +kernel⟩
theorem ok_divided (T : Tx K mg) (d : Df K mg "divided" (topS 10) ["one", "other"]) (n_ratio : Kn P w K mg base "ratio" 2 ["over", "under"] (spRatio K)) : Kn P w K mg base "divided" 3 ["one", "other"] (spDiv K) := by
  refine d.kn sc_divided len2 (fun f cdv A outer s H vs Q E hr h => ?_)
  obtain ⟨x, y, a, b, rfl, hx, hy, ⟨h0, ha, hb⟩, q⟩ := h
  refine ⟨_, (pss_cons (ps_if (pt_cmpR op_eq (pe_ix (r := rIxT K) ix_tup (pv 1) pe_int (fun _ _ => rfl)) pe_int (nomark _)) (pss_one ps_never) pss_nil)
      (pss_one (ps_ret (pk n_ratio hr (by decide) (by rfl) (pa_cons (pe_op op_mulW (pe_ix (r := rIxT K) ix_tup (pv 0) pe_int (fun _ _ => rfl)) (pe_ix (r := rIxT K) ix_tup (pv 1) pe_int (fun _ _ => rfl))) (pa_cons (pe_op op_mulW (pe_ix (r := rIxT K) ix_tup (pv 0) pe_int (fun _ _ => rfl)) (pe_ix (r := rIxT K) ix_tup (pv 1) pe_int (fun _ _ => rfl))) pa_nil)))))), ?_⟩
  walk_at "nm"
  walk_at "go"
  refine ite2 (fun e => absurd (of_decide_eq_true e) (num_ne h0)) (fun _ => ?_)
  repeat walk_at "st"
  refine ⟨_, _, rfl, rfl, wnd ha hb, ?_⟩
  repeat walk_at "st"
  refine ⟨_, _, rfl, rfl, wdn ha hb, _, _, rfl, Int.mul_ne_zero (den_ne a) (num_ne h0), dn_lt ha hb, ?_⟩
  rw [div_eq]
  exact q
theorem sc_order : FnScope ["one", "other", "away"] ["one", "other"] (defScope (topS 11)) := ⟨rfl, rfl, rfl, by decide +kernel, rfl, by decide +kernel, by decide +kernel⟩
theorem ok_order (T : Tx K mg) (d : Df K mg "order" (topS 11) ["one", "other"]) : Kn P w K mg base "order" 1 ["one", "other"] (spOrd K) := by
  refine d.kn sc_order len2 (fun f cdv A outer s H vs Q E hr h => ?_)
  obtain ⟨x, y, a, b, rfl, hx, hy, ⟨ha, hb⟩, q⟩ := h
  refine ⟨_, (pss_cons (ps_set (i := 2) sc_order.nd rfl (.inl rfl) (pe_op op_sub (pe_op op_mulW (pe_ix (r := rIxT K) ix_tup (pv 0) pe_int (fun _ _ => rfl)) (pe_ix (r := rIxT K) ix_tup (pv 1) pe_int (fun _ _ => rfl))) (pe_op op_mulW (pe_ix (r := rIxT K) ix_tup (pv 1) pe_int (fun _ _ => rfl)) (pe_ix (r := rIxT K) ix_tup (pv 0) pe_int (fun _ _ => rfl)))))
      (pss_cons (ps_if (pt_cmpR op_eq (pv 2) pe_int (nomark _)) (pss_one (ps_ret pe_int)) pss_nil)
      (pss_one (ps_ret (pe_ifExp (pt_cmpR op_gt (pv 2) pe_int (nomark _)) pe_int (pe_un un_neg pe_int)))))), ?_⟩
  walk_at "nm"
  walk_at "go"
  refine ⟨_, _, rfl, rfl, wnd ha hb, ?_⟩
  walk_at "go"
  refine ⟨_, _, rfl, rfl, wnd hb ha, ?_⟩
  walk_at "go"
  refine ite2 (fun e => ?_) (fun e => ?_)
  · have e0 : a.num * b.den - b.num * a.den = 0 := of_decide_eq_true e
    have e1 : a = b := by
      have h1 := (le_num a b).mp (by omega)
      have h2 := (le_num b a).mp (by omega)
      exact Rat.le_antisymm h1 h2
    refine q _ _ (Same.refl _) ?_
    unfold ordOf
    rw [if_pos e1]
    exact rfl
  · have e0 : ¬ a.num * b.den - b.num * a.den = 0 := fun z => e (decide_eq_true z)
    have e1 : ¬ a = b := fun z => by
      subst z
      omega
    walk_at "go"
    refine ite2 (fun e => ?_) (fun e => ?_)
    · have e2 : b < a := (lt_num b a).mp (by have := of_decide_eq_true e; omega)
      refine q _ _ (Same.refl _) ?_
      unfold ordOf
      rw [if_neg e1, if_pos e2]
      exact rfl
    · have e2 : ¬ b < a := fun z => e (decide_eq_true (by have := (lt_num b a).mpr z; omega))
      refine ⟨_, rfl, q _ _ (Same.refl _) ?_⟩
      unfold ordOf
      rw [if_neg e1, if_neg e2]
      exact rfl
theorem sc_less : FnScope ["one", "other"] ["one", "other"] (defScope (topS 12)) := ⟨rfl, rfl, rfl, by decide +kernel, rfl, by decide +kernel, by decide +kernel⟩
theorem ok_less (T : Tx K mg) (d : Df K mg "less" (topS 12) ["one", "other"]) (n_order : Kn P w K mg base "order" 1 ["one", "other"] (spOrd K)) : Kn P w K mg base "less" 2 ["one", "other"] (spLess K) := by
  refine d.kn sc_less len2 (fun f cdv A outer s H vs Q E hr h => ?_)
  obtain ⟨x, y, a, b, rfl, hx, hy, ⟨ha, hb⟩, q⟩ := h
  refine ⟨_, (pss_one (ps_ret (pe_cmpR op_lt (pk n_order hr (by decide) (by rfl) (pa_cons (pv 0) (pa_cons (pv 1) pa_nil))) pe_int (nomark _)))), ?_⟩
  walk_at "nm"
  walk_at "go"
  refine q _ _ (by walk_at "same") ?_
  have e : decide (ordOf a b < 0) = decide (a < b) := decide_eq_decide.mpr (ord_lt a b)
  rw [e]
  exact rfl
theorem sc_size : FnScope ["one"] ["one"] (defScope (topS 13)) := ⟨rfl, rfl, rfl, by decide +kernel, rfl, by decide +kernel, by decide +kernel⟩
theorem ok_size (T : Tx K mg) (d : Df K mg "size" (topS 13) ["one"]) : Kn P w K mg base "size" 1 ["one"] (spSize K) := by
  refine d.kn sc_size len1 (fun f cdv A outer s H vs Q E hr h => ?_)
  obtain ⟨x, a, rfl, hx, _, q⟩ := h
  refine ⟨_, (pss_one (ps_ret (pe_tup (pa_cons (pe_callB call_absG (by rfl) T.m_abs (by decide +kernel) (pa_cons (pe_ix (r := rIxT K) ix_tup (pv 0) pe_int (fun _ _ => rfl)) pa_nil)) (pa_cons (pe_ix (r := rIxT K) ix_tup (pv 0) pe_int (fun _ _ => rfl)) pa_nil))))), ?_⟩
  walk_at "nm"
  walk_at "go"
  exact g_mkR (abs_num a).symm (by rw [abs_den]) q
theorem sc_least : FnScope ["some", "found", "others", "one"] ["some"] (defScope (topS 14)) := ⟨rfl, rfl, rfl, by decide +kernel, rfl, by decide +kernel, by decide +kernel⟩
theorem ok_least (T : Tx K mg) (d : Df K mg "least" (topS 14) ["some"]) (n_less : Kn P w K mg base "less" 2 ["one", "other"] (spLess K)) : Kn P w K mg base "least" 3 ["some"] (spLeast K) := by
  refine d.kn sc_least (fun vs H Q E h => by obtain ⟨a, b, c, rfl, _⟩ := h; rfl) (fun f cdv A outer s H vs Q E hr h => ?_)
  obtain ⟨x, z, zs, rfl, hx, hf, hl, q⟩ := h
  refine ⟨_, (pss_cons (ps_asg (pv 0) (pg_star rfl (pg_name (i := 1) sc_least.nd rfl (.inl rfl)) (pg_name (i := 2) sc_least.nd rfl (.inl rfl))))
      (pss_cons (ps_for PassesOwn.never rfl (pi_list (pv 2)) (pg_name (i := 3) sc_least.nd rfl (.inl rfl)) (pss_one (ps_if (pt_val (pk n_less hr (by decide) (by rfl) (pa_cons (pv 3) (pa_cons (pv 1) pa_nil)))) (pss_one (ps_set (i := 1) sc_least.nd rfl (.inl rfl) (pv 3))) pss_nil)))
      (pss_one (ps_ret (pv 1))))), ?_⟩
  walk_at "nm"
  obtain ⟨p, vs, rfl, hS, hP⟩ := hx
  cases hP with
  | @cons v0 _ vr _ h0 hr' =>
    have lr := hr'.length
    refine ⟨_, rfl, p, v0, vr, rfl, SqL.of hS, by omega, fun D hD => ?_⟩
    have e1 : Same H (upd H D (.lst vr)) := same_new hD
    have hL : ∀ H', Same (upd H D (.lst vr)) H' → SqL K H' D vr := fun H' e => e.seq (SqL.of upd_same)
    refine ⟨_, rfl, D, rfl, ⟨_, hL _ (Same.refl _)⟩, for_list (xs := vr) (fun i σ' H' => ∃ v1 r x3, σ' = [some (.ref p), some v1, some (.ref D), x3] ∧ Same (upd H D (.lst vr)) H' ∧ r ∈ z :: zs ∧ rRat K H' v1 r)
      ⟨v0, z, none, rfl, Same.refl _, List.mem_cons_self, up e1 h0⟩ (fun i σ' H' _ hW => by obtain ⟨_, _, _, _, e, _⟩ := hW; exact hL _ e) (fun i x σ' H' hi hW => ?_) (fun σ' H' hW => ?_)⟩
    · obtain ⟨v1, r, x3, rfl, e2, hr2, hv1⟩ := hW
      obtain ⟨y, hy1, hy2⟩ := LiI.paired_get hr' hi
      have hy3 := up (e1.trans e2) hy2
      have hm : y ∈ z :: zs := List.mem_cons_of_mem _ (List.mem_of_getElem? hy1)
      have f1 := hf y hm
      have f2 := hf r hr2
      show tIfS _ _ _ _ _ _
      walk_at "go"
      refine ite2 (fun e => ?_) (fun e => ?_)
      · walk_at "go"
        exact ⟨x, y, some x, rfl, e2.trans (by walk_at "same"), hm, by walk_at "up"⟩
      · exact ⟨v1, r, some x, rfl, e2.trans (by walk_at "same"), hr2, by walk_at "up"⟩
    · obtain ⟨v1, r, x3, rfl, e2, hr2, hv1⟩ := hW
      refine ⟨_, rfl, q _ _ _ (e1.trans e2) hr2 hv1⟩
theorem sc_apart_of : FnScope ["one", "other", "across", "up"] ["one", "other"] (defScope (topS 15)) := ⟨rfl, rfl, rfl, by decide +kernel, rfl, by decide +kernel, by decide +kernel⟩
theorem ok_apart_of (T : Tx K mg) (d : Df K mg "apart_of" (topS 15) ["one", "other"]) (n_less : Kn P w K mg base "less" 2 ["one", "other"] (spLess K)) (n_minus : Kn P w K mg base "minus" 3 ["one", "other"] (spR2 K (· - ·))) (n_size : Kn P w K mg base "size" 1 ["one"] (spSize K)) :
    Kn P w K mg base "apart_of" 4 ["one", "other"] (spApartOf K) := by
  refine d.kn sc_apart_of len2 (fun f cdv A outer s H vs Q E hr h => ?_)
  obtain ⟨x, y, a, b, rfl, hx, hy, ⟨⟨ha1, ha2⟩, hb1, hb2⟩, q⟩ := h
  refine ⟨_, (pss_cons (ps_set (i := 2) sc_apart_of.nd rfl (.inl rfl) (pk n_size hr (by decide) (by rfl) (pa_cons (pk n_minus hr (by decide) (by rfl) (pa_cons (pe_ix (r := rIxT K) ix_tup (pv 0) pe_int (fun _ _ => rfl)) (pa_cons (pe_ix (r := rIxT K) ix_tup (pv 1) pe_int (fun _ _ => rfl)) pa_nil))) pa_nil)))
      (pss_cons (ps_set (i := 3) sc_apart_of.nd rfl (.inl rfl) (pk n_size hr (by decide) (by rfl) (pa_cons (pk n_minus hr (by decide) (by rfl) (pa_cons (pe_ix (r := rIxT K) ix_tup (pv 0) pe_int (fun _ _ => rfl)) (pa_cons (pe_ix (r := rIxT K) ix_tup (pv 1) pe_int (fun _ _ => rfl)) pa_nil))) pa_nil)))
      (pss_one (ps_ret (pe_ifExp (pt_val (pk n_less hr (by decide) (by rfl) (pa_cons (pv 2) (pa_cons (pv 3) pa_nil)))) (pv 3) (pv 2)))))), ?_⟩
  walk_at "nm"
  walk_at "go"
  refine ite2 (fun e => ?_) (fun e => ?_)
  · walk_at "go"
    refine q _ _ (by walk_at "same") ?_
    unfold apartOf
    rw [if_pos (of_decide_eq_true e)]
    walk_at "up"
  · walk_at "go"
    refine q _ _ (by walk_at "same") ?_
    unfold apartOf
    rw [if_neg (fun z => e (decide_eq_true z))]
    walk_at "up"
theorem sc_on_way : FnScope ["one", "other", "share", "x", "y"] ["one", "other", "share"] (defScope (topS 16)) := ⟨rfl, rfl, rfl, by decide +kernel, rfl, by decide +kernel, by decide +kernel⟩
theorem ok_on_way (T : Tx K mg) (d : Df K mg "on_way" (topS 16) ["one", "other", "share"]) (n_plus : Kn P w K mg base "plus" 3 ["one", "other"] (spR2 K (· + ·))) (n_minus : Kn P w K mg base "minus" 3 ["one", "other"] (spR2 K (· - ·))) (n_times : Kn P w K mg base "times" 3 ["one", "other"] (spR2 K (· * ·))) :
    Kn P w K mg base "on_way" 4 ["one", "other", "share"] (spOnWay K) := by
  refine d.kn sc_on_way len3 (fun f cdv A outer s H vs Q E hr h => ?_)
  obtain ⟨x, y, z, a, b, t, rfl, hx, hy, hz, ⟨⟨ha1, ha2⟩, ⟨hb1, hb2⟩, ht⟩, q⟩ := h
  refine ⟨_, (pss_cons (ps_set (i := 3) sc_on_way.nd rfl (.inl rfl) (pk n_plus hr (by decide) (by rfl) (pa_cons (pe_ix (r := rIxT K) ix_tup (pv 0) pe_int (fun _ _ => rfl)) (pa_cons (pk n_times hr (by decide) (by rfl) (pa_cons (pv 2) (pa_cons (pk n_minus hr (by decide) (by rfl) (pa_cons (pe_ix (r := rIxT K) ix_tup (pv 1) pe_int (fun _ _ => rfl)) (pa_cons (pe_ix (r := rIxT K) ix_tup (pv 0) pe_int (fun _ _ => rfl)) pa_nil))) pa_nil))) pa_nil))))
      (pss_cons (ps_set (i := 4) sc_on_way.nd rfl (.inl rfl) (pk n_plus hr (by decide) (by rfl) (pa_cons (pe_ix (r := rIxT K) ix_tup (pv 0) pe_int (fun _ _ => rfl)) (pa_cons (pk n_times hr (by decide) (by rfl) (pa_cons (pv 2) (pa_cons (pk n_minus hr (by decide) (by rfl) (pa_cons (pe_ix (r := rIxT K) ix_tup (pv 1) pe_int (fun _ _ => rfl)) (pa_cons (pe_ix (r := rIxT K) ix_tup (pv 0) pe_int (fun _ _ => rfl)) pa_nil))) pa_nil))) pa_nil))))
      (pss_one (ps_ret (pe_tup (pa_cons (pv 3) (pa_cons (pv 4) pa_nil))))))), ?_⟩
  walk_at "nm"
  walk_at "go"
  walk_at "tup"
  refine q _ _ (by walk_at "same") ?_
  assumption
theorem sc_crossings : FnScope ["start", "far"] ["start", "far"] (defScope (topS 19)) := ⟨rfl, rfl, rfl, by decide +kernel, rfl, by decide +kernel, by decide +kernel⟩
theorem ok_crossings (T : Tx K mg) (d : Df K mg "crossings" (topS 19) ["start", "far"]) (n_minus : Kn P w K mg base "minus" 3 ["one", "other"] (spR2 K (· - ·))) (n_divided : Kn P w K mg base "divided" 3 ["one", "other"] (spDiv K)) :
    Kn P w K mg base "crossings" 4 ["start", "far"] (spCross K) := by
  refine d.kn sc_crossings len2 (fun f cdv A outer s H vs Q E hr h => ?_)
  obtain ⟨x, y, a, b, rfl, hx, hy, ⟨ha, hb⟩, q⟩ := h
  obtain ⟨aN, gN, rN⟩ := T.nought
  have rN0 := rN H
  refine ⟨_, (pss_cons (ps_if (pt_cmpR (op_eqD hr.units) (pv 1) (pe_glob (v := V.ref _) (by rfl) gN rfl) (nomark _)) (pss_one (ps_ret (pe_lst pa_nil))) pss_nil)
      (pss_one (ps_ret (pe_lst (pa_cons (pk n_divided hr (by decide) (by rfl) (pa_cons (pk n_minus hr (by decide) (by rfl) (pa_cons (pe_glob (v := V.ref _) (by rfl) gN rfl) (pa_cons (pv 0) pa_nil))) (pa_cons (pv 1) pa_nil))) pa_nil))))), ?_⟩
  walk_at "nm"
  walk_at "go"
  refine g_eqR hy rN0 ?_
  walk_at "go"
  refine ite2 (fun e => ?_) (fun e => ?_)
  · have e1 : b = 0 := of_decide_eq_true e
    walk_at "go"
    refine g_lst0 (K := K) (g_mkL0 (K := K) (A := rRat K) fun H' v e2 h2 => q _ _ e2 ?_)
    unfold crossOf
    rw [if_pos e1]
    exact h2
  · have e1 : ¬ b = 0 := fun z => e (decide_eq_true z)
    walk_at "go"
    refine g_lst1 ?_
    walk_at "go"
    refine g_mkL1 (K := K) (A := rRat K) (by walk_at "up") fun H' v e2 h2 => q _ _ (Same.trans (by walk_at "same") e2) ?_
    unfold crossOf
    rw [if_neg e1]
    exact h2
theorem sc_sorted_two : FnScope ["one", "other"] ["one", "other"] (defScope (topS 25)) := ⟨rfl, rfl, rfl, by decide +kernel, rfl, by decide +kernel, by decide +kernel⟩
theorem ok_sorted_two (T : Tx K mg) (d : Df K mg "sorted_two" (topS 25) ["one", "other"]) (n_less : Kn P w K mg base "less" 2 ["one", "other"] (spLess K)) : Kn P w K mg base "sorted_two" 3 ["one", "other"] (spSorted K) := by
  refine d.kn sc_sorted_two len2 (fun f cdv A outer s H vs Q E hr h => ?_)
  obtain ⟨x, y, a, b, rfl, hx, hy, ⟨ha, hb⟩, q⟩ := h
  refine ⟨_, (pss_one (ps_ret (pe_ifExp (pt_val (pk n_less hr (by decide) (by rfl) (pa_cons (pv 1) (pa_cons (pv 0) pa_nil)))) (pe_tup (pa_cons (pv 1) (pa_cons (pv 0) pa_nil))) (pe_tup (pa_cons (pv 0) (pa_cons (pv 1) pa_nil)))))), ?_⟩
  walk_at "nm"
  walk_at "go"
  refine ite2 (fun e => ?_) (fun e => ?_)
  · walk_at "go"
    walk_at "tup"
    refine q _ _ (by walk_at "same") ?_
    unfold sortedTwo
    rw [if_pos (of_decide_eq_true e)]
    assumption
  · walk_at "go"
    walk_at "tup"
    refine q _ _ (by walk_at "same") ?_
    unfold sortedTwo
    rw [if_neg (fun z => e (decide_eq_true z))]
    assumption
theorem sc_lean : FnScope ["x", "y", "c", "spot"] ["x", "y", "c", "spot"] (defScope (topS 26)) := ⟨rfl, rfl, rfl, by decide +kernel, rfl, by decide +kernel, by decide +kernel⟩
theorem ok_lean (T : Tx K mg) (d : Df K mg "lean" (topS 26) ["x", "y", "c", "spot"]) (n_minus : Kn P w K mg base "minus" 3 ["one", "other"] (spR2 K (· - ·))) (n_times : Kn P w K mg base "times" 3 ["one", "other"] (spR2 K (· * ·))) : Kn P w K mg base "lean" 4 ["x", "y", "c", "spot"] (spLean K) := by
  refine d.kn sc_lean len4 (fun f cdv A outer s H vs Q E hr h => ?_)
  obtain ⟨x, y, z, u, a, b, c, p, rfl, hx, hy, hz, hu, ⟨ha, hb, ⟨hc1, hc2⟩, hp1, hp2⟩, q⟩ := h
  refine ⟨_, (pss_one (ps_ret (pk n_minus hr (by decide) (by rfl) (pa_cons (pk n_times hr (by decide) (by rfl) (pa_cons (pv 0) (pa_cons (pk n_minus hr (by decide) (by rfl) (pa_cons (pe_ix (r := rIxT K) ix_tup (pv 3) pe_int (fun _ _ => rfl)) (pa_cons (pe_ix (r := rIxT K) ix_tup (pv 2) pe_int (fun _ _ => rfl)) pa_nil))) pa_nil))) (pa_cons (pk n_times hr (by decide) (by rfl) (pa_cons (pv 1) (pa_cons (pk n_minus hr (by decide) (by rfl) (pa_cons (pe_ix (r := rIxT K) ix_tup (pv 3) pe_int (fun _ _ => rfl)) (pa_cons (pe_ix (r := rIxT K) ix_tup (pv 2) pe_int (fun _ _ => rfl)) pa_nil))) pa_nil))) pa_nil))))), ?_⟩
  walk_at "nm"
  walk_at "go"
  refine q _ _ (by walk_at "same") ?_
  assumption
theorem sc_narrowed : FnScope ["span", "start", "far", "low", "high", "first", "last", "ends"] ["span", "start", "far", "low", "high"] (defScope (topS 23)) := ⟨rfl, rfl, rfl, by decide +kernel, rfl, by decide +kernel, by decide +kernel⟩
theorem ok_narrowed (T : Tx K mg) (d : Df K mg "narrowed" (topS 23) ["span", "start", "far", "low", "high"]) (n_less : Kn P w K mg base "less" 2 ["one", "other"] (spLess K)) (n_minus : Kn P w K mg base "minus" 3 ["one", "other"] (spR2 K (· - ·))) (n_divided : Kn P w K mg base "divided" 3 ["one", "other"] (spDiv K)) :
    Kn P w K mg base "narrowed" 4 ["span", "start", "far", "low", "high"] (spNarrow K) := by
  refine d.kn sc_narrowed len5 (fun f cdv A outer s H vs Q E hr h => ?_)
  obtain ⟨x1, x2, x3, x4, x5, span, start, far, low, high, rfl, k1, k2, k3, k4, k5, ⟨⟨z1, z1'⟩, z2, z3, z4, z5⟩, q⟩ := h
  obtain ⟨aN, gN, rN⟩ := T.nought
  have rN0 := rN H
  refine ⟨_, (pss_cons (ps_asg (pv 0) (pg_tup (n := 2) rfl (pgs_cons (pg_name (i := 5) sc_narrowed.nd rfl (.inl rfl)) (pgs_cons (pg_name (i := 6) sc_narrowed.nd rfl (.inl rfl)) pgs_nil))))
      (pss_cons (ps_if (pt_cmpR (op_eqD hr.units) (pv 2) (pe_glob (v := V.ref _) (by rfl) gN rfl) (nomark _)) (pss_one (ps_ret (pe_ifExp (PW.pt (pw_or (pt_val (pk n_less hr (by decide) (by rfl) (pa_cons (pv 1) (pa_cons (pv 3) pa_nil)))) (pw_or1 (pt_val (pk n_less hr (by decide) (by rfl) (pa_cons (pv 4) (pa_cons (pv 1) pa_nil))))))) pe_non (pv 0)))) pss_nil)
      (pss_cons (ps_set (i := 7) sc_narrowed.nd rfl (.inl rfl) (pe_lst (pa_cons (pk n_divided hr (by decide) (by rfl) (pa_cons (pk n_minus hr (by decide) (by rfl) (pa_cons (pv 3) (pa_cons (pv 1) pa_nil))) (pa_cons (pv 2) pa_nil))) (pa_cons (pk n_divided hr (by decide) (by rfl) (pa_cons (pk n_minus hr (by decide) (by rfl) (pa_cons (pv 4) (pa_cons (pv 1) pa_nil))) (pa_cons (pv 2) pa_nil))) pa_nil))))
      (pss_cons (ps_if (pt_val (pk n_less hr (by decide) (by rfl) (pa_cons (pe_ix (r := rIxL K) ix_list (pv 7) pe_int (fun _ _ => rfl)) (pa_cons (pe_ix (r := rIxL K) ix_list (pv 7) pe_int (fun _ _ => rfl)) pa_nil)))) (pss_one (ps_set (i := 7) sc_narrowed.nd rfl (.inl rfl) (pe_revL (pv 7)))) pss_nil)
      (pss_cons (ps_set (i := 5) sc_narrowed.nd rfl (.inl rfl) (pe_ifExp (pt_val (pk n_less hr (by decide) (by rfl) (pa_cons (pv 5) (pa_cons (pe_ix (r := rIxL K) ix_list (pv 7) pe_int (fun _ _ => rfl)) pa_nil)))) (pe_ix (r := rIxL K) ix_list (pv 7) pe_int (fun _ _ => rfl)) (pv 5)))
      (pss_cons (ps_set (i := 6) sc_narrowed.nd rfl (.inl rfl) (pe_ifExp (pt_val (pk n_less hr (by decide) (by rfl) (pa_cons (pe_ix (r := rIxL K) ix_list (pv 7) pe_int (fun _ _ => rfl)) (pa_cons (pv 6) pa_nil)))) (pe_ix (r := rIxL K) ix_list (pv 7) pe_int (fun _ _ => rfl)) (pv 6)))
      (pss_one (ps_ret (pe_ifExp (pt_val (pk n_less hr (by decide) (by rfl) (pa_cons (pv 6) (pa_cons (pv 5) pa_nil)))) pe_non (pe_tup (pa_cons (pv 5) (pa_cons (pv 6) pa_nil)))))))))))), ?_⟩
  walk_at "nm"
  walk_at "go"
  rename_i v1 v2 f1 f2
  refine g_eqR k3 rN0 ?_
  walk_at "go"
  refine ite2 (fun e => ?_) (fun e => ?_)
  · have e0 : far = 0 := of_decide_eq_true e
    walk_at "go"
    have fin : ∀ o : Prop, o = (start < low ∨ high < start) → narrowed span start far low high = (if start < low ∨ high < start then none else some span) := fun _ _ => by
      unfold narrowed
      rw [if_pos e0]
    have fin := fin _ rfl
    refine ite2 (fun e1 => ?_) (fun e1 => ?_)
    · refine iteT ?_
      walk_at "go"
      refine q _ _ (by walk_at "same") (retNone ?_)
      rw [fin, if_pos (.inl (of_decide_eq_true e1))]
    · walk_at "go"
      refine ite2 (fun e2 => ?_) (fun e2 => ?_)
      · walk_at "go"
        refine q _ _ (by walk_at "same") (retNone ?_)
        rw [fin, if_pos (.inr (of_decide_eq_true e2))]
      · walk_at "go"
        refine q _ _ (by walk_at "same") (retPair (a := span) ?_ (by walk_at "up"))
        rw [fin, if_neg]
        rintro (z | z)
        · exact e1 (decide_eq_true z)
        · exact e2 (decide_eq_true z)
  · have e0 : ¬ far = 0 := fun z => e (decide_eq_true z)
    walk_at "go"
    refine g_lst2 ?_
    walk_at "go"
    intro p hp
    generalize hv : V.ref p = ve
    generalize hH : upd _ p _ = H1
    obtain ⟨e1, h1⟩ := newL2 (K := K) (A := rRat K) hp hv hH (by walk_at "up") (by walk_at "up")
    clear hv hH
    have b0 : sz ((low - start) / far) ≤ 1300 := by walk_at "fit"
    have b1 : sz ((high - start) / far) ≤ 1300 := by walk_at "fit"
    have s1 : Same H H1 := by walk_at "same"
    have nd : narrowed span start far low high = (if (if (sortedTwo ((low - start) / far) ((high - start) / far)).2 < span.2 then (sortedTwo ((low - start) / far) ((high - start) / far)).2 else span.2) < (if span.1 < (sortedTwo ((low - start) / far) ((high - start) / far)).1 then (sortedTwo ((low - start) / far) ((high - start) / far)).1 else span.1) then none
        else some ((if span.1 < (sortedTwo ((low - start) / far) ((high - start) / far)).1 then (sortedTwo ((low - start) / far) ((high - start) / far)).1 else span.1), (if (sortedTwo ((low - start) / far) ((high - start) / far)).2 < span.2 then (sortedTwo ((low - start) / far) ((high - start) / far)).2 else span.2))) := by
      unfold narrowed
      rw [if_neg e0]
    dsimp only
    with_reducible refine' g_seqM (fun σ' H2 => ∃ ve, σ' = [some x1, some x2, some x3, some x4, some x5, some v1, some v2, some ve] ∧ Same H H2 ∧ rLst K (rRat K) H2 ve [(sortedTwo ((low - start) / far) ((high - start) / far)).1, (sortedTwo ((low - start) / far) ((high - start) / far)).2]) (fun N k => ?_) (fun σ' H2 m => ?_)
    · walk_at "go"
      refine ite2 (fun e2 => ?_) (fun e2 => ?_)
      · refine g_asg (g_rev (A := rRat K) (g_var rfl ⟨_, by walk_at "up", fun H3 v3 e3 h3 => k _ _ ⟨v3, rfl, Same.trans (by walk_at "same") e3, ?_⟩⟩) (fun R R' hR h => by obtain ⟨v, e, h⟩ := h; exact ⟨v, e, hR _ _ h⟩))
        unfold sortedTwo
        rw [if_pos (of_decide_eq_true e2)]
        exact h3
      · refine g_next (k _ _ ⟨ve, rfl, by walk_at "same", ?_⟩)
        unfold sortedTwo
        rw [if_neg (fun z => e2 (decide_eq_true z))]
        walk_at "up"
    · obtain ⟨vf, rfl, s2, h2⟩ := m
      have be : BS 1300 (sortedTwo ((low - start) / far) ((high - start) / far)) := by
        unfold sortedTwo
        split
        · exact ⟨b1, b0⟩
        · exact ⟨b0, b1⟩
      generalize sortedTwo ((low - start) / far) ((high - start) / far) = ee at be h2 nd
      obtain ⟨be1, be2⟩ := be
      have f1' := up s2 f1
      have f2' := up s2 f2
      clear f1 f2
      try dsimp only
      with_reducible refine' g_seq ?_
      with_reducible refine' (g_asgM (fun v H3 => Same H2 H3 ∧ rRat K H3 v (if span.1 < ee.1 then ee.1 else span.1)) (fun N k => ?_) (fun v H3 m => ?_))
      · walk_at "go"
        refine ite2 (fun e2 => ?_) (fun e2 => ?_)
        · walk_at "go"
          refine k _ _ ⟨by walk_at "same", ?_⟩
          rw [if_pos (of_decide_eq_true e2)]
          walk_at "up"
        · walk_at "go"
          refine k _ _ ⟨by walk_at "same", ?_⟩
          rw [if_neg (fun z => e2 (decide_eq_true z))]
          walk_at "up"
      · obtain ⟨s3, h3⟩ := m
        have bf : sz (if span.1 < ee.1 then ee.1 else span.1) ≤ 1300 := by split <;> assumption
        generalize (if span.1 < ee.1 then ee.1 else span.1) = fi at h3 nd bf
        try dsimp only
        with_reducible refine' g_seq ?_
        with_reducible refine' (g_asgM (fun v H4 => Same H3 H4 ∧ rRat K H4 v (if ee.2 < span.2 then ee.2 else span.2)) (fun N k => ?_) (fun v4 H4 m => ?_))
        · walk_at "go"
          refine ite2 (fun e2 => ?_) (fun e2 => ?_)
          · walk_at "go"
            refine k _ _ ⟨by walk_at "same", ?_⟩
            rw [if_pos (of_decide_eq_true e2)]
            walk_at "up"
          · walk_at "go"
            refine k _ _ ⟨by walk_at "same", ?_⟩
            rw [if_neg (fun z => e2 (decide_eq_true z))]
            walk_at "up"
        · obtain ⟨s4, h4⟩ := m
          have bl : sz (if ee.2 < span.2 then ee.2 else span.2) ≤ 1300 := by split <;> assumption
          generalize (if ee.2 < span.2 then ee.2 else span.2) = la at h4 nd bl
          walk_at "go"
          refine ite2 (fun e2 => ?_) (fun e2 => ?_)
          · walk_at "go"
            refine q _ _ (by walk_at "same") (retNone ?_)
            rw [nd, if_pos (of_decide_eq_true e2)]
          · walk_at "go"
            walk_at "tup"
            refine q _ _ (by walk_at "same") (retPair (a := (fi, la)) ?_ (by assumption))
            rw [nd, if_neg (fun z => e2 (decide_eq_true z))]
theorem sc_near_span : FnScope ["piece", "other", "slack", "a", "b", "c", "d", "span", "way", "low", "high", "far", "x", "y", "room", "start"] ["piece", "other", "slack"] (defScope (topS 24)) := ⟨rfl, rfl, rfl, by decide +kernel, rfl, by decide +kernel, by decide +kernel⟩
theorem ok_near_span (T : Tx K mg) (d : Df K mg "near_span" (topS 24) ["piece", "other", "slack"]) (n_minus : Kn P w K mg base "minus" 3 ["one", "other"] (spR2 K (· - ·))) (n_plus : Kn P w K mg base "plus" 3 ["one", "other"] (spR2 K (· + ·))) (n_times : Kn P w K mg base "times" 3 ["one", "other"] (spR2 K (· * ·)))
    (n_size : Kn P w K mg base "size" 1 ["one"] (spSize K)) (n_sorted_two : Kn P w K mg base "sorted_two" 3 ["one", "other"] (spSorted K)) (n_lean : Kn P w K mg base "lean" 4 ["x", "y", "c", "spot"] (spLean K)) (n_narrowed : Kn P w K mg base "narrowed" 4 ["span", "start", "far", "low", "high"] (spNarrow K)) :
    Kn P w K mg base "near_span" 5 ["piece", "other", "slack"] (spNear K) := by
  refine d.kn sc_near_span len3 (fun f cdv A outer s H vs Q E hr h => ?_)
  obtain ⟨x1, x2, x3, ⟨a, b⟩, ⟨c, dd⟩, slack, rfl, k1, k2, k3, ⟨⟨⟨a1, a2⟩, b1, b2⟩, ⟨⟨c1, c2⟩, d1, d2⟩, z3⟩, q⟩ := h
  dsimp only at a1 a2 b1 b2 c1 c2 d1 d2
  obtain ⟨aN, gN, rN⟩ := T.nought
  obtain ⟨aO, gO, rO⟩ := T.one
  refine ⟨_, (pss_cons (ps_asg (pe_tup (pa_cons (pv 0) (pa_cons (pv 1) pa_nil))) (pg_tup (n := 2) rfl (pgs_cons (pg_tup (n := 2) rfl (pgs_cons (pg_name (i := 3) sc_near_span.nd rfl (.inl rfl)) (pgs_cons (pg_name (i := 4) sc_near_span.nd rfl (.inl rfl)) pgs_nil))) (pgs_cons (pg_tup (n := 2) rfl (pgs_cons (pg_name (i := 5) sc_near_span.nd rfl (.inl rfl)) (pgs_cons (pg_name (i := 6) sc_near_span.nd rfl (.inl rfl)) pgs_nil))) pgs_nil))))
      (pss_cons (ps_set (i := 7) sc_near_span.nd rfl (.inl rfl) (pe_tup (pa_cons (pe_glob (v := V.ref _) (by rfl) gN rfl) (pa_cons (pe_glob (v := V.ref _) (by rfl) gO rfl) pa_nil))))
      (pss_cons (ps_for PassesOwn.never rfl (pi_tup (pe_tup (pa_cons pe_int (pa_cons pe_int pa_nil)))) (pg_name (i := 8) sc_near_span.nd rfl (.inl rfl)) (pss_cons (ps_asg (pk n_sorted_two hr (by decide) (by rfl) (pa_cons (pe_ix (r := rIxT K) ix_tup (pv 5) (pv 8) (fun _ _ => rfl)) (pa_cons (pe_ix (r := rIxT K) ix_tup (pv 6) (pv 8) (fun _ _ => rfl)) pa_nil))) (pg_tup (n := 2) rfl (pgs_cons (pg_name (i := 9) sc_near_span.nd rfl (.inl rfl)) (pgs_cons (pg_name (i := 10) sc_near_span.nd rfl (.inl rfl)) pgs_nil))))
      (pss_one (ps_if (pt_cmpR op_nn (pv 7) pe_non (nomark _)) (pss_cons (ps_set (i := 11) sc_near_span.nd rfl (.inl rfl) (pk n_minus hr (by decide) (by rfl) (pa_cons (pe_ix (r := rIxT K) ix_tup (pv 4) (pv 8) (fun _ _ => rfl)) (pa_cons (pe_ix (r := rIxT K) ix_tup (pv 3) (pv 8) (fun _ _ => rfl)) pa_nil))))
      (pss_one (ps_set (i := 7) sc_near_span.nd rfl (.inl rfl) (pk n_narrowed hr (by decide) (by rfl) (pa_cons (pv 7) (pa_cons (pe_ix (r := rIxT K) ix_tup (pv 3) (pv 8) (fun _ _ => rfl)) (pa_cons (pv 11) (pa_cons (pk n_minus hr (by decide) (by rfl) (pa_cons (pv 9) (pa_cons (pv 2) pa_nil))) (pa_cons (pk n_plus hr (by decide) (by rfl) (pa_cons (pv 10) (pa_cons (pv 2) pa_nil))) pa_nil))))))))) pss_nil))))
      (pss_cons (ps_if (pt_cmpR op_in (pv 7) pe_non (nomark _)) (pss_one (ps_ret pe_non)) pss_nil)
      (pss_cons (ps_par (i := 12) (j := 13) (by rfl) sc_near_span.nd rfl rfl (by decide) rfl rfl (pa_cons (pk n_minus hr (by decide) (by rfl) (pa_cons (pe_ix (r := rIxT K) ix_tup (pv 6) pe_int (fun _ _ => rfl)) (pa_cons (pe_ix (r := rIxT K) ix_tup (pv 5) pe_int (fun _ _ => rfl)) pa_nil))) (pa_cons (pk n_minus hr (by decide) (by rfl) (pa_cons (pe_ix (r := rIxT K) ix_tup (pv 6) pe_int (fun _ _ => rfl)) (pa_cons (pe_ix (r := rIxT K) ix_tup (pv 5) pe_int (fun _ _ => rfl)) pa_nil))) pa_nil)) (by rfl))
      (pss_cons (ps_set (i := 14) sc_near_span.nd rfl (.inl rfl) (pk n_times hr (by decide) (by rfl) (pa_cons (pv 2) (pa_cons (pk n_plus hr (by decide) (by rfl) (pa_cons (pk n_size hr (by decide) (by rfl) (pa_cons (pv 12) pa_nil)) (pa_cons (pk n_size hr (by decide) (by rfl) (pa_cons (pv 13) pa_nil)) pa_nil))) pa_nil))))
      (pss_cons (ps_set (i := 15) sc_near_span.nd rfl (.inl rfl) (pk n_lean hr (by decide) (by rfl) (pa_cons (pv 12) (pa_cons (pv 13) (pa_cons (pv 5) (pa_cons (pv 3) pa_nil))))))
      (pss_one (ps_ret (pk n_narrowed hr (by decide) (by rfl) (pa_cons (pv 7) (pa_cons (pv 15) (pa_cons (pk n_minus hr (by decide) (by rfl) (pa_cons (pk n_lean hr (by decide) (by rfl) (pa_cons (pv 12) (pa_cons (pv 13) (pa_cons (pv 5) (pa_cons (pv 4) pa_nil))))) (pa_cons (pv 15) pa_nil))) (pa_cons (pk n_minus hr (by decide) (by rfl) (pa_cons (pe_glob (v := V.ref _) (by rfl) gN rfl) (pa_cons (pv 14) pa_nil))) (pa_cons (pv 14) pa_nil))))))))))))))), ?_⟩
  walk_at "nm"
  walk_at "go"
  intro p hp
  generalize hv : V.ref p = ve
  generalize hH : upd _ p _ = H1
  obtain ⟨e1, h1⟩ := newT2 (K := K) (A := rPiece K) (B := rPiece K) hp hv hH (by walk_at "up") (by walk_at "up")
  clear hv hH
  refine g_unG h1 (fun w1 w2 f1 f2 => ?_)
  refine g_unP f1 (fun va vb ka kb => ?_)
  refine g_unP f2 (fun vc vd kc kd => ?_)
  dsimp only at ka kb kc kd
  have e1' : Same H H1 := e1
  clear f1 f2 h1 hp e1 k1 k2
  replace k3 := up e1' k3
  walk_at "go"
  intro p2 hp2
  generalize hv : V.ref p2 = ve2
  generalize hH : upd _ p2 _ = H2
  obtain ⟨e2, h2⟩ := newT2 (K := K) (A := rRat K) (B := rRat K) hp2 hv hH (rN H1) (rO H1)
  clear hv hH
  replace ka := up e2 ka
  replace kb := up e2 kb
  replace kc := up e2 kc
  replace kd := up e2 kd
  replace k3 := up e2 k3
  have e2' : Same H H2 := e1'.trans e2
  clear e2 e1'
  have hso : BS 30 (sortedTwo c.1 dd.1) ∧ BS 30 (sortedTwo c.2 dd.2) := ⟨sz_sorted c1 d1, sz_sorted c2 d2⟩
  dsimp only
  with_reducible refine' g_seq ?_
  refine ⟨by show 2 ≤ sizeLine; decide, fun p3 hp3 => ⟨p3, rfl, ⟨_, SqT.of upd_same⟩, ?_⟩⟩
  have e3 := same_new (o := .tup [.int 0, .int 1]) hp3
  have hT : SqT K (upd H2 p3 (.tup [.int 0, .int 1])) p3 [.int 0, .int 1] := SqT.of upd_same
  have ve2S : rSpot K (upd H2 p3 (.tup [.int 0, .int 1])) ve2 (0, 1) := up e3 h2
  replace ka := up e3 ka
  replace kb := up e3 kb
  replace kc := up e3 kc
  replace kd := up e3 kd
  replace k3 := up e3 k3
  have e3' : Same H (upd H2 p3 (.tup [.int 0, .int 1])) := e2'.trans e3
  clear e3 e2' h2
  generalize upd H2 p3 (.tup [.int 0, .int 1]) = H3 at *
  refine for_tup (K := K) (xs := [.int 0, .int 1]) (fun i σ' H' => ∃ vs x8 x9 x10 x11, σ' = [some x1, some x2, some x3, some va, some vb, some vc, some vd, some vs, x8, x9, x10, x11, none, none, none, none] ∧ Same H3 H' ∧
      rOpt (rSpot K) H' vs (match i with
        | 0 => some (0, 1)
        | 1 => stepSpan (some (0, 1)) a.1 (b.1 - a.1) ((sortedTwo c.1 dd.1).1 - slack) ((sortedTwo c.1 dd.1).2 + slack)
        | _ => stepSpan (stepSpan (some (0, 1)) a.1 (b.1 - a.1) ((sortedTwo c.1 dd.1).1 - slack) ((sortedTwo c.1 dd.1).2 + slack)) a.2 (b.2 - a.2) ((sortedTwo c.2 dd.2).1 - slack) ((sortedTwo c.2 dd.2).2 + slack)) ∧
      ∀ r, (match i with
        | 0 => some (0, 1)
        | 1 => stepSpan (some (0, 1)) a.1 (b.1 - a.1) ((sortedTwo c.1 dd.1).1 - slack) ((sortedTwo c.1 dd.1).2 + slack)
        | _ => stepSpan (stepSpan (some (0, 1)) a.1 (b.1 - a.1) ((sortedTwo c.1 dd.1).1 - slack) ((sortedTwo c.1 dd.1).2 + slack)) a.2 (b.2 - a.2) ((sortedTwo c.2 dd.2).1 - slack) ((sortedTwo c.2 dd.2).2 + slack)) = some r → BS 1300 r)
    ⟨ve2, none, none, none, none, rfl, Same.refl _, retPair rfl ve2S, fun r e => by cases e; exact ⟨Nat.le_trans sz_0 (by omega), Nat.le_trans sz_1 (by omega)⟩⟩ (fun i σ' H' _ hW => by obtain ⟨_, _, _, _, _, _, s1, _⟩ := hW; exact Gr.Same.tup s1 hT) (fun i x σ' H' hi hW => ?_) (fun σ' H' hW => ?_)
  · match i, hi with
    | 0, hi =>
      cases hi

      obtain ⟨vs, x8, x9, x10, x11, rfl, s1, hvs, hbs⟩ := hW
      have wa := up s1 ka
      have wb := up s1 kb
      have wc := up s1 kc
      have wd := up s1 kd
      have wl := up s1 k3
      walk_at "go"
      rename_i vlo vhi flo fhi
      rcases hvs with ⟨ho, rfl⟩ | ⟨s, ho, hne, hs⟩
      · replace ho : (some ((0 : Rat), (1 : Rat))) = none := ho
        walk_at "go"
        refine iteF ?_
        refine g_next ⟨_, some (.int 0), some vlo, some vhi, x11, rfl, Same.trans s1 (by walk_at "same"), .inl ⟨?_, rfl⟩, ?_⟩
        · show stepSpan (some ((0 : Rat), (1 : Rat))) _ _ _ _ = none
          rw [ho]
          rfl
        · intro r hr
          have hr' : stepSpan (some ((0 : Rat), (1 : Rat))) _ _ _ _ = some r := hr
          rw [ho] at hr'
          cases hr'
      · obtain ⟨hb1, hb2⟩ := hbs s ho
        have ws := hs
        replace ho : (some ((0 : Rat), (1 : Rat))) = some s := ho
        walk_at "go"
        refine iteT ?_
        obtain ⟨q1, q2⟩ := hso.1
        walk_at "go"
        refine ⟨_, some (.int 0), some vlo, some vhi, _, rfl, Same.trans s1 (by walk_at "same"), ?_, ?_⟩
        · show rOpt (rSpot K) _ _ (stepSpan (some ((0 : Rat), (1 : Rat))) _ _ _ _)
          rw [ho]
          assumption
        · intro r hr
          have hr' : stepSpan (some ((0 : Rat), (1 : Rat))) _ _ _ _ = some r := hr
          rw [ho] at hr'
          exact narrowed_sz hr' ⟨hb1, hb2⟩ (by walk_at "fit") (by walk_at "fit") (by walk_at "fit") (by walk_at "fit")

    | 1, hi =>
      cases hi

      obtain ⟨vs, x8, x9, x10, x11, rfl, s1, hvs, hbs⟩ := hW
      have wa := up s1 ka
      have wb := up s1 kb
      have wc := up s1 kc
      have wd := up s1 kd
      have wl := up s1 k3
      walk_at "go"
      rename_i vlo vhi flo fhi
      rcases hvs with ⟨ho, rfl⟩ | ⟨s, ho, hne, hs⟩
      · replace ho : (stepSpan (some (0, 1)) a.1 (b.1 - a.1) ((sortedTwo c.1 dd.1).1 - slack) ((sortedTwo c.1 dd.1).2 + slack)) = none := ho
        walk_at "go"
        refine iteF ?_
        refine g_next ⟨_, some (.int 1), some vlo, some vhi, x11, rfl, Same.trans s1 (by walk_at "same"), .inl ⟨?_, rfl⟩, ?_⟩
        · show stepSpan (stepSpan (some (0, 1)) a.1 (b.1 - a.1) ((sortedTwo c.1 dd.1).1 - slack) ((sortedTwo c.1 dd.1).2 + slack)) _ _ _ _ = none
          rw [ho]
          rfl
        · intro r hr
          have hr' : stepSpan (stepSpan (some (0, 1)) a.1 (b.1 - a.1) ((sortedTwo c.1 dd.1).1 - slack) ((sortedTwo c.1 dd.1).2 + slack)) _ _ _ _ = some r := hr
          rw [ho] at hr'
          cases hr'
      · obtain ⟨hb1, hb2⟩ := hbs s ho
        have ws := hs
        replace ho : (stepSpan (some (0, 1)) a.1 (b.1 - a.1) ((sortedTwo c.1 dd.1).1 - slack) ((sortedTwo c.1 dd.1).2 + slack)) = some s := ho
        walk_at "go"
        refine iteT ?_
        obtain ⟨q1, q2⟩ := hso.2
        walk_at "go"
        refine ⟨_, some (.int 1), some vlo, some vhi, _, rfl, Same.trans s1 (by walk_at "same"), ?_, ?_⟩
        · show rOpt (rSpot K) _ _ (stepSpan (stepSpan (some (0, 1)) a.1 (b.1 - a.1) ((sortedTwo c.1 dd.1).1 - slack) ((sortedTwo c.1 dd.1).2 + slack)) _ _ _ _)
          rw [ho]
          assumption
        · intro r hr
          have hr' : stepSpan (stepSpan (some (0, 1)) a.1 (b.1 - a.1) ((sortedTwo c.1 dd.1).1 - slack) ((sortedTwo c.1 dd.1).2 + slack)) _ _ _ _ = some r := hr
          rw [ho] at hr'
          exact narrowed_sz hr' ⟨hb1, hb2⟩ (by walk_at "fit") (by walk_at "fit") (by walk_at "fit") (by walk_at "fit")

    | i + 2, hi => simp at hi
  · obtain ⟨vs, x8, x9, x10, x11, rfl, s1, hvs, hbs⟩ := hW
    replace q : Ret (rOpt (rSpot K)) H' Q (nearSpan (a, b) (c, dd) slack) := ret_same q (e3'.trans s1)
    rw [nearSpan_eq] at q
    replace hvs : rOpt (rSpot K) H' vs (stepSpan (stepSpan (some (0, 1)) a.1 (b.1 - a.1) ((sortedTwo c.1 dd.1).1 - slack) ((sortedTwo c.1 dd.1).2 + slack)) a.2 (b.2 - a.2) ((sortedTwo c.2 dd.2).1 - slack) ((sortedTwo c.2 dd.2).2 + slack)) := hvs
    replace hbs : ∀ r, (stepSpan (stepSpan (some (0, 1)) a.1 (b.1 - a.1) ((sortedTwo c.1 dd.1).1 - slack) ((sortedTwo c.1 dd.1).2 + slack)) a.2 (b.2 - a.2) ((sortedTwo c.2 dd.2).1 - slack) ((sortedTwo c.2 dd.2).2 + slack)) = some r → BS 1300 r := hbs
    generalize stepSpan (stepSpan (some (0, 1)) a.1 (b.1 - a.1) ((sortedTwo c.1 dd.1).1 - slack) ((sortedTwo c.1 dd.1).2 + slack)) a.2 (b.2 - a.2) ((sortedTwo c.2 dd.2).1 - slack) ((sortedTwo c.2 dd.2).2 + slack) = sp at q hvs hbs
    replace ka := up s1 ka
    replace kb := up s1 kb
    replace kc := up s1 kc
    replace kd := up s1 kd
    replace k3 := up s1 k3
    clear ve2S hT s1 e3'
    have rN0 := rN H'
    rcases hvs with ⟨rfl, rfl⟩ | ⟨s, rfl, hne, hs⟩
    · walk_at "go"
      refine iteT ?_
      walk_at "go"
      exact q _ _ (Same.refl _) (retNone rfl)
    · obtain ⟨hb1, hb2⟩ := hbs s rfl
      have hx : sz (dd.1 - c.1) ≤ 61 := sz_sub d1 c1
      have hy : sz (dd.2 - c.2) ≤ 61 := sz_sub d2 c2
      have hla : sz (leanOf (dd.1 - c.1) (dd.2 - c.2) c a) ≤ 245 := sz_lean hx hy ⟨c1, c2⟩ ⟨a1, a2⟩
      have hlb : sz (leanOf (dd.1 - c.1) (dd.2 - c.2) c b) ≤ 245 := sz_lean hx hy ⟨c1, c2⟩ ⟨b1, b2⟩
      walk_at "go"
      refine iteF ?_
      walk_at "go"
      refine q _ _ (by walk_at "same") ?_
      assumption
theorem sc_pieces_of : FnScope ["polyline"] ["polyline"] (defScope (topS 21)) := ⟨rfl, rfl, rfl, by decide +kernel, rfl, by decide +kernel, by decide +kernel⟩
abbrev spPieces (K : PySem.W.Frag) : Sp := sp1 (rLst K (rSpot K)) (rLst K (rPiece K)) (fun l => l ≠ [] ∧ l.length ≤ 1000) piecesOf
theorem ok_pieces_of (T : Tx K mg) (d : Df K mg "pieces_of" (topS 21) ["polyline"]) : Kn P w K mg base "pieces_of" 1 ["polyline"] (spPieces K) := by
  refine d.kn sc_pieces_of len1 (fun f cdv A outer s H vs Q E hr h => ?_)
  obtain ⟨x, l, rfl, hx, ⟨hne, hl⟩, q⟩ := h
  refine ⟨_, (pss_cons (ps_if (pt_cmpR op_eq (pe_callB call_lenG (by rfl) T.m_len (by decide +kernel) (pa_cons (pv 0) pa_nil)) pe_int (nomark _)) (pss_one (ps_ret (pe_lst (pa_cons (pe_tup (pa_cons (pe_ix (r := rIxL K) ix_list (pv 0) pe_int (fun _ _ => rfl)) (pa_cons (pe_ix (r := rIxL K) ix_list (pv 0) pe_int (fun _ _ => rfl)) pa_nil))) pa_nil)))) pss_nil)
      (pss_one (ps_ret (pe_listZip rfl (pa_cons (pv 0) (pa_cons (pe_slice sl_list (pv 0) (po_some pe_int) po_none) pa_nil)) (by rfl) T.m_list (by decide +kernel) (by rfl) T.m_zip)))), ?_⟩
  walk_at "nm"
  walk_at "go"
  refine ite2 (fun e => ?_) (fun e => ?_)
  · have e1 : l.length = 1 := by
      have := of_decide_eq_true e
      omega
    obtain ⟨a, rfl⟩ := List.length_eq_one_iff.mp e1
    walk_at "go"
    refine g_lst1 ?_
    walk_at "go"
    refine g_ixL (j := 0) hx rfl (fun v hv => ?_)
    walk_at "go"
    refine g_ixL (j := 0) hx rfl (fun v2 hv2 => ?_)
    intro p hp
    generalize hv' : V.ref p = ve
    generalize hH : upd _ p _ = H1
    obtain ⟨e2, h2⟩ := newT2 (K := K) (A := rSpot K) (B := rSpot K) hp hv' hH hv hv2
    exact g_mkL1 (K := K) (A := rPiece K) h2 fun H' v e3 h3 => q _ _ (e2.trans e3) h3
  · have e1 : ¬ l.length = 1 := fun z => e (decide_eq_true (by omega))
    walk_at "go"
    refine g_sl1 (A := rSpot K) hx (fun H' v e2 h2 => ?_)
    refine g_zip (A := rSpot K) (up e2 hx) h2 (fun H2 v2 e3 h3 => q _ _ (e2.trans e3) ?_)
    have : piecesOf l = l.zip (l.drop 1) := by
      unfold piecesOf
      rw [List.drop_one]
      split
      · exact absurd rfl e1
      · rfl
    rw [this]
    exact h3
theorem sc_in_order : FnScope ["spans", "found", "span", "place", "one"] ["spans"] (defScope (topS 27)) := ⟨rfl, rfl, rfl, by decide +kernel, rfl, by decide +kernel, by decide +kernel⟩
abbrev spOrder (K : PySem.W.Frag) : Sp := sp1 (rLst K (rSpot K)) (rLst K (rSpot K)) (fun l => (∀ s ∈ l, BS 4000 s) ∧ l.length ≤ 900) inOrder
theorem fold_len : ∀ (l a : List (Rat × Rat)), (l.foldl insSpan a).length = a.length + l.length
  | [], a => rfl
  | s :: r, a => by
    have e : (insSpan a s).length = a.length + 1 := by
      unfold insSpan
      rw [List.length_append, List.length_append, List.length_singleton, List.length_take, List.length_drop]
      omega
    show (r.foldl insSpan (insSpan a s)).length = _
    rw [fold_len r, e, List.length_cons]
    omega
theorem ok_in_order (T : Tx K mg) (d : Df K mg "in_order" (topS 27) ["spans"]) (n_less : Kn P w K mg base "less" 2 ["one", "other"] (spLess K)) : Kn P w K mg base "in_order" 3 ["spans"] (spOrder K) := by
  refine d.kn sc_in_order len1 (fun f cdv A outer s H vs Q E hr h => ?_)
  obtain ⟨x, l, rfl, hx, ⟨hb, hl⟩, q⟩ := h
  refine ⟨_, (pss_cons (ps_set (i := 1) sc_in_order.nd rfl (.inl rfl) (pe_lst pa_nil))
      (pss_cons (ps_for PassesOwn.never rfl (pi_list (pv 0)) (pg_name (i := 2) sc_in_order.nd rfl (.inr rfl)) (pss_cons (ps_set (i := 3) sc_in_order.nd rfl (.inl rfl) (pe_callB call_lenG (by rfl) T.m_len (by decide +kernel) (pa_cons (pe_lc (own := [("one", 4)]) (by rfl) sc_in_order.nd (pi_list (pv 1)) (blkOk_by (own := [("one", 4)]) (N := ["spans", "found", "span", "place", "one"]) (sc := defScope (topS 27)) (by decide +kernel)) (fun _ _ _ _ _ => (pg_name (i := 4) sc_in_order.nd rfl (.inl rfl))) (fun _ _ _ _ _ => (pts_one (pt_not (pt_val (pk n_less hr (by decide) (by rfl) (pa_cons (pe_ix (r := rIxT K) ix_tup (pv 2) pe_int (fun _ _ => rfl)) (pa_cons (pe_ix (r := rIxT K) ix_tup (pv 4) pe_int (fun _ _ => rfl)) pa_nil))))))) (fun _ _ _ _ _ => (pv 4))) pa_nil)))
      (pss_one (ps_expr (pe_bm PySem.F.plainAttrs_list PySem.F.slot_list_insert PySem.F.type_list_insert mt_insert (pv 1) (pa_cons (pv 3) (pa_cons (pv 2) pa_nil)))))))
      (pss_one (ps_ret (pv 1))))), ?_⟩
  walk_at "nm"
  walk_at "go"
  refine g_lst0 (K := K) (fun F hF => ?_)
  have e1 := same_new (o := .lst []) hF
  obtain ⟨p, xs, rfl, hs, hp⟩ := hx
  have hlen := hp.length
  dsimp only
  with_reducible refine' g_seq ?_
  refine ⟨_, rfl, p, rfl, ⟨xs, SqL.of (e1 _ _ hs)⟩, for_list (xs := xs) (fun i σ' H' => ∃ x2 x3, σ' = [some (.ref p), some (.ref F), x2, x3, none] ∧ Same H H' ∧ ∃ vs, H' F = some (.lst vs) ∧ Paired (rSpot K H') vs ((l.take i).foldl insSpan []))
    ⟨none, none, rfl, e1, [], upd_same, .nil⟩ (fun i σ' H' _ hW => by obtain ⟨_, _, _, e, _⟩ := hW; exact SqL.of (e _ _ hs)) (fun i v σ' H' hi hW => ?_) (fun σ' H' hW => ?_)⟩
  · obtain ⟨x2, x3, rfl, e2, vs, hvs, hP⟩ := hW
    obtain ⟨a, ha, hA⟩ := LiI.paired_get hp hi
    have hA' := up e2 hA
    obtain ⟨hb1, hb2⟩ := hb a (List.mem_of_getElem? ha)
    have hmem : ∀ r, r ∈ (l.take i).foldl insSpan [] → r ∈ l := fun r hr => by
      have := (fold_ins (l.take i) [] .nil).2 r
      rcases this.mp hr with z | z
      · cases z
      · exact List.mem_of_mem_take z
    have hflen := fold_len (l.take i) []
    have hti : i < l.length := (List.getElem?_eq_some_iff.mp ha).1
    rw [List.length_take, List.length_nil, Nat.min_eq_left (Nat.le_of_lt hti)] at hflen
    have hE : (l.take (i + 1)).foldl insSpan [] = insSpan ((l.take i).foldl insSpan []) a := by
      rw [List.take_add_one, ha, List.foldl_append]
      rfl
    rw [hE]
    generalize (l.take i).foldl insSpan [] = fd at hP hmem hflen hE
    have hvl := hP.length
    walk_at "go"
    refine g_lc (K := K) (A := rSpot K) (B := rSpot K) (fun one => !decide (a.1 < one.1)) id ⟨F, vs, rfl, hvs, hP⟩ (by omega) (fun j o v2 H2 ho e3 hv2 Kp Sk kp sk => ?_) (fun H2 v2 e3 h3 => ?_)
    · obtain ⟨ho1, ho2⟩ := hb o (hmem o (List.mem_of_getElem? ho))
      walk_at "go"
      refine ⟨rfl, ?_⟩
      have hA2 := up e3 hA'
      walk_at "go"
      by_cases hlt : a.1 < o.1
      · rw [decide_eq_true hlt]
        refine iteF (sk _ (by walk_at "same") ?_)
        rw [decide_eq_true hlt]
        rfl
      · rw [decide_eq_false hlt]
        refine iteT ?_
        walk_at "go"
        refine kp _ _ (by walk_at "same") ?_ ?_
        · rw [decide_eq_false hlt]
          rfl
        · show rSpot K _ _ o
          walk_at "up"
    · have e4 : Same H H2 := e2.trans e3
      have hF2 := e3 _ _ hvs
      have hA2 := up e3 hA'
      have hP2 := paired_up e3 hP
      walk_at "go"
      refine ⟨_, rfl, .inl ⟨rfl, _, SqL.of hF2⟩, _, rfl, _, rfl, F, vs, _, _, rfl, rfl, hF2, Nat.lt_of_le_of_lt (by omega : vs.length ≤ 1000) (by decide), Int.natCast_nonneg _, ?_, ?_⟩
      · have h3 : ((fd.filter fun one => !decide (a.1 < one.1)).map id).length ≤ fd.length := by
          rw [List.length_map]
          exact List.length_filter_le _ _
        omega
      · rw [Int.toNat_natCast, List.length_map]
        refine ⟨_, _, rfl, fun b o hb => ?_, _, upd_same, ?_⟩
        · rw [upd_ne (ne_of_none hb hF)]
          exact e4 _ _ hb
        · unfold insSpan
          have hP3 := paired_ts (K := K) (ts_upd (o := .lst (vs.take (fd.filter fun one => !decide (a.1 < one.1)).length ++ [v] ++ vs.drop (fd.filter fun one => !decide (a.1 < one.1)).length)) hF2) hP2
          exact paired_rev.paired_app (paired_rev.paired_app (paired_take _ hP3) (.cons (upT (K := K) (ts_upd hF2) hA2) .nil)) (paired_drop _ hP3)
  · obtain ⟨x2, x3, rfl, e2, vs, hvs, hP⟩ := hW
    rw [List.take_of_length_le (by omega)] at hP
    walk_at "go"
    exact q _ _ e2 ⟨F, vs, rfl, hvs, hP⟩
theorem sc_gap_in : FnScope ["spans", "here", "first", "last"] ["spans"] (defScope (topS 28)) := ⟨rfl, rfl, rfl, by decide +kernel, rfl, by decide +kernel, by decide +kernel⟩
abbrev spGap (K : PySem.W.Frag) : Sp := sp1 (rLst K (rSpot K)) (rOpt (rRat K)) (fun l => (∀ s ∈ l, BS 1300 s) ∧ l.length ≤ 900) gapIn
theorem inOrder_len (l : List (Rat × Rat)) : (inOrder l).length = l.length := by
  unfold inOrder
  rw [fold_len]
  exact Nat.zero_add _
theorem ok_gap_in (T : Tx K mg) (d : Df K mg "gap_in" (topS 28) ["spans"]) (n_less : Kn P w K mg base "less" 2 ["one", "other"] (spLess K)) (n_in_order : Kn P w K mg base "in_order" 3 ["spans"] (spOrder K))
    (n_plus : Kn P w K mg base "plus" 3 ["one", "other"] (spR2 K (· + ·))) (n_times : Kn P w K mg base "times" 3 ["one", "other"] (spR2 K (· * ·))) : Kn P w K mg base "gap_in" 4 ["spans"] (spGap K) := by
  refine d.kn sc_gap_in len1 (fun f cdv A outer s H vs Q E hr h => ?_)
  obtain ⟨x, l, rfl, hx, ⟨hb, hl⟩, q⟩ := h
  obtain ⟨aN, gN, rN⟩ := T.nought
  obtain ⟨aO, gO, rO⟩ := T.one
  obtain ⟨aH, gH, rH⟩ := T.half
  refine ⟨_, (pss_cons (ps_set (i := 1) sc_gap_in.nd rfl (.inl rfl) pe_non)
      (pss_cons (ps_for PassesOwn.never rfl (pi_list (pk n_in_order hr (by decide) (by rfl) (pa_cons (pv 0) pa_nil))) (pg_tup (n := 2) rfl (pgs_cons (pg_name (i := 2) sc_gap_in.nd rfl (.inl rfl)) (pgs_cons (pg_name (i := 3) sc_gap_in.nd rfl (.inl rfl)) pgs_nil))) (pss_cons (ps_if (PW.pt (pw_and (pt_cmpR op_in (pv 1) pe_non (nomark _)) (pw_and1 (pt_cmpR (r := rNeD K) (op_neD hr.units) (pv 2) (pe_glob (v := V.ref _) (by rfl) gN rfl) (nomark _))))) (pss_one (ps_ret (pe_glob (v := V.ref _) (by rfl) gN rfl))) pss_nil)
      (pss_cons (ps_if (PW.pt (pw_and (pt_cmpR op_nn (pv 1) pe_non (nomark _)) (pw_and1 (pt_val (pk n_less hr (by decide) (by rfl) (pa_cons (pv 1) (pa_cons (pv 2) pa_nil))))))) (pss_one (ps_ret (pk n_times hr (by decide) (by rfl) (pa_cons (pe_glob (v := V.ref _) (by rfl) gH rfl) (pa_cons (pk n_plus hr (by decide) (by rfl) (pa_cons (pv 1) (pa_cons (pv 2) pa_nil))) pa_nil))))) pss_nil)
      (pss_one (ps_set (i := 1) sc_gap_in.nd rfl (.inl rfl) (pe_ifExp (PW.pt (pw_or (pt_cmpR op_in (pv 1) pe_non (nomark _)) (pw_or1 (pt_val (pk n_less hr (by decide) (by rfl) (pa_cons (pv 1) (pa_cons (pv 3) pa_nil))))))) (pv 3) (pv 1)))))))
      (pss_cons (ps_if (pt_cmpR op_in (pv 1) pe_non (nomark _)) (pss_one (ps_ret (pe_glob (v := V.ref _) (by rfl) gN rfl))) pss_nil)
      (pss_one (ps_ret (pe_ifExp (pt_val (pk n_less hr (by decide) (by rfl) (pa_cons (pv 1) (pa_cons (pe_glob (v := V.ref _) (by rfl) gO rfl) pa_nil)))) (pe_glob (v := V.ref _) (by rfl) gO rfl) pe_non)))))), ?_⟩
  walk_at "nm"
  walk_at "go"
  with_reducible refine' g_forL ?_
  refine g_call1 ?_
  walk_at "go"
  refine g_sp1 hx ⟨fun s hs => ⟨Nat.le_trans (hb s hs).1 (by omega), Nat.le_trans (hb s hs).2 (by omega)⟩, hl⟩ (fun H1 v1 e1 h1 => ?_)
  have bL : ∀ s ∈ inOrder l, BS 1300 s := fun s hs => hb s (inOrder_mem.mp hs)
  have bl := inOrder_len l
  have gq : gapGo none (inOrder l) = gapIn l := rfl
  replace q := ret_same q e1
  generalize inOrder l = L at h1 bL bl gq
  obtain ⟨p, xs, rfl, hs, hp⟩ := h1
  have hlen := hp.length
  refine ⟨p, rfl, ⟨xs, SqL.of hs⟩, for_list (xs := xs) (fun i σ' H' => ∃ vh x2 x3 ho, σ' = [some x, some vh, x2, x3] ∧ Same H1 H' ∧ rOpt (rRat K) H' vh ho ∧ gapGo ho (L.drop i) = gapIn l ∧ ∀ h, ho = some h → sz h ≤ 1300)
    ⟨.non, none, none, none, rfl, Same.refl _, retNone rfl, gq, fun _ z => by cases z⟩ (fun i σ' H' _ hW => by obtain ⟨_, _, _, _, _, e, _⟩ := hW; exact SqL.of (e _ _ hs)) (fun i v σ' H' hi hW => ?_) (fun σ' H' hW => ?_)⟩
  · obtain ⟨vh, x2, x3, ho, rfl, e2, hh, hg, hz⟩ := hW
    obtain ⟨⟨a1, a2⟩, ha, hA⟩ := LiI.paired_get hp hi
    have hA' := up e2 hA
    obtain ⟨hb1, hb2⟩ := bL _ (List.mem_of_getElem? ha)
    dsimp only at hb1 hb2
    have hd : L.drop i = (a1, a2) :: L.drop (i + 1) := by
      obtain ⟨h1, h2⟩ := List.getElem?_eq_some_iff.mp ha
      rw [← h2]
      exact List.drop_eq_getElem_cons h1
    rw [hd] at hg
    replace q := ret_same q e2
    have rN' := rN H'
    have rH' := rH H'
    walk_at "go"
    rename_i v1 v2 f1 f2
    rcases hh with ⟨rfl, rfl⟩ | ⟨h, rfl, hne, hv⟩
    · unfold gapGo at hg
      walk_at "go"
      refine iteT ?_
      walk_at "go"
      refine g_neR f1 rN' ?_
      walk_at "go"
      by_cases h0 : a1 = 0
      · rw [decide_eq_true h0]
        refine iteF ?_
        walk_at "go"
        refine iteF (iteF ?_)
        walk_at "go"
        refine iteT (iteT ?_)
        walk_at "go"
        rw [if_neg (fun z => z h0)] at hg
        exact ⟨v2, some v1, some v2, some a2, rfl, e2, retRat rfl f2, hg, fun h z => by cases z; exact hb2⟩
      · rw [decide_eq_false h0]
        refine iteT ?_
        walk_at "go"
        rw [if_pos h0] at hg
        exact q _ _ (Same.refl _) (retRat hg.symm rN')
    · have hz' := hz h rfl
      unfold gapGo at hg
      walk_at "go"
      refine iteF (iteF ?_)
      walk_at "go"
      refine iteT ?_
      walk_at "go"
      refine ite2 (fun e => ?_) (fun e => ?_)
      · have hs2 : sz (1 / 2) ≤ 2 := by decide +kernel
        walk_at "go"
        rw [if_pos (of_decide_eq_true e)] at hg
        refine q _ _ (by walk_at "same") (retRat hg.symm (by assumption))
      · walk_at "go"
        refine iteF ?_
        walk_at "go"
        rw [if_neg (fun z => e (decide_eq_true z))] at hg
        refine ite2 (fun e3 => ?_) (fun e3 => ?_)
        · rw [if_pos (of_decide_eq_true e3)] at hg
          walk_at "go"
          exact ⟨v2, some v1, some v2, some a2, rfl, e2.trans (by walk_at "same"), retRat rfl (by walk_at "up"), hg, fun h z => by cases z; exact hb2⟩
        · rw [if_neg (fun z => e3 (decide_eq_true z))] at hg
          walk_at "go"
          exact ⟨vh, some v1, some v2, some h, rfl, e2.trans (by walk_at "same"), retRat rfl (by walk_at "up"), hg, fun h z => by cases z; exact hz'⟩
  · obtain ⟨vh, x2, x3, ho, rfl, e2, hh, hg, hz⟩ := hW
    rw [List.drop_of_length_le (by omega)] at hg
    replace q := ret_same q e2
    have rN' := rN H'
    have rO' := rO H'
    rcases hh with ⟨rfl, rfl⟩ | ⟨h, rfl, hne, hv⟩
    · unfold gapGo at hg
      walk_at "go"
      refine iteT ?_
      walk_at "go"
      exact q _ _ (Same.refl _) (retRat hg.symm rN')
    · have hz' := hz h rfl
      unfold gapGo at hg
      walk_at "go"
      refine iteF ?_
      walk_at "go"
      refine ite2 (fun e => ?_) (fun e => ?_)
      · rw [if_pos (of_decide_eq_true e)] at hg
        walk_at "go"
        exact q _ _ (by walk_at "same") (retRat hg.symm (rO _))
      · rw [if_neg (fun z => e (decide_eq_true z))] at hg
        walk_at "go"
        exact q _ _ (by walk_at "same") (retNone hg.symm)
theorem sc_bare : FnScope ["ones", "others", "slack", "piece", "other", "spans", "share", "one", "span"] ["ones", "others", "slack"] (defScope (topS 29)) := ⟨rfl, rfl, rfl, by decide +kernel, rfl, by decide +kernel, by decide +kernel⟩
abbrev spBare (K : PySem.W.Frag) : Sp := sp3 (rLst K (rSpot K)) (rLst K (rSpot K)) (rRat K) (rOpt (rSpot K)) (fun ones others slack => (ones ≠ [] ∧ ones.length ≤ 800 ∧ ∀ p ∈ ones, BS 30 p) ∧ (others ≠ [] ∧ others.length ≤ 800 ∧ ∀ p ∈ others, BS 30 p) ∧ sz slack ≤ 380) bareOf
theorem pieces_in {l : List (Rat × Rat)} {n : Nat} (h : ∀ p ∈ l, BS n p) : ∀ o ∈ piecesOf l, BP n o := by
  intro o ho
  unfold piecesOf at ho
  split at ho
  · rename_i a
    obtain rfl := List.mem_singleton.mp ho
    exact ⟨h a List.mem_cons_self, h a List.mem_cons_self⟩
  · obtain ⟨a, b⟩ := o
    obtain ⟨z1, z2⟩ := List.of_mem_zip ho
    exact ⟨h _ z1, h _ (List.mem_of_mem_tail z2)⟩
theorem pieces_len (l : List (Rat × Rat)) : (piecesOf l).length ≤ l.length := by
  unfold piecesOf
  split
  · exact Nat.le_refl _
  · rw [List.length_zip]
    exact Nat.min_le_left _ _
theorem nearSpan_sz {a b : Piece} {slack : Rat} {r : Rat × Rat} (h : nearSpan a b slack = some r) (ha : BP 30 a) (hb : BP 30 b) (hs : sz slack ≤ 380) : BS 1300 r := by
  obtain ⟨a, a'⟩ := a
  obtain ⟨c, d⟩ := b
  obtain ⟨⟨a1, a2⟩, a3, a4⟩ := ha
  obtain ⟨⟨c1, c2⟩, d1, d2⟩ := hb
  dsimp only at a1 a2 a3 a4 c1 c2 d1 d2
  rw [nearSpan_eq] at h
  have step : ∀ {o : Option (Rat × Rat)} {r : Rat × Rat} {start far low high : Rat}, stepSpan o start far low high = some r → (∀ s, o = some s → BS 1300 s) → sz start ≤ 250 → sz far ≤ 500 → sz low ≤ 510 → sz high ≤ 510 → BS 1300 r := by
    intro o r start far low high h ho e1 e2 e3 e4
    cases o with
    | none => cases h
    | some s => exact narrowed_sz h (ho s rfl) e1 e2 e3 e4
  have hso : BS 30 (sortedTwo c.1 d.1) ∧ BS 30 (sortedTwo c.2 d.2) := ⟨sz_sorted c1 d1, sz_sorted c2 d2⟩
  obtain ⟨⟨q1, q2⟩, q3, q4⟩ := hso
  have hx : sz (d.1 - c.1) ≤ 61 := sz_sub d1 c1
  have hy : sz (d.2 - c.2) ≤ 61 := sz_sub d2 c2
  have hla : sz (leanOf (d.1 - c.1) (d.2 - c.2) c a) ≤ 245 := sz_lean hx hy ⟨c1, c2⟩ ⟨a1, a2⟩
  have hlb : sz (leanOf (d.1 - c.1) (d.2 - c.2) c a') ≤ 245 := sz_lean hx hy ⟨c1, c2⟩ ⟨a3, a4⟩
  refine step h (fun s h => step h (fun s h => step h (fun s h => ?_) ?_ ?_ ?_ ?_) ?_ ?_ ?_ ?_) ?_ ?_ ?_ ?_
  · cases h
    exact ⟨Nat.le_trans sz_0 (by omega), Nat.le_trans sz_1 (by omega)⟩
  all_goals walk_at "fit"
theorem gapGo_sz : ∀ (l : List (Rat × Rat)) (ho : Option Rat) (g : Rat), gapGo ho l = some g → (∀ s ∈ l, BS 1300 s) → (∀ h, ho = some h → sz h ≤ 1300) → sz g ≤ 2603
  | [], none, g, h, _, _ => by
    unfold gapGo at h
    cases h
    exact Nat.le_trans sz_0 (by omega)
  | [], some x, g, h, _, _ => by
    unfold gapGo at h
    split at h
    · cases h
      exact Nat.le_trans sz_1 (by omega)
    · cases h
  | (f, l) :: r, none, g, h, hb, _ => by
    unfold gapGo at h
    split at h
    · cases h
      exact Nat.le_trans sz_0 (by omega)
    · exact gapGo_sz r _ g h (fun s hs => hb s (List.mem_cons_of_mem _ hs)) fun h e => by cases e; exact (hb _ List.mem_cons_self).2
  | (f, l) :: r, some x, g, h, hb, hx => by
    unfold gapGo at h
    have hx' := hx x rfl
    split at h
    · cases h
      have hs2 : sz (1 / 2) ≤ 2 := by decide +kernel
      exact Nat.le_trans (sz_mul hs2 (sz_add hx' (hb _ List.mem_cons_self).1)) (by omega)
    · refine gapGo_sz r _ g h (fun s hs => hb s (List.mem_cons_of_mem _ hs)) fun h e => ?_
      cases e
      split
      · exact (hb _ List.mem_cons_self).2
      · exact hx'
theorem gapIn_sz {l : List (Rat × Rat)} {g : Rat} (h : gapIn l = some g) (hb : ∀ s ∈ l, BS 1300 s) : sz g ≤ 2603 := gapGo_sz _ none g h (fun s hs => hb s (inOrder_mem.mp hs)) fun _ e => by cases e
theorem pieces_ne {l : List (Rat × Rat)} (h : l ≠ []) : l ≠ [] ∧ True := ⟨h, trivial⟩
theorem ok_bare (T : Tx K mg) (d : Df K mg "bare" (topS 29) ["ones", "others", "slack"]) (n_pieces_of : Kn P w K mg base "pieces_of" 1 ["polyline"] (spPieces K)) (n_near_span : Kn P w K mg base "near_span" 5 ["piece", "other", "slack"] (spNear K)) (n_gap_in : Kn P w K mg base "gap_in" 4 ["spans"] (spGap K)) (n_on_way : Kn P w K mg base "on_way" 4 ["one", "other", "share"] (spOnWay K)) : Kn P w K mg base "bare" 6 ["ones", "others", "slack"] (spBare K) := by
  refine d.kn sc_bare len3 (fun f cdv A outer s H vs Q E hr h => ?_)
  obtain ⟨x1, x2, x3, ones, others, slack, rfl, k1, k2, k3, ⟨⟨n1, l1, b1⟩, ⟨n2, l2, b2⟩, z3⟩, q⟩ := h
  refine ⟨_, (pss_cons (ps_for PassesOwn.never rfl (pi_list (pk n_pieces_of hr (by decide) (by rfl) (pa_cons (pv 0) pa_nil))) (pg_name (i := 3) sc_bare.nd rfl (.inr rfl)) (pss_cons (ps_setLc (i := 5) (own := [("other", 4)]) (by rfl) sc_bare.nd rfl rfl (sw_true rfl rfl rfl (by decide +kernel)) (pi_list (pk n_pieces_of hr (by decide) (by rfl) (pa_cons (pv 1) pa_nil))) (blkOk_by (own := [("other", 4)]) (N := ["ones", "others", "slack", "piece", "other", "spans", "share", "one", "span"]) (sc := defScope (topS 29)) (by decide +kernel)) (fun _ _ _ _ _ => (pg_name (i := 4) sc_bare.nd rfl (.inl rfl))) (fun _ _ _ _ _ => pts_nil) (fun _ _ _ _ _ => (pk n_near_span hr (by decide) (by rfl) (pa_cons (pv 3) (pa_cons (pv 4) (pa_cons (pv 2) pa_nil))))))
      (pss_cons (ps_set (i := 6) sc_bare.nd rfl (.inl rfl) (pk n_gap_in hr (by decide) (by rfl) (pa_cons (pe_lc (own := [("span", 8)]) (by rfl) sc_bare.nd (pi_list (pv 5)) (blkOk_by (own := [("span", 8)]) (N := ["ones", "others", "slack", "piece", "other", "spans", "share", "one", "span"]) (sc := defScope (topS 29)) (by decide +kernel)) (fun _ _ _ _ _ => (pg_name (i := 8) sc_bare.nd rfl (.inl rfl))) (fun _ _ _ _ _ => (pts_one (pt_cmpR op_nn (pv 8) pe_non (nomark _)))) (fun _ _ _ _ _ => (pv 8))) pa_nil)))
      (pss_one (ps_if (pt_cmpR op_nn (pv 6) pe_non (nomark _)) (pss_cons (ps_asg (pv 3) (pg_tup (n := 2) rfl (pgs_cons (pg_name (i := 7) sc_bare.nd rfl (.inl rfl)) (pgs_cons (pg_name (i := 4) sc_bare.nd rfl (.inl rfl)) pgs_nil))))
      (pss_one (ps_ret (pk n_on_way hr (by decide) (by rfl) (pa_cons (pv 7) (pa_cons (pv 4) (pa_cons (pv 6) pa_nil))))))) pss_nil)))))
      (pss_one (ps_ret pe_non))), ?_⟩
  walk_at "nm"
  walk_at "go"
  with_reducible refine' g_forL ?_
  refine g_call1 ?_
  walk_at "st"
  refine g_sp1 k1 ⟨n1, by omega⟩ (fun H1 v1 e1 h1 => ?_)
  have bP := pieces_in b1
  have lP := pieces_len ones
  have gq : bareGo others slack (piecesOf ones) = bareOf ones others slack := rfl
  replace q := ret_same q e1
  replace k1 := up e1 k1
  replace k2 := up e1 k2
  replace k3 := up e1 k3
  generalize piecesOf ones = L at h1 bP lP gq
  obtain ⟨p, xs, rfl, hs, hp⟩ := h1
  have hlen := hp.length
  refine ⟨p, rfl, ⟨xs, SqL.of hs⟩, for_list (xs := xs) (fun i σ' H' => ∃ y3 y4 y5 y6 y7, σ' = [some x1, some x2, some x3, y3, y4, y5, y6, y7, none] ∧ Same H1 H' ∧ bareGo others slack (L.drop i) = bareOf ones others slack)
    ⟨none, none, none, none, none, rfl, Same.refl _, gq⟩ (fun i σ' H' _ hW => by obtain ⟨_, _, _, _, _, _, e, _⟩ := hW; exact SqL.of (e _ _ hs)) (fun i v σ' H' hi hW => ?_) (fun σ' H' hW => ?_)⟩
  · obtain ⟨y3, y4, y5, y6, y7, rfl, e2, hg⟩ := hW
    obtain ⟨pc, ha, hA⟩ := LiI.paired_get hp hi
    have hA' := up e2 hA
    have hb := bP _ (List.mem_of_getElem? ha)
    have hd : L.drop i = pc :: L.drop (i + 1) := by
      obtain ⟨h1, h2⟩ := List.getElem?_eq_some_iff.mp ha
      rw [← h2]
      exact List.drop_eq_getElem_cons h1
    rw [hd] at hg
    unfold bareGo at hg
    replace q := ret_same q e2
    have m1 := up e2 k1
    have m2 := up e2 k2
    have m3 := up e2 k3
    walk_at "st"
    walk_at "st"
    walk_at "st"
    walk_at "st"
    walk_at "st"
    walk_at "st"
    refine g_sp1 m2 ⟨n2, by omega⟩ (fun H2 v2 e3 h2 => ?_)
    have oP := pieces_in b2
    have oL := pieces_len others
    have m3' := up e3 m3
    have A3 := up e3 hA'
    refine g_lc (K := K) (A := rPiece K) (B := rOpt (rSpot K)) (fun _ => true) (fun o => nearSpan pc o slack) h2 (by omega) (fun j o v3 H3 ho e4 h3 Kp Sk kp sk => ?_) (fun H3 v3 e4 h3 => ?_)
    · have hbo := oP _ (List.mem_of_getElem? ho)
      walk_at "go"
      refine ⟨rfl, ?_⟩
      dsimp only [tYes]
      refine iteT ?_
      have m4 := up e4 m3'
      have A4 := up e4 A3
      walk_at "go"
      exact kp _ _ (by assumption) rfl (by assumption)
    · rw [List.filter_eq_self.mpr (fun _ _ => rfl)] at h3
      walk_at "go"
      refine g_lc (K := K) (A := rOpt (rSpot K)) (B := rSpot K) (fun o => o.isSome) (fun o => o.getD (0, 0)) h3 (by rw [List.length_map]; omega) (fun j o v5 H5 ho e5 h5 Kp Sk kp sk => ?_) (fun H5 v5 e5 h5 => ?_)
      · walk_at "go"
        refine ⟨rfl, ?_⟩
        walk_at "go"
        rcases h5 with ⟨rfl, rfl⟩ | ⟨o, rfl, hne, hv⟩
        · walk_at "go"
          exact iteF (sk _ (Same.refl _) rfl)
        · walk_at "go"
          refine iteT ?_
          walk_at "go"
          exact kp _ _ (Same.refl _) rfl hv
      · have hE : ((((piecesOf others).map fun o => nearSpan pc o slack).filter fun o => o.isSome).map fun o => o.getD (0, 0)) = spansOf pc others slack := by
          unfold spansOf
          induction ((piecesOf others).map fun o => nearSpan pc o slack) with
          | nil => rfl
          | cons o r ih =>
            cases o with
            | none => exact ih
            | some a =>
              show a :: _ = a :: _
              rw [ih]
        rw [hE] at h5
        have hlS : (spansOf pc others slack).length ≤ 900 := by
          rw [← hE, List.length_map]
          have := List.length_filter_le (fun o : Option (Rat × Rat) => o.isSome) ((piecesOf others).map fun o => nearSpan pc o slack)
          rw [List.length_map] at this
          omega
        have hbS : ∀ s ∈ spansOf pc others slack, BS 1300 s := fun s hs => by
          obtain ⟨o, ho, e⟩ := spansOf_mem.mp hs
          exact nearSpan_sz e hb (oP o ho) z3
        generalize spansOf pc others slack = sp at hg h5 hbS hlS
        walk_at "go"
        rename_i H6 v6 e6 h6
        have A6 := up e6 (up e5 (up e4 A3))
        walk_at "go"
        rcases h6 with ⟨hn, rfl⟩ | ⟨t, ht, hne, hv⟩
        · rw [hn] at hg
          walk_at "go"
          refine iteF ?_
          walk_at "go"
          exact ⟨_, _, _, _, _, rfl, ((((e2.trans e3).trans e4).trans e5).trans e6), hg⟩
        · rw [ht] at hg
          have hz := gapIn_sz ht hbS
          walk_at "go"
          refine iteT ?_
          walk_at "go"
          rename_i va vb fa fb
          refine g_sp3 fa fb hv ⟨⟨Nat.le_trans hb.1.1 (by omega), Nat.le_trans hb.1.2 (by omega)⟩, ⟨Nat.le_trans hb.2.1 (by omega), Nat.le_trans hb.2.2 (by omega)⟩, by omega⟩ (fun H7 v7 e7 h7 => ?_)
          refine q _ _ ?_ ?_
          · walk_at "same"
          · exact retPair hg.symm (by assumption)
  · obtain ⟨y3, y4, y5, y6, y7, rfl, e2, hg⟩ := hW
    rw [List.drop_of_length_le (by omega)] at hg
    walk_at "go"
    exact q _ _ e2 (retNone hg.symm)
theorem sc_to_piece : FnScope ["spot", "one", "other", "x", "y", "across", "up", "shares", "good", "share"] ["spot", "one", "other"] (defScope (topS 20)) := ⟨rfl, rfl, rfl, by decide +kernel, rfl, by decide +kernel, by decide +kernel⟩
def spToPiece (K : PySem.W.Frag) : Sp := fun vs H Q _ => ∃ x y z a b c, vs = [x, y, z] ∧ rSpot K H x a ∧ rSpot K H y b ∧ rSpot K H z c ∧ BS 30 a ∧ BS 30 b ∧ BS 30 c ∧ ∀ H' v q, Same H H' → sz q ≤ 371 → rRat K H' v q → Q v H'
theorem cross_sz {a b c : Rat} {m n : Nat} (ha : sz a ≤ m) (hb : sz b ≤ n) (h : c ∈ crossOf a b) : sz c ≤ 1 + m + 1 + n := by
  unfold crossOf at h
  split at h
  · cases h
  · obtain rfl := List.mem_singleton.mp h
    exact sz_div (sz_sub sz_0 ha) hb
theorem cross_len (a b : Rat) : (crossOf a b).length ≤ 1 := by
  unfold crossOf
  split
  · exact Nat.zero_le _
  · exact Nat.le_refl _
def sharesOf (x y across up : Rat) : List Rat := ((([0, 1] ++ crossOf x across) ++ crossOf y up) ++ crossOf (x - y) (across - up)) ++ crossOf (x + y) (across + up)
theorem shares_len (x y a u : Rat) : (sharesOf x y a u).length ≤ 6 := by
  have h1 := cross_len x a
  have h2 := cross_len y u
  have h3 := cross_len (x - y) (a - u)
  have h4 := cross_len (x + y) (a + u)
  unfold sharesOf
  simp only [List.length_append, List.length_cons, List.length_nil]
  omega
theorem shares_sz {x y a u : Rat} (hx : sz x ≤ 61) (hy : sz y ≤ 61) (ha : sz a ≤ 61) (hu : sz u ≤ 61) : ∀ s ∈ sharesOf x y a u, sz s ≤ 248 := by
  intro s hs
  unfold sharesOf at hs
  simp only [List.mem_append, List.mem_cons, List.not_mem_nil, or_false] at hs
  rcases hs with (((h | h) | h) | h) | h
  · rcases h with rfl | rfl
    · exact Nat.le_trans sz_0 (by omega)
    · exact Nat.le_trans sz_1 (by omega)
  · exact Nat.le_trans (cross_sz hx ha h) (by omega)
  · exact Nat.le_trans (cross_sz hy hu h) (by omega)
  · exact Nat.le_trans (cross_sz (sz_sub hx hy) (sz_sub ha hu) h) (by omega)
  · exact Nat.le_trans (cross_sz (sz_add hx hy) (sz_add ha hu) h) (by omega)
theorem shares_0 (x y a u : Rat) : (0 : Rat) ∈ sharesOf x y a u := by
  unfold sharesOf
  simp only [List.mem_append, List.mem_cons, true_or]
theorem sz_onWay {a b : Rat × Rat} {t : Rat} {m n : Nat} (ha : BS m a) (hb : BS m b) (ht : sz t ≤ n) : BS (m + (n + (m + m + 1)) + 1) (onWay a b t) := ⟨sz_add ha.1 (sz_mul ht (sz_sub hb.1 ha.1)), sz_add ha.2 (sz_mul ht (sz_sub hb.2 ha.2))⟩
theorem sz_apartOf {a b : Rat × Rat} {m n : Nat} (ha : BS m a) (hb : BS n b) : sz (apartOf a b) ≤ m + n + 1 := by
  unfold apartOf
  split
  · exact sz_abs (sz_sub ha.2 hb.2)
  · exact sz_abs (sz_sub ha.1 hb.1)
theorem ok_to_piece (T : Tx K mg) (d : Df K mg "to_piece" (topS 20) ["spot", "one", "other"]) (n_minus : Kn P w K mg base "minus" 3 ["one", "other"] (spR2 K (· - ·))) (n_plus : Kn P w K mg base "plus" 3 ["one", "other"] (spR2 K (· + ·))) (n_crossings : Kn P w K mg base "crossings" 4 ["start", "far"] (spCross K)) (n_less : Kn P w K mg base "less" 2 ["one", "other"] (spLess K))
    (n_least : Kn P w K mg base "least" 3 ["some"] (spLeast K)) (n_apart_of : Kn P w K mg base "apart_of" 4 ["one", "other"] (spApartOf K)) (n_on_way : Kn P w K mg base "on_way" 4 ["one", "other", "share"] (spOnWay K)) : Kn P w K mg base "to_piece" 5 ["spot", "one", "other"] (spToPiece K) := by
  refine d.kn sc_to_piece (fun vs H Q E ⟨_, _, _, _, _, _, e, _⟩ => by rw [e]; rfl) (fun f cdv A outer s H vs Q E hr h => ?_)
  obtain ⟨x1, x2, x3, a, b, c, rfl, k1, k2, k3, z1, z2, z3, q⟩ := h
  have z1' := z1
  have z2' := z2
  have z3' := z3
  obtain ⟨a1, a2⟩ := z1
  obtain ⟨b1, b2⟩ := z2
  obtain ⟨c1, c2⟩ := z3
  obtain ⟨aN, gN, rN⟩ := T.nought
  obtain ⟨aO, gO, rO⟩ := T.one
  refine ⟨_, (pss_cons (ps_par (i := 3) (j := 4) (by rfl) sc_to_piece.nd rfl rfl (by decide) rfl rfl (pa_cons (pk n_minus hr (by decide) (by rfl) (pa_cons (pe_ix (r := rIxT K) ix_tup (pv 1) pe_int (fun _ _ => rfl)) (pa_cons (pe_ix (r := rIxT K) ix_tup (pv 0) pe_int (fun _ _ => rfl)) pa_nil))) (pa_cons (pk n_minus hr (by decide) (by rfl) (pa_cons (pe_ix (r := rIxT K) ix_tup (pv 1) pe_int (fun _ _ => rfl)) (pa_cons (pe_ix (r := rIxT K) ix_tup (pv 0) pe_int (fun _ _ => rfl)) pa_nil))) pa_nil)) (by rfl))
      (pss_cons (ps_par (i := 5) (j := 6) (by rfl) sc_to_piece.nd rfl rfl (by decide) rfl rfl (pa_cons (pk n_minus hr (by decide) (by rfl) (pa_cons (pe_ix (r := rIxT K) ix_tup (pv 2) pe_int (fun _ _ => rfl)) (pa_cons (pe_ix (r := rIxT K) ix_tup (pv 1) pe_int (fun _ _ => rfl)) pa_nil))) (pa_cons (pk n_minus hr (by decide) (by rfl) (pa_cons (pe_ix (r := rIxT K) ix_tup (pv 2) pe_int (fun _ _ => rfl)) (pa_cons (pe_ix (r := rIxT K) ix_tup (pv 1) pe_int (fun _ _ => rfl)) pa_nil))) pa_nil)) (by rfl))
      (pss_cons (ps_set (i := 7) sc_to_piece.nd rfl (.inl rfl) (pe_op op_cat (pe_op op_cat (pe_lst (pa_cons (pe_glob (v := V.ref _) (by rfl) gN rfl) (pa_cons (pe_glob (v := V.ref _) (by rfl) gO rfl) pa_nil))) (pk n_crossings hr (by decide) (by rfl) (pa_cons (pv 3) (pa_cons (pv 5) pa_nil)))) (pk n_crossings hr (by decide) (by rfl) (pa_cons (pv 4) (pa_cons (pv 6) pa_nil)))))
      (pss_cons (ps_set (i := 7) sc_to_piece.nd rfl (.inl rfl) (pe_op op_cat (pe_op op_cat (pv 7) (pk n_crossings hr (by decide) (by rfl) (pa_cons (pk n_minus hr (by decide) (by rfl) (pa_cons (pv 3) (pa_cons (pv 4) pa_nil))) (pa_cons (pk n_minus hr (by decide) (by rfl) (pa_cons (pv 5) (pa_cons (pv 6) pa_nil))) pa_nil)))) (pk n_crossings hr (by decide) (by rfl) (pa_cons (pk n_plus hr (by decide) (by rfl) (pa_cons (pv 3) (pa_cons (pv 4) pa_nil))) (pa_cons (pk n_plus hr (by decide) (by rfl) (pa_cons (pv 5) (pa_cons (pv 6) pa_nil))) pa_nil)))))
      (pss_cons (ps_setLc (i := 8) (own := [("share", 9)]) (by rfl) sc_to_piece.nd rfl rfl (sw_true rfl rfl rfl (by decide +kernel)) (pi_list (pv 7)) (blkOk_by (own := [("share", 9)]) (N := ["spot", "one", "other", "x", "y", "across", "up", "shares", "good", "share"]) (sc := defScope (topS 20)) (by decide +kernel)) (fun _ _ _ _ _ => (pg_name (i := 9) sc_to_piece.nd rfl (.inl rfl))) (fun _ _ _ _ _ => (pts_one (PW.pt (pw_and (pt_not (pt_val (pk n_less hr (by decide) (by rfl) (pa_cons (pv 9) (pa_cons (pe_glob (v := V.ref _) (by rfl) gN rfl) pa_nil))))) (pw_and1 (pt_not (pt_val (pk n_less hr (by decide) (by rfl) (pa_cons (pe_glob (v := V.ref _) (by rfl) gO rfl) (pa_cons (pv 9) pa_nil)))))))))) (fun _ _ _ _ _ => (pv 9)))
      (pss_one (ps_ret (pk n_least hr (by decide) (by rfl) (pa_cons (pe_lc (own := [("share", 9)]) (by rfl) sc_to_piece.nd (pi_list (pv 8)) (blkOk_by (own := [("share", 9)]) (N := ["spot", "one", "other", "x", "y", "across", "up", "shares", "good", "share"]) (sc := defScope (topS 20)) (by decide +kernel)) (fun _ _ _ _ _ => (pg_name (i := 9) sc_to_piece.nd rfl (.inl rfl))) (fun _ _ _ _ _ => pts_nil) (fun _ _ _ _ _ => (pk n_apart_of hr (by decide) (by rfl) (pa_cons (pv 0) (pa_cons (pk n_on_way hr (by decide) (by rfl) (pa_cons (pv 1) (pa_cons (pv 2) (pa_cons (pv 9) pa_nil)))) pa_nil))))) pa_nil))))))))), ?_⟩
  walk_at "nm"
  walk_at "go"
  refine g_lst2 ?_
  walk_at "go"
  intro p hp
  generalize hv : V.ref p = v1
  generalize hH : upd _ p _ = H1
  obtain ⟨e1, h1⟩ := newL2 (K := K) (A := rRat K) hp hv hH (rN _) (rO _)
  clear hv hH
  walk_at "go"
  have lx := cross_len (b.1 - a.1) (c.1 - b.1)
  have ly := cross_len (b.2 - a.2) (c.2 - b.2)
  refine g_cat (A := rRat K) (K := K) (by walk_at "up") (by walk_at "up") (by simp only [List.length_cons, List.length_nil]; omega) (fun H2 v2 e2 h2 => ?_)
  walk_at "go"
  refine g_cat (A := rRat K) (K := K) (by walk_at "up") (by walk_at "up") (by simp only [List.length_append, List.length_cons, List.length_nil]; omega) (fun H3 v3 e3 h3 => ?_)
  walk_at "go"
  have lm := cross_len ((b.1 - a.1) - (b.2 - a.2)) ((c.1 - b.1) - (c.2 - b.2))
  have lp := cross_len ((b.1 - a.1) + (b.2 - a.2)) ((c.1 - b.1) + (c.2 - b.2))
  refine g_cat (A := rRat K) (K := K) (by walk_at "up") (by walk_at "up") (by simp only [List.length_append, List.length_cons, List.length_nil]; omega) (fun H4 v4 e4 h4 => ?_)
  walk_at "go"
  refine g_cat (A := rRat K) (K := K) (by walk_at "up") (by walk_at "up") (by simp only [List.length_append, List.length_cons, List.length_nil]; omega) (fun H5 v5 e5 h5 => ?_)
  have ex : sz (b.1 - a.1) ≤ 61 := sz_sub b1 a1
  have ey : sz (b.2 - a.2) ≤ 61 := sz_sub b2 a2
  have ea : sz (c.1 - b.1) ≤ 61 := sz_sub c1 b1
  have eu : sz (c.2 - b.2) ≤ 61 := sz_sub c2 b2
  have E1 : Same H H5 := by walk_at "same"
  replace h5 : rLst K (rRat K) H5 v5 (sharesOf (b.1 - a.1) (b.2 - a.2) (c.1 - b.1) (c.2 - b.2)) := h5
  have zL := shares_sz ex ey ea eu
  have nL := shares_len (b.1 - a.1) (b.2 - a.2) (c.1 - b.1) (c.2 - b.2)
  have oL := shares_0 (b.1 - a.1) (b.2 - a.2) (c.1 - b.1) (c.2 - b.2)
  generalize sharesOf (b.1 - a.1) (b.2 - a.2) (c.1 - b.1) (c.2 - b.2) = L at h5 zL nL oL
  walk_at "go"
  refine g_lc (K := K) (A := rRat K) (B := rRat K) (fun s => !decide (s < 0) && !decide (1 < s)) id h5 (by omega) (fun j o v6 H6 ho e6 h6 Kp Sk kp sk => ?_) (fun H6 v6 e6 h6 => ?_)
  · have hz := zL _ (List.mem_of_getElem? ho)
    have r0 := rN H6
    walk_at "go"
    refine ⟨rfl, ?_⟩
    walk_at "go"
    rename_i H7 e7
    have r1 := rO H7
    by_cases h0 : o < 0
    · rw [decide_eq_true h0]
      refine iteF (iteF (sk _ e7 ?_))
      rw [decide_eq_true h0]
      rfl
    · rw [decide_eq_false h0]
      refine iteT ?_
      walk_at "go"
      rename_i H8 e8
      by_cases h1 : 1 < o
      · rw [decide_eq_true h1]
        refine iteF (sk _ (e7.trans e8) ?_)
        rw [decide_eq_true h1, Bool.not_true, Bool.and_false]
      · rw [decide_eq_false h1]
        refine iteT ?_
        walk_at "go"
        refine kp _ _ (e7.trans e8) ?_ ?_
        · rw [decide_eq_false h1, decide_eq_false h0]
          rfl
        · show rRat K _ _ o
          walk_at "up"
  · rw [List.map_id] at h6
    have m1 := up (E1.trans e6) k1
    have m2 := up (E1.trans e6) k2
    have m3 := up (E1.trans e6) k3
    have oG : (0 : Rat) ∈ L.filter fun s => !decide (s < 0) && !decide (1 < s) := List.mem_filter.mpr ⟨oL, by decide +kernel⟩
    have zG : ∀ s ∈ L.filter (fun s => !decide (s < 0) && !decide (1 < s)), sz s ≤ 248 := fun s hs => zL s (List.mem_filter.mp hs).1
    have nG : (L.filter fun s => !decide (s < 0) && !decide (1 < s)).length ≤ 6 := Nat.le_trans (List.length_filter_le _ _) nL
    generalize (L.filter fun s => !decide (s < 0) && !decide (1 < s)) = G at h6 oG zG nG
    walk_at "go"
    refine g_lc (K := K) (A := rRat K) (B := rRat K) (fun _ => true) (fun t => apartOf a (onWay b c t)) h6 (by omega) (fun j o v7 H7 ho e7 h7 Kp Sk kp sk => ?_) (fun H7 v7 e7 h7 => ?_)
    · have hz := zG _ (List.mem_of_getElem? ho)
      have m1' := up e7 m1
      have m2' := up e7 m2
      have m3' := up e7 m3
      walk_at "go"
      refine ⟨rfl, ?_⟩
      dsimp only [tYes]
      refine iteT ?_
      walk_at "go"
      rename_i H8 v8 e8 h8
      have z8 := sz_onWay (a := b) (b := c) ⟨b1, b2⟩ ⟨c1, c2⟩ hz
      refine g_sp2 (up e8 m1') h8 ⟨⟨by omega, by omega⟩, ⟨Nat.le_trans z8.1 (by omega), Nat.le_trans z8.2 (by omega)⟩⟩ (fun H9 v9 e9 h9 => ?_)
      exact kp _ _ (e8.trans e9) rfl h9
    · rw [List.filter_eq_self.mpr (fun _ _ => rfl)] at h7
      have zR : ∀ r ∈ G.map (fun t => apartOf a (onWay b c t)), sz r ≤ 371 := fun r hr => by
        obtain ⟨t, ht, rfl⟩ := List.mem_map.mp hr
        exact Nat.le_trans (sz_apartOf ⟨a1, a2⟩ (sz_onWay ⟨b1, b2⟩ ⟨c1, c2⟩ (zG t ht))) (by omega)
      have nR : (G.map fun t => apartOf a (onWay b c t)).length ≤ 6 := by rw [List.length_map]; exact nG
      have oR : (G.map fun t => apartOf a (onWay b c t)) ≠ [] := fun e => by
        rw [List.map_eq_nil_iff] at e
        rw [e] at oG
        cases oG
      generalize (G.map fun t => apartOf a (onWay b c t)) = R at h7 zR nR oR
      obtain ⟨r, rs, rfl⟩ := List.exists_cons_of_ne_nil oR
      exact ⟨v7, r, rs, rfl, h7, fun z hz => Nat.le_trans (zR z hz) (by omega), by rw [List.length_cons] at nR; omega, fun H8 v8 z e8 hz h8 => q _ _ _ ((E1.trans e6).trans (e7.trans e8)) (zR z hz) h8⟩
theorem sc_apart : FnScope ["spot", "polyline", "one", "other"] ["spot", "polyline"] (defScope (topS 22)) := ⟨rfl, rfl, rfl, by decide +kernel, rfl, by decide +kernel, by decide +kernel⟩
def spApart (K : PySem.W.Frag) : Sp := fun vs H Q _ => ∃ x y a l, vs = [x, y] ∧ rSpot K H x a ∧ rLst K (rSpot K) H y l ∧ BS 30 a ∧ l ≠ [] ∧ l.length ≤ 900 ∧ (∀ p ∈ l, BS 30 p) ∧ ∀ H' v q, Same H H' → sz q ≤ 371 → rRat K H' v q → Q v H'
def rEx (K : PySem.W.Frag) : Rp Unit := fun H v _ => ∃ q, sz q ≤ 371 ∧ rRat K H v q
instance {K : PySem.W.Frag} : MonoT K (rEx K) := ⟨fun e ⟨q, h1, h2⟩ => ⟨q, h1, upT (K := K) e h2⟩⟩
theorem paired_ex {K : PySem.W.Frag} {H : Hp} : ∀ {vs : List V} {us : List Unit}, Paired (rEx K H) vs us → ∃ qs, Paired (rRat K H) vs qs ∧ qs.length = us.length ∧ ∀ q ∈ qs, sz q ≤ 371
  | [], [], .nil => ⟨[], .nil, rfl, fun _ h => by cases h⟩
  | _ :: _, _ :: _, .cons h t => by
    obtain ⟨q, h1, h2⟩ := h
    obtain ⟨qs, p, l, z⟩ := paired_ex t
    refine ⟨q :: qs, .cons h2 p, by rw [List.length_cons, List.length_cons, l], fun x hx => ?_⟩
    rcases List.mem_cons.mp hx with rfl | hx
    · exact h1
    · exact z x hx
theorem ok_apart (T : Tx K mg) (d : Df K mg "apart" (topS 22) ["spot", "polyline"]) (n_pieces_of : Kn P w K mg base "pieces_of" 1 ["polyline"] (spPieces K)) (n_least : Kn P w K mg base "least" 3 ["some"] (spLeast K)) (n_to_piece : Kn P w K mg base "to_piece" 5 ["spot", "one", "other"] (spToPiece K)) : Kn P w K mg base "apart" 6 ["spot", "polyline"] (spApart K) := by
  refine d.kn sc_apart (fun vs H Q E ⟨_, _, _, _, e, _⟩ => by rw [e]; rfl) (fun f cdv A outer s H vs Q E hr h => ?_)
  obtain ⟨x1, x2, a, l, rfl, k1, k2, z1, n2, l2, z2, q⟩ := h
  refine ⟨_, (pss_one (ps_ret (pk n_least hr (by decide) (by rfl) (pa_cons (pe_lc (g := (gTup K 2 (gCons (gName 2) (gCons (gName 3) gNil)))) (own := [("one", 2), ("other", 3)]) (by rfl) sc_apart.nd (pi_list (pk n_pieces_of hr (by decide) (by rfl) (pa_cons (pv 1) pa_nil))) (blkOk_by (own := [("one", 2), ("other", 3)]) (N := ["spot", "polyline", "one", "other"]) (sc := defScope (topS 22)) (by decide +kernel)) (fun _ _ _ _ _ => (pg_tup (n := 2) rfl (pgs_cons (pg_name (i := 2) sc_apart.nd rfl (.inl rfl)) (pgs_cons (pg_name (i := 3) sc_apart.nd rfl (.inl rfl)) pgs_nil)))) (fun _ _ _ _ _ => pts_nil) (fun _ _ _ _ _ => (pk n_to_piece hr (by decide) (by rfl) (pa_cons (pv 0) (pa_cons (pv 2) (pa_cons (pv 3) pa_nil)))))) pa_nil)))), ?_⟩
  walk_at "nm"
  walk_at "st"
  walk_at "st"
  walk_at "st"
  walk_at "st"
  walk_at "st"
  refine g_sp1 k2 ⟨n2, by omega⟩ (fun H1 v1 e1 h1 => ?_)
  have oP := pieces_in z2
  have oL := pieces_len l
  have oN : piecesOf l ≠ [] := by
    intro e
    unfold piecesOf at e
    split at e
    · cases e
    · rename_i hne
      match l, n2, hne with
      | [a], _, hne => exact hne a rfl
      | a :: b :: r, _, _ => cases e
  have m1 := up e1 k1
  generalize piecesOf l = L at h1 oP oL oN
  refine g_lc (K := K) (A := rPiece K) (B := rEx K) (fun _ => true) (fun _ => ()) h1 (by omega) (fun j o v7 H7 ho e7 h7 Kp Sk kp sk => ?_) (fun H7 v7 e7 h7 => ?_)
  · have hz := oP _ (List.mem_of_getElem? ho)
    have m2 := up e7 m1
    walk_at "go"
    refine ⟨rfl, ?_⟩
    dsimp only [tYes]
    refine iteT ?_
    walk_at "go"
    refine ⟨_, _, _, _, _, _, rfl, m2, by assumption, by assumption, z1, hz.1, hz.2, fun H8 v8 q8 e8 z8 h8 => ?_⟩
    exact kp _ _ e8 rfl ⟨_, z8, h8⟩
  · rw [List.filter_eq_self.mpr (fun _ _ => rfl)] at h7
    obtain ⟨p, vs, rfl, h8, h9⟩ := h7
    obtain ⟨qs, h10, h11, h12⟩ := paired_ex h9
    rw [List.length_map] at h11
    cases qs with
    | nil => exact absurd (List.length_eq_zero_iff.mp h11.symm) oN
    | cons r rs => exact ⟨_, r, rs, rfl, ⟨p, vs, rfl, h8, h10⟩, fun z hz => Nat.le_trans (h12 z hz) (by omega), by rw [List.length_cons] at h11; omega, fun H8 v8 z e8 hz h8 => q _ _ _ (e1.trans (e7.trans e8)) (h12 z hz) h8⟩
theorem sc__law_rat : FnScope ["_law_over", "_law_under", "_law_one", "_law_two"] ["_law_over", "_law_under"] (defScope (topS 35)) := ⟨rfl, rfl, rfl, by decide +kernel, rfl, by decide +kernel, by decide +kernel⟩
theorem okl_rat (T : Tx K mg) (d : Df K mg "_law_rat" (topS 35) ["_law_over", "_law_under"]) : Kn P w K mg base "_law_rat" 1 ["_law_over", "_law_under"] (spRatio K) := by
  refine d.kn sc__law_rat (fun vs H Q E h => by obtain ⟨a, b, rfl, _⟩ := h; rfl) (fun f cdv A outer s H vs Q E hr h => ?_)
  obtain ⟨n, dd, rfl, hd, hb, q⟩ := h
  refine ⟨_, (pss_cons (ps_par (i := 2) (j := 3) (by rfl) sc__law_rat.nd rfl rfl (by decide) rfl rfl (pa_cons (pe_callB call_absG (by rfl) T.m_abs (by decide +kernel) (pa_cons (pv 0) pa_nil)) (pa_cons (pe_callB call_absG (by rfl) T.m_abs (by decide +kernel) (pa_cons (pv 1) pa_nil)) pa_nil)) (by rfl))
      (pss_cons (ps_while PassesOwn.never (pt_cmpR op_gt (pv 3) pe_int (nomark _)) (pss_one (ps_par (i := 2) (j := 3) (by rfl) sc__law_rat.nd rfl rfl (by decide) rfl rfl (pa_cons (pv 3) (pa_cons (pe_op op_mod (pv 2) (pv 3)) pa_nil)) (by rfl))))
      (pss_cons (ps_if (pt_cmpR op_lt (pv 1) pe_int (nomark _)) (pss_one (ps_set (i := 2) sc__law_rat.nd rfl (.inl rfl) (pe_op op_sub pe_int (pv 2)))) pss_nil)
      (pss_one (ps_ret (pe_tup (pa_cons (pe_op op_fdivZ (pv 0) (pv 2)) (pa_cons (pe_op op_fdivZ (pv 1) (pv 2)) pa_nil)))))))), ?_⟩
  walk_at "nm"
  refine ⟨_, rfl, _, rfl, _, rfl, _, rfl, _, _, rfl, ?_⟩
  have ab : ∀ z : Int, (if z < 0 then -z else z) = (z.natAbs : Int) := fun z => by split <;> omega
  rw [ab n, ab dd]
  have p0 : part n dd ≠ 0 := part_ne hd
  have pb : (part n dd).natAbs < 2 ^ 9000 := Nat.lt_of_le_of_lt (part_le hd) hb
  have fin : ∀ σ : L2.St, σ[0]? = some (some (.int n)) → σ[1]? = some (some (.int dd)) → σ[2]? = some (some (.int (part n dd))) → tRet (tTup (tCons (tOp (rI CDivZ fun i j => .int (i.fdiv j)) (tVar 0) (tVar 2)) (tCons (tOp (rI CDivZ fun i j => .int (i.fdiv j)) (tVar 1) (tVar 2)) tNil))) { nx := fun _ H' => Q .non H', rt := Q } σ H := by
    intro σ e0 e1 e2
    refine ⟨_, e0, _, e2, _, _, rfl, rfl, fdivZ_of p0 pb (by decide) (by decide), _, e1, _, e2, _, _, rfl, rfl, fdivZ_of p0 pb (by decide) (by decide), by show 2 ≤ sizeLine; decide, ?_⟩
    exact g_mkR (num_part hd) (den_part hd) q
  refine ⟨fun m σ H' => ∃ x y : Nat, σ = [some (.int n), some (.int dd), some (.int (x : Int)), some (.int (y : Int))] ∧ m = y ∧ Nat.gcd x y = Int.gcd n dd ∧ H' = H, ⟨_, n.natAbs, dd.natAbs, rfl, rfl, rfl, rfl⟩, fun m σ H' hW => ?_⟩
  obtain ⟨x, y, rfl, rfl, hg, rfl⟩ := hW
  refine ⟨_, rfl, _, _, rfl, rfl, _, rfl, ite2 (fun e => ?_) (fun e => ?_)⟩
  · have e1 : (0 : Int) < (m : Int) := of_decide_eq_true e
    refine ⟨fun σ' H2 => ∃ x' y' : Nat, σ' = [some (.int n), some (.int dd), some (.int (x' : Int)), some (.int (y' : Int))] ∧ y' < m ∧ Nat.gcd x' y' = Int.gcd n dd ∧ H2 = H', fun σ' H2 hN => ?_, ?_⟩
    · obtain ⟨x', y', k1, k2, k3, k4⟩ := hN
      exact ⟨y', k2, x', y', k1, rfl, k3, k4⟩
    · refine ⟨_, rfl, _, rfl, _, rfl, _, _, rfl, rfl, e1, _, _, rfl, ?_⟩
      refine ⟨m, x % m, rfl, Nat.mod_lt _ (by omega), ?_, rfl⟩
      rw [← hg, Nat.gcd_comm x m, Nat.gcd_rec m x, Nat.gcd_comm]
  · have e1 : ¬ (0 : Int) < (m : Int) := fun z => e (decide_eq_true z)
    have e2 : m = 0 := by omega
    subst e2
    rw [Nat.gcd_zero_right] at hg
    refine ⟨_, rfl, _, _, rfl, rfl, _, rfl, ite2 (fun e => ?_) (fun e => ?_)⟩
    · have e1 : dd < 0 := of_decide_eq_true e
      refine ⟨_, rfl, _, _, rfl, rfl, ?_⟩
      refine fin _ rfl rfl ?_
      show some (some (V.int (0 - (x : Int)))) = _
      unfold part
      rw [if_pos e1, hg, Int.zero_sub]
    · have e1 : ¬ dd < 0 := fun z => e (decide_eq_true z)
      refine fin _ rfl rfl ?_
      show some (some (V.int ((x : Int)))) = _
      unfold part
      rw [if_neg e1, hg]

theorem sc__law_sum : FnScope ["_law_one", "_law_two"] ["_law_one", "_law_two"] (defScope (topS 36)) := ⟨rfl, rfl, rfl, by decide +kernel, rfl, by decide +kernel, by decide +kernel⟩
theorem okl_sum (T : Tx K mg) (d : Df K mg "_law_sum" (topS 36) ["_law_one", "_law_two"]) (n__law_rat : Kn P w K mg base "_law_rat" 1 ["_law_over", "_law_under"] (spRatio K)) : Kn P w K mg base "_law_sum" 2 ["_law_one", "_law_two"] (spR2 K (· + ·)) := by
  refine d.kn sc__law_sum len2 (fun f cdv A outer s H vs Q E hr h => ?_)
  obtain ⟨x, y, a, b, rfl, hx, hy, ⟨ha, hb⟩, q⟩ := h
  refine ⟨_, (pss_one (ps_ret (pk n__law_rat hr (by decide) (by rfl) (pa_cons (pe_op op_add (pe_op op_mulW (pe_ix (r := rIxT K) ix_tup (pv 0) pe_int (fun _ _ => rfl)) (pe_ix (r := rIxT K) ix_tup (pv 1) pe_int (fun _ _ => rfl))) (pe_op op_mulW (pe_ix (r := rIxT K) ix_tup (pv 1) pe_int (fun _ _ => rfl)) (pe_ix (r := rIxT K) ix_tup (pv 0) pe_int (fun _ _ => rfl)))) (pa_cons (pe_op op_mulW (pe_ix (r := rIxT K) ix_tup (pv 0) pe_int (fun _ _ => rfl)) (pe_ix (r := rIxT K) ix_tup (pv 1) pe_int (fun _ _ => rfl))) pa_nil))))), ?_⟩
  walk_at "nm"
  repeat walk_at "st"
  refine ⟨_, _, rfl, rfl, wnd ha hb, ?_⟩
  repeat walk_at "st"
  refine ⟨_, _, rfl, rfl, wnd hb ha, ?_⟩
  refine ⟨_, _, rfl, rfl, ?_⟩
  repeat walk_at "st"
  refine ⟨_, _, rfl, rfl, wdd ha hb, _, _, rfl, dd_ne a b, dd_lt ha hb, ?_⟩
  rw [add_eq]
  exact q

theorem sc__law_dif : FnScope ["_law_one", "_law_two"] ["_law_one", "_law_two"] (defScope (topS 37)) := ⟨rfl, rfl, rfl, by decide +kernel, rfl, by decide +kernel, by decide +kernel⟩
theorem okl_dif (T : Tx K mg) (d : Df K mg "_law_dif" (topS 37) ["_law_one", "_law_two"]) (n__law_rat : Kn P w K mg base "_law_rat" 1 ["_law_over", "_law_under"] (spRatio K)) : Kn P w K mg base "_law_dif" 2 ["_law_one", "_law_two"] (spR2 K (· - ·)) := by
  refine d.kn sc__law_dif len2 (fun f cdv A outer s H vs Q E hr h => ?_)
  obtain ⟨x, y, a, b, rfl, hx, hy, ⟨ha, hb⟩, q⟩ := h
  refine ⟨_, (pss_one (ps_ret (pk n__law_rat hr (by decide) (by rfl) (pa_cons (pe_op op_sub (pe_op op_mulW (pe_ix (r := rIxT K) ix_tup (pv 0) pe_int (fun _ _ => rfl)) (pe_ix (r := rIxT K) ix_tup (pv 1) pe_int (fun _ _ => rfl))) (pe_op op_mulW (pe_ix (r := rIxT K) ix_tup (pv 1) pe_int (fun _ _ => rfl)) (pe_ix (r := rIxT K) ix_tup (pv 0) pe_int (fun _ _ => rfl)))) (pa_cons (pe_op op_mulW (pe_ix (r := rIxT K) ix_tup (pv 0) pe_int (fun _ _ => rfl)) (pe_ix (r := rIxT K) ix_tup (pv 1) pe_int (fun _ _ => rfl))) pa_nil))))), ?_⟩
  walk_at "nm"
  repeat walk_at "st"
  refine ⟨_, _, rfl, rfl, wnd ha hb, ?_⟩
  repeat walk_at "st"
  refine ⟨_, _, rfl, rfl, wnd hb ha, ?_⟩
  refine ⟨_, _, rfl, rfl, ?_⟩
  repeat walk_at "st"
  refine ⟨_, _, rfl, rfl, wdd ha hb, _, _, rfl, dd_ne a b, dd_lt ha hb, ?_⟩
  rw [sub_eq]
  exact q

theorem sc__law_prod : FnScope ["_law_one", "_law_two"] ["_law_one", "_law_two"] (defScope (topS 38)) := ⟨rfl, rfl, rfl, by decide +kernel, rfl, by decide +kernel, by decide +kernel⟩
theorem okl_prod (T : Tx K mg) (d : Df K mg "_law_prod" (topS 38) ["_law_one", "_law_two"]) (n__law_rat : Kn P w K mg base "_law_rat" 1 ["_law_over", "_law_under"] (spRatio K)) : Kn P w K mg base "_law_prod" 2 ["_law_one", "_law_two"] (spR2 K (· * ·)) := by
  refine d.kn sc__law_prod len2 (fun f cdv A outer s H vs Q E hr h => ?_)
  obtain ⟨x, y, a, b, rfl, hx, hy, ⟨ha, hb⟩, q⟩ := h
  refine ⟨_, (pss_one (ps_ret (pk n__law_rat hr (by decide) (by rfl) (pa_cons (pe_op op_mulW (pe_ix (r := rIxT K) ix_tup (pv 0) pe_int (fun _ _ => rfl)) (pe_ix (r := rIxT K) ix_tup (pv 1) pe_int (fun _ _ => rfl))) (pa_cons (pe_op op_mulW (pe_ix (r := rIxT K) ix_tup (pv 0) pe_int (fun _ _ => rfl)) (pe_ix (r := rIxT K) ix_tup (pv 1) pe_int (fun _ _ => rfl))) pa_nil))))), ?_⟩
  walk_at "nm"
  repeat walk_at "st"
  refine ⟨_, _, rfl, rfl, wnn ha hb, ?_⟩
  repeat walk_at "st"
  refine ⟨_, _, rfl, rfl, wdd ha hb, _, _, rfl, dd_ne a b, dd_lt ha hb, ?_⟩
  rw [mul_eq]
  exact q

theorem sc__law_quo : FnScope ["_law_one", "_law_two"] ["_law_one", "_law_two"] (defScope (topS 39)) := ⟨rfl, rfl, rfl, by decide +kernel, rfl, by decide +kernel, by decide +kernel⟩
theorem okl_quo (T : Tx K mg) (d : Df K mg "_law_quo" (topS 39) ["_law_one", "_law_two"]) (n__law_rat : Kn P w K mg base "_law_rat" 1 ["_law_over", "_law_under"] (spRatio K)) : Kn P w K mg base "_law_quo" 2 ["_law_one", "_law_two"] (spDiv K) := by
  refine d.kn sc__law_quo len2 (fun f cdv A outer s H vs Q E hr h => ?_)
  obtain ⟨x, y, a, b, rfl, hx, hy, ⟨h0, ha, hb⟩, q⟩ := h
  refine ⟨_, (pss_one (ps_ret (pk n__law_rat hr (by decide) (by rfl) (pa_cons (pe_op op_mulW (pe_ix (r := rIxT K) ix_tup (pv 0) pe_int (fun _ _ => rfl)) (pe_ix (r := rIxT K) ix_tup (pv 1) pe_int (fun _ _ => rfl))) (pa_cons (pe_op op_mulW (pe_ix (r := rIxT K) ix_tup (pv 0) pe_int (fun _ _ => rfl)) (pe_ix (r := rIxT K) ix_tup (pv 1) pe_int (fun _ _ => rfl))) pa_nil))))), ?_⟩
  walk_at "nm"
  repeat walk_at "st"
  refine ⟨_, _, rfl, rfl, wnd ha hb, ?_⟩
  repeat walk_at "st"
  refine ⟨_, _, rfl, rfl, wdn ha hb, _, _, rfl, Int.mul_ne_zero (den_ne a) (num_ne h0), dn_lt ha hb, ?_⟩
  rw [div_eq]
  exact q

theorem sc__law_comp : FnScope ["_law_one", "_law_two"] ["_law_one", "_law_two"] (defScope (topS 40)) := ⟨rfl, rfl, rfl, by decide +kernel, rfl, by decide +kernel, by decide +kernel⟩
abbrev spComp (K : PySem.W.Frag) : Sp := sp2 (rRat K) (rRat K) rInt (fun a b => Fits a ∧ Fits b) fun a b => a.num * b.den - b.num * a.den
theorem okl_comp (T : Tx K mg) (d : Df K mg "_law_comp" (topS 40) ["_law_one", "_law_two"]) : Kn P w K mg base "_law_comp" 1 ["_law_one", "_law_two"] (spComp K) := by
  refine d.kn sc__law_comp len2 (fun f cdv A outer s H vs Q E hr h => ?_)
  obtain ⟨x, y, a, b, rfl, hx, hy, ⟨ha, hb⟩, q⟩ := h
  refine ⟨_, (pss_one (ps_ret (pe_op op_sub (pe_op op_mulW (pe_ix (r := rIxT K) ix_tup (pv 0) pe_int (fun _ _ => rfl)) (pe_ix (r := rIxT K) ix_tup (pv 1) pe_int (fun _ _ => rfl))) (pe_op op_mulW (pe_ix (r := rIxT K) ix_tup (pv 1) pe_int (fun _ _ => rfl)) (pe_ix (r := rIxT K) ix_tup (pv 0) pe_int (fun _ _ => rfl)))))), ?_⟩
  walk_at "nm"
  repeat walk_at "st"
  refine ⟨_, _, rfl, rfl, wnd ha hb, ?_⟩
  repeat walk_at "st"
  refine ⟨_, _, rfl, rfl, wnd hb ha, ?_⟩
  refine ⟨_, _, rfl, rfl, ?_⟩
  exact q _ _ (Same.refl _) rfl
theorem sc__law_on : FnScope ["_law_one", "_law_two", "_law_part", "_law_x"] ["_law_one", "_law_two", "_law_part"] (defScope (topS 45)) := ⟨rfl, rfl, rfl, by decide +kernel, rfl, by decide +kernel, by decide +kernel⟩
theorem okl_on (T : Tx K mg) (d : Df K mg "_law_on" (topS 45) ["_law_one", "_law_two", "_law_part"]) (n__law_sum : Kn P w K mg base "_law_sum" 2 ["_law_one", "_law_two"] (spR2 K (· + ·))) (n__law_dif : Kn P w K mg base "_law_dif" 2 ["_law_one", "_law_two"] (spR2 K (· - ·))) (n__law_prod : Kn P w K mg base "_law_prod" 2 ["_law_one", "_law_two"] (spR2 K (· * ·))) : Kn P w K mg base "_law_on" 3 ["_law_one", "_law_two", "_law_part"] (spOnWay K) := by
  refine d.kn sc__law_on len3 (fun f cdv A outer s H vs Q E hr h => ?_)
  obtain ⟨x, y, z, a, b, t, rfl, k1, k2, k3, ⟨⟨a1, a2⟩, ⟨b1, b2⟩, z3⟩, q⟩ := h
  refine ⟨_, (pss_cons (ps_set (i := 3) sc__law_on.nd rfl (.inl rfl) (pk n__law_sum hr (by decide) (by rfl) (pa_cons (pe_ix (r := rIxT K) ix_tup (pv 0) pe_int (fun _ _ => rfl)) (pa_cons (pk n__law_prod hr (by decide) (by rfl) (pa_cons (pv 2) (pa_cons (pk n__law_dif hr (by decide) (by rfl) (pa_cons (pe_ix (r := rIxT K) ix_tup (pv 1) pe_int (fun _ _ => rfl)) (pa_cons (pe_ix (r := rIxT K) ix_tup (pv 0) pe_int (fun _ _ => rfl)) pa_nil))) pa_nil))) pa_nil))))
      (pss_one (ps_ret (pe_tup (pa_cons (pv 3) (pa_cons (pk n__law_sum hr (by decide) (by rfl) (pa_cons (pe_ix (r := rIxT K) ix_tup (pv 0) pe_int (fun _ _ => rfl)) (pa_cons (pk n__law_prod hr (by decide) (by rfl) (pa_cons (pv 2) (pa_cons (pk n__law_dif hr (by decide) (by rfl) (pa_cons (pe_ix (r := rIxT K) ix_tup (pv 1) pe_int (fun _ _ => rfl)) (pa_cons (pe_ix (r := rIxT K) ix_tup (pv 0) pe_int (fun _ _ => rfl)) pa_nil))) pa_nil))) pa_nil))) pa_nil)))))), ?_⟩
  walk_at "nm"
  walk_at "go"
  walk_at "tup"
  exact q _ _ (by walk_at "same") (by assumption)
theorem sc__law_span : FnScope ["_law_bits_here", "_law_start", "_law_far", "_law_low", "_law_high", "_law_good", "_law_ends", "_law_first", "_law_last"] ["_law_bits_here", "_law_start", "_law_far", "_law_low", "_law_high"] (defScope (topS 47)) := ⟨rfl, rfl, rfl, by decide +kernel, rfl, by decide +kernel, by decide +kernel⟩
theorem num_neg {a : Rat} : a.num < 0 ↔ a < 0 := by
  have h := lt_num a 0
  have e : a.num * ((0 : Rat).den : Int) - (0 : Rat).num * a.den = a.num := by
    show a.num * 1 - 0 * a.den = a.num
    rw [Int.mul_one, Int.zero_mul, Int.sub_zero]
  rw [e] at h
  exact h
abbrev spSpan (K : PySem.W.Frag) : Sp := sp5 (rOpt (rSpot K)) (rRat K) (rRat K) (rRat K) (rRat K) (rOpt (rSpot K)) (fun o start far low high => (∀ s, o = some s → BS 3200 s) ∧ sz start ≤ 30 ∧ sz far ≤ 61 ∧ sz low ≤ 3090 ∧ sz high ≤ 3090) lspan
theorem okl_span (T : Tx K mg) (d : Df K mg "_law_span" (topS 47) ["_law_bits_here", "_law_start", "_law_far", "_law_low", "_law_high"]) (n__law_comp : Kn P w K mg base "_law_comp" 1 ["_law_one", "_law_two"] (spComp K)) (n__law_dif : Kn P w K mg base "_law_dif" 2 ["_law_one", "_law_two"] (spR2 K (· - ·))) (n__law_quo : Kn P w K mg base "_law_quo" 2 ["_law_one", "_law_two"] (spDiv K)) : Kn P w K mg base "_law_span" 3 ["_law_bits_here", "_law_start", "_law_far", "_law_low", "_law_high"] (spSpan K) := by
  refine d.kn sc__law_span len5 (fun f cdv A outer s H vs Q E hr h => ?_)
  obtain ⟨x1, x2, x3, x4, x5, ob, start, far, low, high, rfl, k1, k2, k3, k4, k5, ⟨z1, z2, z3, z4, z5⟩, q⟩ := h
  refine ⟨_, (pss_cons (ps_if (pt_cmpR op_in (pv 0) pe_non (nomark _)) (pss_one (ps_ret pe_non)) pss_nil)
      (pss_cons (ps_if (pt_cmpR op_eq (pe_ix (r := rIxT K) ix_tup (pv 2) pe_int (fun _ _ => rfl)) pe_int (nomark _)) (pss_cons (ps_set (i := 5) sc__law_span.nd rfl (.inl rfl) (pe_and (pe_cmpR op_le (pk n__law_comp hr (by decide) (by rfl) (pa_cons (pv 3) (pa_cons (pv 1) pa_nil))) pe_int (nomark _)) (pe_one (pe_cmpR op_le (pk n__law_comp hr (by decide) (by rfl) (pa_cons (pv 1) (pa_cons (pv 4) pa_nil))) pe_int (nomark _)))))
      (pss_one (ps_ret (pe_ifExp (pt_val (pv 5)) (pv 0) pe_non)))) pss_nil)
      (pss_cons (ps_set (i := 6) sc__law_span.nd rfl (.inl rfl) (pe_lst (pa_cons (pk n__law_quo hr (by decide) (by rfl) (pa_cons (pk n__law_dif hr (by decide) (by rfl) (pa_cons (pv 3) (pa_cons (pv 1) pa_nil))) (pa_cons (pv 2) pa_nil))) (pa_cons (pk n__law_quo hr (by decide) (by rfl) (pa_cons (pk n__law_dif hr (by decide) (by rfl) (pa_cons (pv 4) (pa_cons (pv 1) pa_nil))) (pa_cons (pv 2) pa_nil))) pa_nil))))
      (pss_cons (ps_if (pt_cmpR op_lt (pe_ix (r := rIxT K) ix_tup (pv 2) pe_int (fun _ _ => rfl)) pe_int (nomark _)) (pss_one (ps_set (i := 6) sc__law_span.nd rfl (.inl rfl) (pe_revL (pv 6)))) pss_nil)
      (pss_cons (ps_set (i := 7) sc__law_span.nd rfl (.inl rfl) (pe_ifExp (pt_cmpR op_lt (pk n__law_comp hr (by decide) (by rfl) (pa_cons (pe_ix (r := rIxT K) ix_tup (pv 0) pe_int (fun _ _ => rfl)) (pa_cons (pe_ix (r := rIxL K) ix_list (pv 6) pe_int (fun _ _ => rfl)) pa_nil))) pe_int (nomark _)) (pe_ix (r := rIxL K) ix_list (pv 6) pe_int (fun _ _ => rfl)) (pe_ix (r := rIxT K) ix_tup (pv 0) pe_int (fun _ _ => rfl))))
      (pss_cons (ps_set (i := 8) sc__law_span.nd rfl (.inl rfl) (pe_ifExp (pt_cmpR op_lt (pk n__law_comp hr (by decide) (by rfl) (pa_cons (pe_ix (r := rIxL K) ix_list (pv 6) pe_int (fun _ _ => rfl)) (pa_cons (pe_ix (r := rIxT K) ix_tup (pv 0) pe_int (fun _ _ => rfl)) pa_nil))) pe_int (nomark _)) (pe_ix (r := rIxL K) ix_list (pv 6) pe_int (fun _ _ => rfl)) (pe_ix (r := rIxT K) ix_tup (pv 0) pe_int (fun _ _ => rfl))))
      (pss_one (ps_ret (pe_ifExp (pt_cmpR op_le (pk n__law_comp hr (by decide) (by rfl) (pa_cons (pv 7) (pa_cons (pv 8) pa_nil))) pe_int (nomark _)) (pe_tup (pa_cons (pv 7) (pa_cons (pv 8) pa_nil))) pe_non))))))))), ?_⟩
  walk_at "nm"
  walk_at "go"
  rcases k1 with ⟨rfl, rfl⟩ | ⟨b, rfl, hne, k1⟩
  · walk_at "go"
    refine iteT ?_
    walk_at "go"
    exact q _ _ (Same.refl _) (retNone rfl)
  · obtain ⟨zb1, zb2⟩ := z1 b rfl
    walk_at "go"
    refine iteF ?_
    walk_at "go"
    have hF : decide (far.num = 0) = decide (far = 0) := decide_eq_decide.mpr Rat.num_eq_zero
    rw [hF]
    refine ite2 (fun e => ?_) (fun e => ?_)
    · have e0 : far = 0 := of_decide_eq_true e
      have nd : lspan (some b) start far low high = (if low ≤ start ∧ start ≤ high then some b else none) := by
        unfold lspan
        dsimp only
        rw [if_pos e0]
      walk_at "go"
      rw [comp_le]
      refine ite2 (fun e1 => ?_) (fun e1 => ?_)
      · walk_at "go"
        rw [comp_le]
        refine ite2 (fun e2 => ?_) (fun e2 => ?_)
        · walk_at "go"
          refine q _ _ (by walk_at "same") (retPair (a := b) ?_ (by walk_at "up"))
          rw [nd, if_pos ⟨of_decide_eq_true e1, of_decide_eq_true e2⟩]
        · walk_at "go"
          refine q _ _ (by walk_at "same") (retNone ?_)
          rw [nd, if_neg (fun z => e2 (decide_eq_true z.2))]
      · walk_at "go"
        refine iteF ?_
        walk_at "go"
        refine q _ _ (by walk_at "same") (retNone ?_)
        rw [nd, if_neg (fun z => e1 (decide_eq_true z.1))]
    · have e0 : ¬ far = 0 := fun z => e (decide_eq_true z)
      walk_at "go"
      refine g_lst2 ?_
      walk_at "go"
      intro p hp
      generalize hv : V.ref p = ve
      generalize hH : upd _ p _ = H1
      obtain ⟨e1, h1⟩ := newL2 (K := K) (A := rRat K) hp hv hH (by walk_at "up") (by walk_at "up")
      clear hv hH
      have b0 : sz ((low - start) / far) ≤ 3200 := by walk_at "fit"
      have b1 : sz ((high - start) / far) ≤ 3200 := by walk_at "fit"
      have s1 : Same H H1 := by walk_at "same"
      have nd : ∀ ee fi la, ee = (if far < 0 then ((high - start) / far, (low - start) / far) else ((low - start) / far, (high - start) / far)) → fi = (if b.1 < ee.1 then ee.1 else b.1) → la = (if ee.2 < b.2 then ee.2 else b.2) → lspan (some b) start far low high = (if fi ≤ la then some (fi, la) else none) := by
        rintro _ _ _ rfl rfl rfl
        unfold lspan
        dsimp only
        rw [if_neg e0]
      generalize hee : (if far < 0 then ((high - start) / far, (low - start) / far) else ((low - start) / far, (high - start) / far)) = ee at nd
      dsimp only
      with_reducible refine' g_seqM (fun σ' H2 => ∃ ve y5, σ' = [some x1, some x2, some x3, some x4, some x5, y5, some ve, none, none] ∧ Same H H2 ∧ rLst K (rRat K) H2 ve [ee.1, ee.2]) (fun N k => ?_) (fun σ' H2 m => ?_)
      · have hF : decide (far.num < 0) = decide (far < 0) := decide_eq_decide.mpr num_neg
        walk_at "go"
        rw [hF]
        refine ite2 (fun e2 => ?_) (fun e2 => ?_)
        · refine g_asg (g_rev (A := rRat K) (g_var rfl ⟨_, by walk_at "up", fun H3 v3 e3 h3 => k _ _ ⟨v3, _, rfl, Same.trans (by walk_at "same") e3, ?_⟩⟩) (fun R R' hR h => by obtain ⟨v, e, h⟩ := h; exact ⟨v, e, hR _ _ h⟩))
          rw [← hee, if_pos (of_decide_eq_true e2)]
          exact h3
        · refine g_next (k _ _ ⟨ve, _, rfl, by walk_at "same", ?_⟩)
          rw [← hee, if_neg (fun z => e2 (decide_eq_true z))]
          walk_at "up"
      · obtain ⟨vf, y5, rfl, s2, h2⟩ := m
        have be : BS 3200 ee := by
          rw [← hee]
          split
          · exact ⟨b1, b0⟩
          · exact ⟨b0, b1⟩
        obtain ⟨be1, be2⟩ := be
        have k1' := up s2 k1
        try dsimp only
        with_reducible refine' g_seq ?_
        with_reducible refine' (g_asgM (fun v H3 => Same H2 H3 ∧ rRat K H3 v (if b.1 < ee.1 then ee.1 else b.1)) (fun N k => ?_) (fun v H3 m => ?_))
        · walk_at "go"
          rw [comp_lt]
          refine ite2 (fun e2 => ?_) (fun e2 => ?_)
          · walk_at "go"
            refine k _ _ ⟨by walk_at "same", ?_⟩
            rw [if_pos (of_decide_eq_true e2)]
            walk_at "up"
          · walk_at "go"
            refine k _ _ ⟨by walk_at "same", ?_⟩
            rw [if_neg (fun z => e2 (decide_eq_true z))]
            walk_at "up"
        · obtain ⟨s3, h3⟩ := m
          have bf : sz (if b.1 < ee.1 then ee.1 else b.1) ≤ 3200 := by split <;> assumption
          replace nd := fun la => nd ee _ la rfl rfl
          generalize (if b.1 < ee.1 then ee.1 else b.1) = fi at h3 nd bf
          try dsimp only
          with_reducible refine' g_seq ?_
          with_reducible refine' (g_asgM (fun v H4 => Same H3 H4 ∧ rRat K H4 v (if ee.2 < b.2 then ee.2 else b.2)) (fun N k => ?_) (fun v4 H4 m => ?_))
          · walk_at "go"
            rw [comp_lt]
            refine ite2 (fun e2 => ?_) (fun e2 => ?_)
            · walk_at "go"
              refine k _ _ ⟨by walk_at "same", ?_⟩
              rw [if_pos (of_decide_eq_true e2)]
              walk_at "up"
            · walk_at "go"
              refine k _ _ ⟨by walk_at "same", ?_⟩
              rw [if_neg (fun z => e2 (decide_eq_true z))]
              walk_at "up"
          · obtain ⟨s4, h4⟩ := m
            have bl : sz (if ee.2 < b.2 then ee.2 else b.2) ≤ 3200 := by split <;> assumption
            replace nd := nd _ rfl
            generalize (if ee.2 < b.2 then ee.2 else b.2) = la at h4 nd bl
            walk_at "go"
            rw [comp_le]
            refine ite2 (fun e2 => ?_) (fun e2 => ?_)
            · walk_at "go"
              walk_at "tup"
              refine q _ _ (by walk_at "same") (retPair (a := (fi, la)) ?_ (by assumption))
              rw [nd, if_pos (of_decide_eq_true e2)]
            · walk_at "go"
              refine q _ _ (by walk_at "same") (retNone ?_)
              rw [nd, if_neg (fun z => e2 (decide_eq_true z))]
theorem sc__law_clip : FnScope ["_law_one", "_law_two", "_law_low", "_law_high", "_law_bits_here", "_law_k"] ["_law_one", "_law_two", "_law_low", "_law_high"] (defScope (topS 48)) := ⟨rfl, rfl, rfl, by decide +kernel, rfl, by decide +kernel, by decide +kernel⟩
abbrev spClip (K : PySem.W.Frag) : Sp := sp4 (rSpot K) (rSpot K) (rTwo K) (rTwo K) (rOpt (rSpot K)) (fun a b low high => BS 30 a ∧ BS 30 b ∧ BS 3090 low ∧ BS 3090 high) lclip
theorem lspan_sz {b r : Rat × Rat} {start far low high : Rat} {N M : Nat} (hM : N + 92 ≤ M) (h : lspan (some b) start far low high = some r) (hb : BS M b) (h1 : sz start ≤ 30) (h2 : sz far ≤ 61) (h3 : sz low ≤ N) (h4 : sz high ≤ N) : BS M r := by
  unfold lspan at h
  dsimp only at h
  by_cases h0 : far = 0
  · rw [if_pos h0] at h
    split at h
    · cases h
      exact hb
    · cases h
  · rw [if_neg h0] at h
    have e0 : sz ((low - start) / far) ≤ M := Nat.le_trans (sz_div (sz_sub h3 h1) h2) (by omega)
    have e1 : sz ((high - start) / far) ≤ M := Nat.le_trans (sz_div (sz_sub h4 h1) h2) (by omega)
    have e2 : BS M (if far < 0 then ((high - start) / far, (low - start) / far) else ((low - start) / far, (high - start) / far)) := by
      split
      · exact ⟨e1, e0⟩
      · exact ⟨e0, e1⟩
    generalize (if far < 0 then ((high - start) / far, (low - start) / far) else ((low - start) / far, (high - start) / far)) = e at h e2
    generalize ha : (if e.2 < b.2 then e.2 else b.2) = la at h
    generalize hf : (if b.1 < e.1 then e.1 else b.1) = fi at h
    have a1 : sz la ≤ M := by
      subst ha
      split
      · exact e2.2
      · exact hb.2
    have b1 : sz fi ≤ M := by
      subst hf
      split
      · exact e2.1
      · exact hb.1
    by_cases hl : fi ≤ la
    · rw [if_pos hl] at h
      cases h
      exact ⟨b1, a1⟩
    · rw [if_neg hl] at h
      cases h
theorem okl_clip (T : Tx K mg) (d : Df K mg "_law_clip" (topS 48) ["_law_one", "_law_two", "_law_low", "_law_high"]) (n__law_dif : Kn P w K mg base "_law_dif" 2 ["_law_one", "_law_two"] (spR2 K (· - ·))) (n__law_span : Kn P w K mg base "_law_span" 3 ["_law_bits_here", "_law_start", "_law_far", "_law_low", "_law_high"] (spSpan K)) : Kn P w K mg base "_law_clip" 4 ["_law_one", "_law_two", "_law_low", "_law_high"] (spClip K) := by
  refine d.kn sc__law_clip len4 (fun f cdv A outer s H vs Q E hr h => ?_)
  obtain ⟨x1, x2, x3, x4, a, b, low, high, rfl, k1, k2, k3, k4, ⟨⟨a1, a2⟩, ⟨b1, b2⟩, ⟨c1, c2⟩, ⟨d1, d2⟩⟩, q⟩ := h
  refine ⟨_, (pss_cons (ps_set (i := 4) sc__law_clip.nd rfl (.inl rfl) (pe_tup (pa_cons (pe_tup (pa_cons pe_int (pa_cons pe_int pa_nil))) (pa_cons (pe_tup (pa_cons pe_int (pa_cons pe_int pa_nil))) pa_nil))))
      (pss_cons (ps_for PassesOwn.never rfl (pi_range1 (by rfl) T.m_range (pa_cons pe_int pa_nil)) (pg_name (i := 5) sc__law_clip.nd rfl (.inl rfl)) (pss_one (ps_set (i := 4) sc__law_clip.nd rfl (.inl rfl) (pk n__law_span hr (by decide) (by rfl) (pa_cons (pv 4) (pa_cons (pe_ix (r := rIxT K) ix_tup (pv 0) (pv 5) (fun _ _ => rfl)) (pa_cons (pk n__law_dif hr (by decide) (by rfl) (pa_cons (pe_ix (r := rIxT K) ix_tup (pv 1) (pv 5) (fun _ _ => rfl)) (pa_cons (pe_ix (r := rIxT K) ix_tup (pv 0) (pv 5) (fun _ _ => rfl)) pa_nil))) (pa_cons (pe_ix (r := rIx K) ix_seq (pv 2) (pv 5) (fun _ _ => rfl)) (pa_cons (pe_ix (r := rIx K) ix_seq (pv 3) (pv 5) (fun _ _ => rfl)) pa_nil)))))))))
      (pss_one (ps_ret (pv 4))))), ?_⟩
  walk_at "nm"
  walk_at "go"
  intro p hp
  generalize hv : V.ref p = vN
  generalize hH : upd _ p _ = H1
  obtain ⟨e1, h1⟩ := newR (K := K) 0 rfl rfl hp hv hH
  clear hv hH
  walk_at "go"
  intro p2 hp2
  generalize hv : V.ref p2 = vO
  generalize hH : upd _ p2 _ = H2
  obtain ⟨e2, h2⟩ := newR (K := K) 1 rfl rfl hp2 hv hH
  clear hv hH
  intro p3 hp3
  generalize hv : V.ref p3 = vS
  generalize hH : upd _ p3 _ = H3
  obtain ⟨e3, h3⟩ := newT2 (K := K) (A := rRat K) (B := rRat K) hp3 hv hH (up e2 h1) h2
  clear hv hH
  walk_at "go"
  with_reducible refine' g_rng1 ?_
  walk_at "go"
  have E3 : Same H H3 := by walk_at "same"
  have k1' := up E3 k1
  have k2' := up E3 k2
  have k3' := up E3 k3
  have k4' := up E3 k4
  refine g_rngN (n := 2) (by omega) (fun i σ' H' => ∃ vs x5, σ' = [some x1, some x2, some x3, some x4, some vs, x5] ∧ Same H3 H' ∧
    rOpt (rSpot K) H' vs (match i with | 0 => some (0, 1) | 1 => lspan (some (0, 1)) a.1 (b.1 - a.1) low.1 high.1 | _ => lclip a b low high))
    ⟨vS, none, rfl, Same.refl _, retPair rfl h3⟩ (fun i σ' H' hi hW => ?_) (fun σ' H' hW => ?_)
  · obtain ⟨vs, x5, rfl, s1, hs⟩ := hW
    replace k1' := up s1 k1'
    replace k2' := up s1 k2'
    replace k3' := up s1 k3'
    replace k4' := up s1 k4'
    match i, hi with
    | 0, _ =>
      replace hs : rOpt (rSpot K) H' vs (some (0, 1)) := hs
      rw [show ((0 : Nat) : Int) = 0 from rfl]
      walk_at "go"
      refine g_sp5 (by walk_at "up") (by walk_at "up") (by walk_at "up") (by walk_at "up") (by walk_at "up") ⟨fun s e => by cases e; exact ⟨Nat.le_trans sz_0 (by omega), Nat.le_trans sz_1 (by omega)⟩, by walk_at "fit", by walk_at "fit", by walk_at "fit", by walk_at "fit"⟩ (fun H4 v4 e4 h4 => ?_)
      exact ⟨_, _, rfl, Same.trans s1 (by walk_at "same"), by assumption⟩
    | 1, _ =>
      replace hs : rOpt (rSpot K) H' vs (lspan (some (0, 1)) a.1 (b.1 - a.1) low.1 high.1) := hs
      rw [show ((1 : Nat) : Int) = 1 from rfl]
      walk_at "go"
      refine g_sp5 (by walk_at "up") (by walk_at "up") (by walk_at "up") (by walk_at "up") (by walk_at "up") ⟨fun s e => lspan_sz (M := 3200) (N := 3090) (by omega) e ⟨Nat.le_trans sz_0 (by omega), Nat.le_trans sz_1 (by omega)⟩ a1 (by walk_at "fit") c1 d1, by walk_at "fit", by walk_at "fit", by walk_at "fit", by walk_at "fit"⟩ (fun H4 v4 e4 h4 => ?_)
      exact ⟨_, _, rfl, Same.trans s1 (by walk_at "same"), by assumption⟩
    | i + 2, hi => omega
  · obtain ⟨vs, x5, rfl, s1, hs⟩ := hW
    walk_at "go"
    exact q _ _ (by walk_at "same") hs
theorem sc__law_reaches : FnScope ["_law_spot_here", "_law_polyline", "_law_room", "_law_low", "_law_high", "_law_k", "_law_one"] ["_law_spot_here", "_law_polyline", "_law_room"] (defScope (topS 49)) := ⟨rfl, rfl, rfl, by decide +kernel, rfl, by decide +kernel, by decide +kernel⟩
abbrev spReach (K : PySem.W.Frag) : Sp := sp3 (rSpot K) (rLst K (rSpot K)) (rRat K) rBool (fun p l room => BS 2700 p ∧ ((∀ c ∈ l, BS 30 c) ∧ l.length ≤ 900) ∧ sz room ≤ 380) lreach
theorem okl_reaches (T : Tx K mg) (d : Df K mg "_law_reaches" (topS 49) ["_law_spot_here", "_law_polyline", "_law_room"]) (n__law_sum : Kn P w K mg base "_law_sum" 2 ["_law_one", "_law_two"] (spR2 K (· + ·))) (n__law_dif : Kn P w K mg base "_law_dif" 2 ["_law_one", "_law_two"] (spR2 K (· - ·))) (n__law_clip : Kn P w K mg base "_law_clip" 4 ["_law_one", "_law_two", "_law_low", "_law_high"] (spClip K)) : Kn P w K mg base "_law_reaches" 5 ["_law_spot_here", "_law_polyline", "_law_room"] (spReach K) := by
  refine d.kn sc__law_reaches len3 (fun f cdv A outer s H vs Q E hr h => ?_)
  obtain ⟨x1, x2, x3, a, l, room, rfl, k1, k2, k3, ⟨⟨a1, a2⟩, ⟨zl, nl⟩, z3⟩, q⟩ := h
  refine ⟨_, (pss_cons (ps_set (i := 3) sc__law_reaches.nd rfl (.inl rfl) (pe_tup (pa_cons (pk n__law_dif hr (by decide) (by rfl) (pa_cons (pe_ix (r := rIxT K) ix_tup (pv 0) pe_int (fun _ _ => rfl)) (pa_cons (pv 2) pa_nil))) (pa_cons (pk n__law_dif hr (by decide) (by rfl) (pa_cons (pe_ix (r := rIxT K) ix_tup (pv 0) pe_int (fun _ _ => rfl)) (pa_cons (pv 2) pa_nil))) pa_nil))))
      (pss_cons (ps_set (i := 4) sc__law_reaches.nd rfl (.inl rfl) (pe_tup (pa_cons (pk n__law_sum hr (by decide) (by rfl) (pa_cons (pe_ix (r := rIxT K) ix_tup (pv 0) pe_int (fun _ _ => rfl)) (pa_cons (pv 2) pa_nil))) (pa_cons (pk n__law_sum hr (by decide) (by rfl) (pa_cons (pe_ix (r := rIxT K) ix_tup (pv 0) pe_int (fun _ _ => rfl)) (pa_cons (pv 2) pa_nil))) pa_nil))))
      (pss_cons (ps_for PassesOwn.never rfl (pi_range1 (by rfl) T.m_range (pa_cons (pe_callB call_lenG (by rfl) T.m_len (by decide +kernel) (pa_cons (pv 1) pa_nil)) pa_nil)) (pg_name (i := 5) sc__law_reaches.nd rfl (.inl rfl)) (pss_cons (ps_set (i := 6) sc__law_reaches.nd rfl (.inl rfl) (pe_ix (r := rIxL K) ix_list (pv 1) (pe_callB (call_maxG rfl) (by rfl) T.m_max (by decide +kernel) (pa_cons pe_int (pa_cons (pe_op op_sub (pv 5) pe_int) pa_nil))) (fun _ _ => rfl)))
      (pss_one (ps_if (pt_cmpR op_nn (pk n__law_clip hr (by decide) (by rfl) (pa_cons (pv 6) (pa_cons (pe_ix (r := rIxL K) ix_list (pv 1) (pv 5) (fun _ _ => rfl)) (pa_cons (pv 3) (pa_cons (pv 4) pa_nil))))) pe_non (nomark _)) (pss_one (ps_ret pe_bl)) pss_nil))))
      (pss_one (ps_ret pe_bl))))), ?_⟩
  walk_at "nm"
  walk_at "go"
  intro p hp
  generalize hv : V.ref p = vL
  generalize hH : upd _ p _ = H1
  obtain ⟨e1, h1⟩ := newT2 (K := K) (A := rRat K) (B := rRat K) hp hv hH (by walk_at "up") (by walk_at "up")
  clear hv hH
  have E1 : Same H H1 := by walk_at "same"
  replace k1 := up E1 k1
  replace k2 := up E1 k2
  replace k3 := up E1 k3
  walk_at "go"
  intro p2 hp2
  generalize hv : V.ref p2 = vU
  generalize hH : upd _ p2 _ = H2
  obtain ⟨e2, h2⟩ := newT2 (K := K) (A := rRat K) (B := rRat K) hp2 hv hH (by walk_at "up") (by walk_at "up")
  clear hv hH
  have E2 : Same H1 H2 := by walk_at "same"
  replace k2 := up E2 k2
  replace h1 := up E2 h1
  have q1 := ret_same q (E1.trans E2)
  have z1 : BS 3090 (a.1 - room, a.2 - room) := ⟨by walk_at "fit", by walk_at "fit"⟩
  have z2 : BS 3090 (a.1 + room, a.2 + room) := ⟨by walk_at "fit", by walk_at "fit"⟩
  clear q
  walk_at "go"
  with_reducible refine' g_rng1 ?_
  walk_at "go"
  refine g_rngN (n := l.length) (by omega) (fun i σ' H' => ∃ x5 x6, σ' = [some x1, some x2, some x3, some vL, some vU, x5, x6] ∧ Same H2 H' ∧
    ∀ j, j < i → lreach1 a l room j = false)
    ⟨none, none, rfl, Same.refl _, fun j hj => absurd hj (Nat.not_lt_zero _)⟩ (fun i σ' H' hi hW => ?_) (fun σ' H' hW => ?_)
  · obtain ⟨x5, x6, rfl, s1, hs⟩ := hW
    have k2' := up s1 k2
    have h1' := up s1 h1
    have h2' := up s1 h2
    walk_at "go"
    have hm : (if (i : Int) - 1 > 0 then (i : Int) - 1 else 0) = ((i - 1 : Nat) : Int) := by split <;> omega
    rw [hm]
    have hj1 : i - 1 < l.length := by omega
    refine g_ixL (j := i - 1) k2' (List.getElem?_eq_getElem hj1) (fun v hv => ?_)
    walk_at "go"
    refine g_ixL (j := i) k2' (List.getElem?_eq_getElem hi) (fun v2 hv2 => ?_)
    walk_at "go"
    have hD : lreach1 a l room i = (lclip l[i - 1] l[i] (a.1 - room, a.2 - room) (a.1 + room, a.2 + room)).isSome := by
      unfold lreach1
      rw [List.getD_eq_getElem?_getD, List.getD_eq_getElem?_getD, List.getElem?_eq_getElem hj1, List.getElem?_eq_getElem hi]
      rfl
    refine g_sp4 hv hv2 (.inl h1') (.inl h2') ⟨zl _ (List.getElem_mem _), zl _ (List.getElem_mem _), z1, z2⟩ (fun H4 v4 e4 h4 => ?_)
    generalize lclip l[i - 1] l[i] (a.1 - room, a.2 - room) (a.1 + room, a.2 + room) = o at hD h4
    rcases h4 with ⟨rfl, rfl⟩ | ⟨r, rfl, hne, hr⟩
    · walk_at "go"
      refine iteF ?_
      walk_at "go"
      refine ⟨_, _, rfl, s1.trans e4, fun j hj => ?_⟩
      by_cases hji : j = i
      · subst hji
        exact hD
      · exact hs j (by omega)
    · walk_at "go"
      refine iteT ?_
      walk_at "go"
      refine q1 _ _ (s1.trans e4) ?_
      have : lreach a l room = true := by
        unfold lreach
        rw [List.any_eq_true]
        exact ⟨i, List.mem_range.mpr hi, hD⟩
      rw [this]
      rfl
  · obtain ⟨x5, x6, rfl, s1, hs⟩ := hW
    walk_at "go"
    refine q1 _ _ s1 ?_
    have : lreach a l room = false := by
      unfold lreach
      rw [List.any_eq_false]
      intro j hj
      rw [hs j (List.mem_range.mp hj)]
      decide
    rw [this]
    rfl
theorem sc__law_bits : FnScope ["_law_one", "_law_two", "_law_a", "_law_b", "_law_room", "_law_low", "_law_high", "_law_k", "_law_ends"] ["_law_one", "_law_two", "_law_a", "_law_b", "_law_room"] (defScope (topS 50)) := ⟨rfl, rfl, rfl, by decide +kernel, rfl, by decide +kernel, by decide +kernel⟩
def bitsOf (one two a b : Rat × Rat) (room : Rat) : Option (Rat × Rat) := lclip one two ((sortedTwo a.1 b.1).1 - room, (sortedTwo a.2 b.2).1 - room) ((sortedTwo a.1 b.1).2 + room, (sortedTwo a.2 b.2).2 + room)
abbrev spBits (K : PySem.W.Frag) : Sp := sp5 (rSpot K) (rSpot K) (rSpot K) (rSpot K) (rRat K) (rOpt (rSpot K)) (fun one two a b room => BS 30 one ∧ BS 30 two ∧ BS 30 a ∧ BS 30 b ∧ sz room ≤ 380) bitsOf
theorem okl_bits (T : Tx K mg) (d : Df K mg "_law_bits" (topS 50) ["_law_one", "_law_two", "_law_a", "_law_b", "_law_room"]) (n__law_comp : Kn P w K mg base "_law_comp" 1 ["_law_one", "_law_two"] (spComp K)) (n__law_sum : Kn P w K mg base "_law_sum" 2 ["_law_one", "_law_two"] (spR2 K (· + ·))) (n__law_dif : Kn P w K mg base "_law_dif" 2 ["_law_one", "_law_two"] (spR2 K (· - ·))) (n__law_clip : Kn P w K mg base "_law_clip" 4 ["_law_one", "_law_two", "_law_low", "_law_high"] (spClip K)) : Kn P w K mg base "_law_bits" 5 ["_law_one", "_law_two", "_law_a", "_law_b", "_law_room"] (spBits K) := by
  refine d.kn sc__law_bits len5 (fun f cdv A outer s H vs Q E hr h => ?_)
  obtain ⟨x1, x2, x3, x4, x5, one, two, a, b, room, rfl, k1, k2, k3, k4, k5, ⟨z1, z2, ⟨a1, a2⟩, ⟨b1, b2⟩, z5⟩, q⟩ := h
  refine ⟨_, (pss_cons (ps_par (i := 5) (j := 6) (by rfl) sc__law_bits.nd rfl rfl (by decide) rfl rfl (pa_cons (pe_lst pa_nil) (pa_cons (pe_lst pa_nil) pa_nil)) (by rfl))
      (pss_cons (ps_for PassesOwn.never rfl (pi_range1 (by rfl) T.m_range (pa_cons pe_int pa_nil)) (pg_name (i := 7) sc__law_bits.nd rfl (.inl rfl)) (pss_cons (ps_set (i := 8) sc__law_bits.nd rfl (.inl rfl) (pe_ifExp (pt_cmpR op_le (pk n__law_comp hr (by decide) (by rfl) (pa_cons (pe_ix (r := rIxT K) ix_tup (pv 2) (pv 7) (fun _ _ => rfl)) (pa_cons (pe_ix (r := rIxT K) ix_tup (pv 3) (pv 7) (fun _ _ => rfl)) pa_nil))) pe_int (nomark _)) (pe_lst (pa_cons (pe_ix (r := rIxT K) ix_tup (pv 2) (pv 7) (fun _ _ => rfl)) (pa_cons (pe_ix (r := rIxT K) ix_tup (pv 3) (pv 7) (fun _ _ => rfl)) pa_nil))) (pe_lst (pa_cons (pe_ix (r := rIxT K) ix_tup (pv 3) (pv 7) (fun _ _ => rfl)) (pa_cons (pe_ix (r := rIxT K) ix_tup (pv 2) (pv 7) (fun _ _ => rfl)) pa_nil)))))
      (pss_cons (ps_expr (pe_bm PySem.F.plainAttrs_list PySem.F.slot_list_append PySem.F.type_list_append mt_append (pv 5) (pa_cons (pk n__law_dif hr (by decide) (by rfl) (pa_cons (pe_ix (r := rIxL K) ix_list (pv 8) pe_int (fun _ _ => rfl)) (pa_cons (pv 4) pa_nil))) pa_nil)))
      (pss_one (ps_expr (pe_bm PySem.F.plainAttrs_list PySem.F.slot_list_append PySem.F.type_list_append mt_append (pv 6) (pa_cons (pk n__law_sum hr (by decide) (by rfl) (pa_cons (pe_ix (r := rIxL K) ix_list (pv 8) pe_int (fun _ _ => rfl)) (pa_cons (pv 4) pa_nil))) pa_nil)))))))
      (pss_one (ps_ret (pk n__law_clip hr (by decide) (by rfl) (pa_cons (pv 0) (pa_cons (pv 1) (pa_cons (pv 5) (pa_cons (pv 6) pa_nil))))))))), ?_⟩
  walk_at "nm"
  walk_at "go"
  refine g_lst0 (K := K) (fun pL hL => ?_)
  refine g_lst0 (K := K) (fun pU hU => ?_)
  have hUL : pU ≠ pL := fun e => by
    rw [e, upd_same] at hU
    cases hU
  have hU0 : H pU = none := by
    rw [upd_ne hUL] at hU
    exact hU
  generalize hH1 : upd (upd H pL (.lst [])) pU (.lst []) = H1
  have hL1 : H1 pL = some (.lst []) := by rw [← hH1, upd_ne (Ne.symm hUL), upd_same]
  have hU1 : H1 pU = some (.lst []) := by rw [← hH1, upd_same]
  have E1 : Same H H1 := by
    rw [← hH1]
    exact same_own hU0 (same_own hL (Same.refl _))
  clear hH1 hU
  walk_at "go"
  with_reducible refine' g_rng1 ?_
  walk_at "go"
  refine g_rngN (n := 2) (by omega) (fun i σ' H' => ∃ x7 x8 vL vU, σ' = [some x1, some x2, some x3, some x4, some x5, some (.ref pL), some (.ref pU), x7, x8] ∧ Same H H' ∧ H' pL = some (.lst vL) ∧ H' pU = some (.lst vU) ∧
    Paired (rRat K H') vL ((List.range i).map fun j => (sortedTwo (cI j a) (cI j b)).1 - room) ∧ Paired (rRat K H') vU ((List.range i).map fun j => (sortedTwo (cI j a) (cI j b)).2 + room))
    ⟨none, none, [], [], rfl, E1, hL1, hU1, .nil, .nil⟩ (fun i σ' H' hi hW => ?_) (fun σ' H' hW => ?_)
  · obtain ⟨x7, x8, vL, vU, rfl, s1, cL, cU, pl, pu⟩ := hW
    have m3 := up s1 k3
    have m4 := up s1 k4
    have m5 := up s1 k5
    have ya := sz_cI (i := i) (q := a) (n := 30) ⟨a1, a2⟩
    have yb := sz_cI (i := i) (q := b) (n := 30) ⟨b1, b2⟩
    rw [List.range_succ, List.map_append, List.map_append, List.map_singleton, List.map_singleton]
    have nl := pl.length
    have nu := pu.length
    rw [List.length_map, List.length_range] at nl nu
    generalize ((List.range i).map fun j => (sortedTwo (cI j a) (cI j b)).1 - room) = LL at pl
    generalize ((List.range i).map fun j => (sortedTwo (cI j a) (cI j b)).2 + room) = UU at pu
    have zs : BS 30 (sortedTwo (cI i a) (cI i b)) := sz_sorted ya yb
    walk_at "nm"
    walk_at "st"
    walk_at "st"
    with_reducible refine' (g_asgM (fun v H3 => Same H' H3 ∧ v ≠ .ref pL ∧ rLst K (rRat K) H3 v [(sortedTwo (cI i a) (cI i b)).1, (sortedTwo (cI i a) (cI i b)).2]) (fun N k => ?_) (fun v H3 m => ?_))
    · walk_at "go"
      refine g_ixI hi m3 (fun va ha => ?_)
      walk_at "go"
      refine g_ixI hi m4 (fun vb hb => ?_)
      walk_at "go"
      rw [comp_le]
      refine ite2 (fun e2 => ?_) (fun e2 => ?_)
      · refine g_lst2 ?_
        walk_at "go"
        refine g_ixI hi (by walk_at "up") (fun va ha => ?_)
        walk_at "go"
        refine g_ixI hi (by walk_at "up") (fun vb hb => ?_)
        intro p hp
        generalize hv : V.ref p = ve
        generalize hH : upd _ p _ = H3
        obtain ⟨e3, h3⟩ := newL2 (K := K) (A := rRat K) hp hv hH (by walk_at "up") (by walk_at "up")
        have hn : ve ≠ .ref pL := fun e => by
          rw [← hv] at e
          cases e
          have z := hp.symm.trans ((show Same H' _ by walk_at "same") _ _ cL)
          cases z
        clear hv hH
        refine k _ _ ⟨by walk_at "same", hn, ?_⟩
        unfold sortedTwo
        rw [if_neg (fun z => Rat.not_lt.mpr (of_decide_eq_true e2) z)]
        exact h3
      · refine g_lst2 ?_
        walk_at "go"
        refine g_ixI hi (by walk_at "up") (fun va ha => ?_)
        walk_at "go"
        refine g_ixI hi (by walk_at "up") (fun vb hb => ?_)
        intro p hp
        generalize hv : V.ref p = ve
        generalize hH : upd _ p _ = H3
        obtain ⟨e3, h3⟩ := newL2 (K := K) (A := rRat K) hp hv hH (by walk_at "up") (by walk_at "up")
        have hn : ve ≠ .ref pL := fun e => by
          rw [← hv] at e
          cases e
          have z := hp.symm.trans ((show Same H' _ by walk_at "same") _ _ cL)
          cases z
        clear hv hH
        refine k _ _ ⟨by walk_at "same", hn, ?_⟩
        unfold sortedTwo
        rw [if_pos (Rat.not_le.mp (fun z => e2 (decide_eq_true z)))]
        exact h3
    · obtain ⟨s3, hn, h3⟩ := m
      generalize sortedTwo (cI i a) (cI i b) = s at h3 zs
      obtain ⟨zs1, zs2⟩ := zs
      have n5 := up s3 m5
      have oL := s3 _ _ cL
      have oU := s3 _ _ cU
      replace pl := paired_up s3 pl
      replace pu := paired_up s3 pu
      walk_at "go"
      refine ⟨tyL oL, ?_⟩
      walk_at "go"
      rename_i v1 f1 H4 v2 e4 f2
      refine g_app (e4 _ _ oL) (by omega) ?_
      have t1 := ts_upd (K := K) (o := .lst (vL ++ [v2])) (e4 _ _ oL)
      have uL : upd H4 pL (.lst (vL ++ [v2])) pL = some (.lst (vL ++ [v2])) := upd_same
      have uU : upd H4 pL (.lst (vL ++ [v2])) pU = some (.lst vU) := by rw [upd_ne hUL]; exact e4 _ _ oU
      have uE : Same H (upd H4 pL (.lst (vL ++ [v2]))) := same_own hL (s1.trans (s3.trans e4))
      have u5 : rRat K (upd H4 pL (.lst (vL ++ [v2]))) x5 room := upT (K := K) t1 (up e4 n5)
      replace pl := paired_snoc (paired_ts t1 (paired_up e4 pl)) (upT (K := K) t1 f2)
      replace pu := paired_ts (K := K) t1 (paired_up e4 pu)
      have h4 : rLst K (rRat K) (upd H4 pL (.lst (vL ++ [v2]))) v [s.1, s.2] := by
        obtain ⟨p, vs, e, h, hP⟩ := h3
        refine ⟨p, vs, e, ?_, paired_ts t1 (paired_up e4 hP)⟩
        rw [upd_ne (fun z => hn (by rw [e, z]))]
        exact e4 _ _ h
      generalize upd H4 pL (.lst (vL ++ [v2])) = H5 at t1 uL uU uE u5 pl pu h4
      walk_at "go"
      refine ⟨tyL uU, ?_⟩
      walk_at "go"
      rename_i v3 f3 H6 v4 e6 f4
      refine g_app (e6 _ _ uU) (by omega) ?_
      have t2 := ts_upd (K := K) (o := .lst (vU ++ [v4])) (e6 _ _ uU)
      refine ⟨_, _, vL ++ [v2], vU ++ [v4], rfl, same_own hU0 (uE.trans e6), ?_, upd_same, paired_ts t2 (paired_up e6 pl), paired_snoc (paired_ts t2 (paired_up e6 pu)) (upT (K := K) t2 f4)⟩
      rw [upd_ne (Ne.symm hUL)]
      exact e6 _ _ uL
  · obtain ⟨x7, x8, vL, vU, rfl, s1, cL, cU, pl, pu⟩ := hW
    have m1 := up s1 k1
    have m2 := up s1 k2
    have q1 := ret_same q s1
    unfold bitsOf at q1
    replace pl : rTwo K H' (.ref pL) ((sortedTwo a.1 b.1).1 - room, (sortedTwo a.2 b.2).1 - room) := .inr ⟨pL, vL, rfl, cL, pl⟩
    replace pu : rTwo K H' (.ref pU) ((sortedTwo a.1 b.1).2 + room, (sortedTwo a.2 b.2).2 + room) := .inr ⟨pU, vU, rfl, cU, pu⟩
    obtain ⟨y1, y2⟩ : BS 30 (sortedTwo a.1 b.1) := sz_sorted a1 b1
    obtain ⟨y3, y4⟩ : BS 30 (sortedTwo a.2 b.2) := sz_sorted a2 b2
    walk_at "go"
    exact q1 _ _ (by assumption) (by assumption)
theorem sc__law_whole : FnScope ["_law_found"] ["_law_found"] (defScope (topS 33)) := ⟨rfl, rfl, rfl, by decide +kernel, rfl, by decide +kernel, by decide +kernel⟩
abbrev spYes {α : Type} (A : Rp α) (pre : α → Prop) : Sp := sp1 A rBool pre (fun _ => true)
theorem okl_whole (T : Tx K mg) (d : Df K mg "_law_whole" (topS 33) ["_law_found"]) : Kn P w K mg base "_law_whole" 1 ["_law_found"] (spYes rInt fun _ => True) := by
  refine d.kn sc__law_whole len1 (fun f cdv A outer s H vs Q E hr h => ?_)
  obtain ⟨x1, i, rfl, k1, _, q⟩ := h
  cases k1
  refine ⟨_, (pss_one (ps_ret (pe_and (pe_callB call_isi (by rfl) T.m_isinstance (by decide +kernel) (pa_cons (pv 0) (pa_cons (pe_bltn (v := .ty "int") (by rfl) T.m_int (by decide +kernel) rfl) pa_nil))) (pe_one (pe_not (pe_callB call_isi (by rfl) T.m_isinstance (by decide +kernel) (pa_cons (pv 0) (pa_cons (pe_bltn (v := .ty "bool") (by rfl) T.m_bool (by decide +kernel) rfl) pa_nil)))))))), ?_⟩
  walk_at "nm"
  walk_at "go"
  refine isi_int ?_
  walk_at "go"
  refine iteT ?_
  walk_at "go"
  refine isi_intB ?_
  walk_at "go"
  exact q _ _ (Same.refl _) rfl
theorem sc__law_is_ratio : FnScope ["_law_one"] ["_law_one"] (defScope (topS 41)) := ⟨rfl, rfl, rfl, by decide +kernel, rfl, by decide +kernel, by decide +kernel⟩
theorem okl_is_ratio (T : Tx K mg) (d : Df K mg "_law_is_ratio" (topS 41) ["_law_one"]) (n__law_whole : Kn P w K mg base "_law_whole" 1 ["_law_found"] (spYes rInt fun _ => True)) (n__law_rat : Kn P w K mg base "_law_rat" 1 ["_law_over", "_law_under"] (spRatio K)) : Kn P w K mg base "_law_is_ratio" 2 ["_law_one"] (spYes (rRat K) fun a => sz a ≤ 2700) := by
  refine d.kn sc__law_is_ratio len1 (fun f cdv A outer s H vs Q E hr h => ?_)
  obtain ⟨x1, a, rfl, k1, z1, q⟩ := h
  refine ⟨_, (pss_cons (ps_if (PW.pt (pw_or (pt_not (pt_val (pe_callB call_isi (by rfl) T.m_isinstance (by decide +kernel) (pa_cons (pv 0) (pa_cons (pe_bltn (v := .ty "tuple") (by rfl) T.m_tuple (by decide +kernel) rfl) pa_nil))))) (pw_or1 (pt_cmpR op_ne (pe_callB call_lenG (by rfl) T.m_len (by decide +kernel) (pa_cons (pv 0) pa_nil)) pe_int (nomark _))))) (pss_one (ps_ret pe_bl)) pss_nil)
      (pss_cons (ps_if (PW.pt (pw_or (pt_not (pt_val (pk n__law_whole hr (by decide) (by rfl) (pa_cons (pe_ix (r := rIxT K) ix_tup (pv 0) pe_int (fun _ _ => rfl)) pa_nil)))) (pw_or1 (pt_not (pt_val (pk n__law_whole hr (by decide) (by rfl) (pa_cons (pe_ix (r := rIxT K) ix_tup (pv 0) pe_int (fun _ _ => rfl)) pa_nil))))))) (pss_one (ps_ret pe_bl)) pss_nil)
      (pss_one (ps_ret (pe_and (pe_cmpR op_gt (pe_ix (r := rIxT K) ix_tup (pv 0) pe_int (fun _ _ => rfl)) pe_int (nomark _)) (pe_one (pe_cmpR (op_eqD hr.units) (pk n__law_rat hr (by decide) (by rfl) (pa_cons (pe_ix (r := rIxT K) ix_tup (pv 0) pe_int (fun _ _ => rfl)) (pa_cons (pe_ix (r := rIxT K) ix_tup (pv 0) pe_int (fun _ _ => rfl)) pa_nil))) (pv 0) (nomark _)))))))), ?_⟩
  walk_at "nm"
  have k0 := k1
  obtain ⟨p, rfl, hT⟩ := k0
  walk_at "go"
  refine isi_tup hT ?_
  walk_at "go"
  refine iteF ?_
  walk_at "go"
  refine g_lenT hT ?_
  walk_at "go"
  refine iteF ?_
  walk_at "go"
  refine g_sp1B rfl trivial (fun H1 e1 => ?_)
  walk_at "go"
  refine iteF ?_
  walk_at "go"
  refine g_sp1B rfl trivial (fun H2 e2 => ?_)
  walk_at "go"
  refine iteF ?_
  walk_at "go"
  have hp : decide ((0 : Int) < (a.den : Int)) = true := decide_eq_true (by have := a.den_pos; omega)
  rw [hp]
  refine iteT ?_
  walk_at "go"
  have e0 : (a.den : Int) ≠ 0 := den_ne a
  refine ⟨_, _, rfl, e0, ?_, ?_⟩
  · have h1 := den_lt a
    rw [Int.natAbs_natCast]
    exact Nat.lt_of_lt_of_le h1 (Nat.pow_le_pow_right (by decide) (Nat.le_trans z1 (by decide)))
  · rw [show Rat.divInt a.num a.den = a from Rat.num_divInt_den a]
    intro H3 v3 e3 h3
    walk_at "go"
    refine g_eqR h3 (by walk_at "up") ?_
    rw [decide_eq_true rfl]
    exact q _ _ (by walk_at "same") rfl
theorem sc__law_is_spot : FnScope ["_law_spot_here"] ["_law_spot_here"] (defScope (topS 42)) := ⟨rfl, rfl, rfl, by decide +kernel, rfl, by decide +kernel, by decide +kernel⟩
theorem okl_is_spot (T : Tx K mg) (d : Df K mg "_law_is_spot" (topS 42) ["_law_spot_here"]) (n__law_is_ratio : Kn P w K mg base "_law_is_ratio" 2 ["_law_one"] (spYes (rRat K) fun a => sz a ≤ 2700)) : Kn P w K mg base "_law_is_spot" 3 ["_law_spot_here"] (spYes (rSpot K) fun a => BS 2700 a) := by
  refine d.kn sc__law_is_spot len1 (fun f cdv A outer s H vs Q E hr h => ?_)
  obtain ⟨x1, a, rfl, k1, ⟨z1, z2⟩, q⟩ := h
  refine ⟨_, (pss_cons (ps_if (PW.pt (pw_or (pt_not (pt_val (pe_callB call_isi (by rfl) T.m_isinstance (by decide +kernel) (pa_cons (pv 0) (pa_cons (pe_bltn (v := .ty "tuple") (by rfl) T.m_tuple (by decide +kernel) rfl) pa_nil))))) (pw_or1 (pt_cmpR op_ne (pe_callB call_lenG (by rfl) T.m_len (by decide +kernel) (pa_cons (pv 0) pa_nil)) pe_int (nomark _))))) (pss_one (ps_ret pe_bl)) pss_nil)
      (pss_one (ps_ret (pe_and (pk n__law_is_ratio hr (by decide) (by rfl) (pa_cons (pe_ix (r := rIxT K) ix_tup (pv 0) pe_int (fun _ _ => rfl)) pa_nil)) (pe_one (pk n__law_is_ratio hr (by decide) (by rfl) (pa_cons (pe_ix (r := rIxT K) ix_tup (pv 0) pe_int (fun _ _ => rfl)) pa_nil))))))), ?_⟩
  walk_at "nm"
  have k0 := k1
  obtain ⟨p, v1, v2, rfl, hT, f1, f2⟩ := k0
  walk_at "go"
  refine isi_tup hT ?_
  walk_at "go"
  refine iteF ?_
  walk_at "go"
  refine g_lenT hT ?_
  walk_at "go"
  refine iteF ?_
  walk_at "go"
  refine iteT ?_
  walk_at "go"
  exact q _ _ (by walk_at "same") rfl
theorem sc__law_draw : FnScope ["_law_bag_here", "_law_many", "_law_cells", "_law_slot", "_law_cell", "_law_seed"] ["_law_bag_here", "_law_many"] (defScope (topS 32)) := ⟨rfl, rfl, rfl, by decide +kernel, rfl, by decide +kernel, by decide +kernel⟩
theorem okl_draw (T : Tx K mg) (d : Df K mg "_law_draw" (topS 32) ["_law_bag_here", "_law_many"]) : Kn P w K mg base "_law_draw" 1 ["_law_bag_here", "_law_many"] (spDraw K) := by
  refine d.kn sc__law_draw (fun vs H Q E ⟨_, _, _, e, _⟩ => by rw [e]; rfl) (fun f cdv A outer s H vs Q E hr h => ?_)
  obtain ⟨b, c, many, rfl, ⟨cs, slot, seed, hb, hc, hbc, s0, s1, s2⟩, m0, m1, q⟩ := h
  refine ⟨_, (pss_cons (ps_set (i := 2) sc__law_draw.nd rfl (.inl rfl) (pe_ix (r := rIxL K) ix_list (pv 0) pe_int (fun _ _ => rfl)))
      (pss_cons (ps_set (i := 3) sc__law_draw.nd rfl (.inl rfl) (pe_ix (r := rIxL K) ix_list (pv 0) pe_int (fun _ _ => rfl)))
      (pss_cons (ps_set (i := 4) sc__law_draw.nd rfl (.inl rfl) pe_int)
      (pss_cons (ps_if (pt_cmpR op_gt (pe_callB call_lenG (by rfl) T.m_len (by decide +kernel) (pa_cons (pv 2) pa_nil)) pe_int (nomark _)) (pss_one (ps_set (i := 4) sc__law_draw.nd rfl (.inl rfl) (pe_ix (r := rIxL K) ix_list (pv 2) (pe_op op_mod (pv 3) (pe_callB call_lenG (by rfl) T.m_len (by decide +kernel) (pa_cons (pv 2) pa_nil))) (fun _ _ => rfl)))) pss_nil)
      (pss_cons (ps_if (pt_cmpR op_lt (pv 4) pe_int (nomark _)) (pss_one (ps_set (i := 4) sc__law_draw.nd rfl (.inl rfl) (pe_op op_sub pe_int (pv 4)))) pss_nil)
      (pss_cons (ps_if (pt_cmpR op_ge (pv 4) (pe_op op_pow pe_int pe_int) (nomark _)) (pss_cons (ps_asg (pe_op op_fdivZ (pv 4) (pv 1)) (pg_sub (pv 2) (pe_op op_mod (pv 3) (pe_callB call_lenG (by rfl) T.m_len (by decide +kernel) (pa_cons (pv 2) pa_nil))) set_list))
      (pss_one (ps_ret (pe_op op_mod (pv 4) (pv 1))))) pss_nil)
      (pss_cons (ps_asg (pe_op op_add (pv 3) pe_int) (pg_sub (pv 0) pe_int set_list))
      (pss_cons (ps_set (i := 5) sc__law_draw.nd rfl (.inl rfl) (pe_ix (r := rIxL K) ix_list (pv 0) pe_int (fun _ _ => rfl)))
      (pss_cons (ps_set (i := 5) sc__law_draw.nd rfl (.inl rfl) (pe_op op_add (pe_op op_mul (pe_op op_mod (pe_op op_mul (pv 5) (pv 5)) pe_int) pe_int) (pe_op op_mul (pv 5) pe_int)))
      (pss_cons (ps_asg (pe_op op_mod (pe_op op_add (pe_op op_add (pe_op op_add (pv 5) (pe_op op_mul (pv 4) pe_int)) (pe_op op_mul (pv 3) pe_int)) pe_int) pe_int) (pg_sub (pv 0) pe_int set_list))
      (pss_one (ps_ret (pe_op op_mod (pe_op op_fdivZ (pe_op op_mod (pe_op op_mul (pe_ix (r := rIxL K) ix_list (pv 0) pe_int (fun _ _ => rfl)) pe_int) pe_int) pe_int) (pv 1)))))))))))))), ?_⟩
  walk_at "nm"
  walk_at "go"
  refine g_bx hb (by rfl) ?_
  walk_at "go"
  refine g_bx hb (by rfl) ?_
  walk_at "st"
  walk_at "st"
  walk_at "st"
  try dsimp only
  with_reducible refine' g_seqM (fun σ' H' => ∃ cell : Int, σ' = [some (.ref b), some (.int many), some (.ref c), some (.int slot), some (.int cell), none] ∧ H' = H ∧ (cs = [] → cell = 0)) (fun N k => ?_) (fun σ' H' m => ?_)
  · walk_at "go"
    refine g_lenQ hc ?_
    walk_at "go"
    refine ite2 (fun e => ?_) (fun e => ?_)
    · have hl : (0 : Int) < (cs.map V.int).length := of_decide_eq_true e
      walk_at "go"
      refine g_lenQ hc ?_
      refine ⟨_, _, rfl, rfl, hl, ?_⟩
      dsimp only
      have hn : cs ≠ [] := fun z => by
        rw [z] at hl
        exact absurd hl (by decide)
      rw [List.length_map] at hl ⊢
      have x1 := Int.emod_nonneg slot (show (cs.length : Int) ≠ 0 by omega)
      have x2 := Int.emod_lt_of_pos slot hl
      generalize slot % (cs.length : Int) = z at x1 x2 ⊢
      obtain ⟨j, rfl⟩ := Int.eq_ofNat_of_zero_le x1
      have hj : j < cs.length := by omega
      refine g_bx hc (atI_nat (v := V.int cs[j]) (by rw [List.getElem?_map, List.getElem?_eq_getElem hj]; rfl)) ?_
      walk_at "go"
      exact k _ _ ⟨_, rfl, rfl, fun z => absurd z hn⟩
    · walk_at "go"
      exact k _ _ ⟨0, rfl, rfl, fun _ => rfl⟩
  · obtain ⟨cell, rfl, rfl, hz⟩ := m
    try dsimp only
    with_reducible refine' g_seqM (fun σ' H2 => ∃ cell : Int, σ' = [some (.ref b), some (.int many), some (.ref c), some (.int slot), some (.int cell), none] ∧ H2 = H' ∧ 0 ≤ cell ∧ (cs = [] → cell = 0)) (fun N k => ?_) (fun σ' H' m => ?_)
    · walk_at "go"
      refine ite2 (fun e => ?_) (fun e => ?_)
      · have e1 : cell < 0 := of_decide_eq_true e
        walk_at "go"
        exact k _ _ ⟨_, rfl, rfl, by omega, fun z => by have := hz z; omega⟩
      · have e1 : ¬ cell < 0 := fun z => e (decide_eq_true z)
        walk_at "go"
        exact k _ _ ⟨cell, rfl, rfl, by omega, hz⟩
    · obtain ⟨cell', rfl, rfl, hc0, hz⟩ := m
      walk_at "go"
      refine ⟨_, _, rfl, rfl, ⟨by omega, by omega, by decide⟩, ?_⟩
      walk_at "go"
      refine ite2 (fun e => ?_) (fun e => ?_)
      · have e1 := of_decide_eq_true e
        have hn : cs ≠ [] := fun z => by
          rw [hz z] at e1
          exact absurd e1 (by decide)
        have hl : (0 : Int) < (cs.map V.int).length := by
          rw [List.length_map]
          have := List.length_pos_iff.mpr hn
          omega
        walk_at "go"
        refine ⟨_, _, rfl, rfl, fdivZ_of (b := 62) (by omega) (by omega) (by decide) (by decide), ?_⟩
        refine g_gsub ?_
        walk_at "go"
        refine g_lenQ hc ?_
        refine ⟨_, _, rfl, rfl, hl, ?_⟩
        dsimp only
        rw [List.length_map] at hl ⊢
        have x1 := Int.emod_nonneg slot (show (cs.length : Int) ≠ 0 by omega)
        have x2 := Int.emod_lt_of_pos slot hl
        generalize slot % (cs.length : Int) = z at x1 x2 ⊢
        obtain ⟨j, rfl⟩ := Int.eq_ofNat_of_zero_le x1
        have hj : j < cs.length := by omega
        refine g_setL (j := j) hc (by unfold ixN; rw [if_pos (by omega), List.length_map, if_pos (by omega)]; rfl) ?_
        walk_at "go"
        refine ⟨_, _, rfl, rfl, by omega, ?_⟩
        dsimp only
        have y1 := Int.emod_nonneg cell' (show many ≠ 0 by omega)
        have y2 := Int.emod_lt_of_pos cell' (show 0 < many by omega)
        generalize cell' % many = z at y1 y2 ⊢
        obtain ⟨r, rfl⟩ := Int.eq_ofNat_of_zero_le y1
        refine q _ r (kp_c hc) ⟨cs.set j (cell'.fdiv many), slot, seed, by rw [upd_ne hbc]; exact hb, by rw [upd_same, List.map_set], hbc, s0, s1, s2⟩ y2
      · walk_at "go"
        refine g_gsub ?_
        walk_at "go"
        refine g_setL (j := 1) hb (by rfl) ?_
        have e1 : Kp K b c H' (upd H' b (.lst ([V.ref c, V.int slot, V.int seed].set 1 (V.int (slot + 1))))) := kp_b hb
        have hb1 : upd H' b (.lst ([V.ref c, V.int slot, V.int seed].set 1 (V.int (slot + 1)))) b = some (.lst [V.ref c, V.int (slot + 1), V.int seed]) := upd_same
        have hc1 : upd H' b (.lst ([V.ref c, V.int slot, V.int seed].set 1 (V.int (slot + 1)))) c = some (.lst (cs.map V.int)) := by rw [upd_ne (Ne.symm hbc)]; exact hc
        generalize upd H' b (.lst ([V.ref c, V.int slot, V.int seed].set 1 (V.int (slot + 1)))) = H1 at e1 hb1 hc1
        walk_at "go"
        refine g_bx hb1 (by rfl) ?_
        walk_at "go"
        refine ⟨_, _, rfl, rfl, .inl ⟨by omega, by omega⟩, ?_⟩
        walk_at "go"
        refine ⟨_, _, rfl, rfl, (by decide : (0 : Int) < _), ?_⟩
        walk_at "go"
        refine ⟨_, _, rfl, rfl, .inr ⟨by decide, by decide⟩, ?_⟩
        walk_at "go"
        refine ⟨_, _, rfl, rfl, .inr ⟨by decide, by decide⟩, ?_⟩
        walk_at "go"
        refine ⟨_, _, rfl, rfl, .inr ⟨by decide, by decide⟩, ?_⟩
        walk_at "go"
        refine ⟨_, _, rfl, rfl, .inr ⟨by decide, by decide⟩, ?_⟩
        walk_at "go"
        refine ⟨_, _, rfl, rfl, (by decide : (0 : Int) < _), ?_⟩
        dsimp only
        generalize hX : seed * seed % 2147483629 * 3 + seed * 48271 + cell' * 9973 + slot * 31 + 13 = X
        have y1 := Int.emod_nonneg X (show (2147483647 : Int) ≠ 0 by decide)
        have y2 := Int.emod_lt_of_pos X (show (0 : Int) < 2147483647 by decide)
        generalize X % 2147483647 = sd at y1 y2 ⊢
        refine g_gsub ?_
        walk_at "go"
        refine g_setL (j := 2) hb1 (by rfl) ?_
        have e2 : Kp K b c H1 (upd H1 b (.lst ([V.ref c, V.int (slot + 1), V.int seed].set 2 (V.int sd)))) := kp_b hb1
        have hb2 : upd H1 b (.lst ([V.ref c, V.int (slot + 1), V.int seed].set 2 (V.int sd))) b = some (.lst [V.ref c, V.int (slot + 1), V.int sd]) := upd_same
        have hc2 : upd H1 b (.lst ([V.ref c, V.int (slot + 1), V.int seed].set 2 (V.int sd))) c = some (.lst (cs.map V.int)) := by rw [upd_ne (Ne.symm hbc)]; exact hc1
        generalize upd H1 b (.lst ([V.ref c, V.int (slot + 1), V.int seed].set 2 (V.int sd))) = H2 at e2 hb2 hc2
        walk_at "go"
        refine g_bx hb2 (by rfl) ?_
        walk_at "go"
        refine ⟨_, _, rfl, rfl, .inr ⟨by decide, by decide⟩, ?_⟩
        walk_at "go"
        refine ⟨_, _, rfl, rfl, (by decide : (0 : Int) < _), ?_⟩
        walk_at "go"
        refine ⟨_, _, rfl, rfl, fdivZ_of (b := 62) (by decide) (by decide) (by decide) (by decide), ?_⟩
        walk_at "go"
        refine ⟨_, _, rfl, rfl, by omega, ?_⟩
        dsimp only
        generalize (sd * 69621 % 2147483629).fdiv 64 = Y
        have w1 := Int.emod_nonneg Y (show many ≠ 0 by omega)
        have w2 := Int.emod_lt_of_pos Y (show 0 < many by omega)
        generalize Y % many = z at w1 w2 ⊢
        obtain ⟨r, rfl⟩ := Int.eq_ofNat_of_zero_le w1
        exact q _ r (e1.trans e2) ⟨cs, slot + 1, sd, hb2, hc2, hbc, by omega, y1, y2⟩ w2
theorem sc__law_bag : FnScope ["_law_script"] ["_law_script"] (defScope (topS 31)) := ⟨rfl, rfl, rfl, by decide +kernel, rfl, by decide +kernel, by decide +kernel⟩
theorem okl_bag (T : Tx K mg) (d : Df K mg "_law_bag" (topS 31) ["_law_script"]) : Kn P w K mg base "_law_bag" 1 ["_law_script"] (spBag K) := by
  refine d.kn sc__law_bag (fun vs H Q E ⟨_, _, e, _⟩ => by rw [e]; rfl) (fun f cdv A outer s H vs Q E hr h => ?_)
  obtain ⟨a, ns, rfl, hs, q⟩ := h
  refine ⟨_, (pss_one (ps_ret (pe_lst (pa_cons (pe_callTy call_listG (by rfl) T.m_list (by decide +kernel) (pa_cons (pe_slice sl_list (pv 0) po_none (po_some pe_int)) pa_nil)) (pa_cons pe_int (pa_cons pe_int pa_nil)))))), ?_⟩
  walk_at "nm"
  walk_at "go"
  refine g_lst3 ?_
  walk_at "go"
  refine ⟨a, _, rfl, hs, fun p hp => ?_⟩
  have ec : cutV (ns.map V.int) none (some 63) = (ns.map V.int).take 63 := cut_to _ 63
  rw [ec]
  dsimp only
  have e1 := same_new (o := .lst ((ns.map V.int).take 63)) hp
  have h1 : upd H p (.lst ((ns.map V.int).take 63)) p = some (.lst ((ns.map V.int).take 63)) := upd_same
  generalize upd H p (.lst ((ns.map V.int).take 63)) = H1 at e1 h1
  refine ⟨p, _, rfl, .inl (SqL.of h1), fun c hc => ?_⟩
  have e2 := same_new (o := .lst ((ns.map V.int).take 63)) hc
  have h2 : upd H1 c (.lst ((ns.map V.int).take 63)) c = some (.lst ((ns.map V.int).take 63)) := upd_same
  generalize upd H1 c (.lst ((ns.map V.int).take 63)) = H2 at e2 h2
  walk_at "go"
  intro b hb
  have hbc : b ≠ c := fun e => by
    rw [e, h2] at hb
    cases hb
  have none_of : ∀ {a : Addr} {G G' : Hp}, Same G G' → G' a = none → G a = none := fun {a G G'} e h => by
    cases h3 : G a with
    | none => rfl
    | some o =>
      rw [e _ _ h3] at h
      cases h
  refine q _ b c (e1.trans (e2.trans (same_new hb))) (none_of (e1.trans e2) hb) (none_of e1 hc) ⟨ns.take 63, 0, 11, upd_same, ?_, hbc, by decide, by decide, by decide⟩
  rw [upd_ne (Ne.symm hbc), h2, List.map_take]
theorem sc__law_any : FnScope ["_law_bag_here", "_law_some"] ["_law_bag_here", "_law_some"] (defScope (topS 34)) := ⟨rfl, rfl, rfl, by decide +kernel, rfl, by decide +kernel, by decide +kernel⟩
theorem okl_any (T : Tx K mg) (d : Df K mg "_law_any" (topS 34) ["_law_bag_here", "_law_some"]) (n__law_draw : Kn P w K mg base "_law_draw" 1 ["_law_bag_here", "_law_many"] (spDraw K)) : Kn P w K mg base "_law_any" 2 ["_law_bag_here", "_law_some"] (spAny K) := by
  refine d.kn sc__law_any (fun vs H Q E ⟨_, _, _, _, e, _⟩ => by rw [e]; rfl) (fun f cdv A outer s H vs Q E hr h => ?_)
  obtain ⟨b, c, p, xs, rfl, hB, hpb, hpc, hp, hne, hl, q⟩ := h
  refine ⟨_, (pss_one (ps_ret (pe_ix (r := rIxL K) ix_list (pv 1) (pk n__law_draw hr (by decide) (by rfl) (pa_cons (pv 0) (pa_cons (pe_callB call_lenG (by rfl) T.m_len (by decide +kernel) (pa_cons (pv 1) pa_nil)) pa_nil))) (fun _ _ => rfl)))), ?_⟩
  walk_at "nm"
  walk_at "go"
  refine g_lenQ hp ?_
  walk_at "go"
  have h0 := List.length_pos_iff.mpr hne
  refine ⟨b, c, _, rfl, hB, by omega, by omega, fun H1 r e1 hB1 hr => ?_⟩
  have hj : r < xs.length := by omega
  exact g_bx (e1.2 _ _ hpb hpc hp) (atI_nat (List.getElem?_eq_getElem hj)) (q _ _ e1 hB1 (List.getElem_mem hj))
theorem sc__law_ratio : FnScope ["_law_bag_here", "_law_reach", "_law_low", "_law_room"] ["_law_bag_here", "_law_reach"] (defScope (topS 43)) := ⟨rfl, rfl, rfl, by decide +kernel, rfl, by decide +kernel, by decide +kernel⟩
/-- a number over 420, its top at most M -/
def Cd (M : Nat) (q : Rat) : Prop := ∃ n : Int, q = Rat.divInt n 420 ∧ n.natAbs ≤ M
theorem cd_sz {M : Nat} {q : Rat} (h : Cd M q) (hM : M < 2 ^ 29) : sz q ≤ 30 := by
  obtain ⟨n, rfl, h⟩ := h
  exact sz_divInt (by decide) (by decide) (Nat.lt_of_le_of_lt h (Nat.lt_of_lt_of_le hM (by decide))) (by decide)
theorem cd_add {M N : Nat} {a b : Rat} (ha : Cd M a) (hb : Cd N b) : Cd (M + N) (a + b) := by
  obtain ⟨m, rfl, h1⟩ := ha
  obtain ⟨n, rfl, h2⟩ := hb
  refine ⟨m + n, ?_, by omega⟩
  rw [Rat.divInt_add_divInt _ _ (by decide) (by decide), ← Int.add_mul, Rat.divInt_mul_right (by decide)]
theorem cd_mono {M N : Nat} {a : Rat} (h : Cd M a) (hM : M ≤ N) : Cd N a := by
  obtain ⟨n, e, h⟩ := h
  exact ⟨n, e, Nat.le_trans h hM⟩
theorem cd_of {n : Int} {low R : Nat} (hl : 420 % low = 0) (h0 : 1 ≤ low) (h : n.natAbs ≤ R * low) : Cd (R * 420) (Rat.divInt n low) := by
  obtain ⟨k, hk⟩ := Nat.dvd_of_mod_eq_zero hl
  have hk0 : k ≠ 0 := fun z => by
    rw [z, Nat.mul_zero] at hk
    exact absurd hk (by decide)
  refine ⟨n * k, ?_, ?_⟩
  · have e : ((420 : Nat) : Int) = (low : Int) * (k : Int) := by rw [hk, Int.natCast_mul]
    rw [show (420 : Int) = ((420 : Nat) : Int) from rfl, e, Rat.divInt_mul_right (by omega)]
  · rw [Int.natAbs_mul, Int.natAbs_natCast, hk, ← Nat.mul_assoc]
    exact Nat.mul_le_mul_right k h
def spLRatio (K : PySem.W.Frag) : Sp := fun vs H Q _ => ∃ (b c : Addr) (R : Nat), vs = [.ref b, .int (R : Int)] ∧ Bag b c H ∧ 1 ≤ R ∧ R ≤ 100 ∧ ∀ (H' : Hp) (v : V) (a : Rat), Kp K b c H H' → Bag b c H' → Cd (R * 420) a → rRat K H' v a → Q v H'
theorem lows : ∀ v ∈ [V.int 1, V.int 1, V.int 2, V.int 2, V.int 3, V.int 4, V.int 7, V.int 60], ∃ low : Nat, v = .int (low : Int) ∧ 420 % low = 0 ∧ 1 ≤ low ∧ low ≤ 60 := by
  intro v hv
  simp only [List.mem_cons, List.not_mem_nil, or_false] at hv
  rcases hv with h | h | h | h | h | h | h | h
  · exact ⟨1, h, by decide, by decide, by decide⟩
  · exact ⟨1, h, by decide, by decide, by decide⟩
  · exact ⟨2, h, by decide, by decide, by decide⟩
  · exact ⟨2, h, by decide, by decide, by decide⟩
  · exact ⟨3, h, by decide, by decide, by decide⟩
  · exact ⟨4, h, by decide, by decide, by decide⟩
  · exact ⟨7, h, by decide, by decide, by decide⟩
  · exact ⟨60, h, by decide, by decide, by decide⟩
theorem okl_ratio (T : Tx K mg) (d : Df K mg "_law_ratio" (topS 43) ["_law_bag_here", "_law_reach"]) (n__law_draw : Kn P w K mg base "_law_draw" 1 ["_law_bag_here", "_law_many"] (spDraw K)) (n__law_any : Kn P w K mg base "_law_any" 2 ["_law_bag_here", "_law_some"] (spAny K)) (n__law_rat : Kn P w K mg base "_law_rat" 1 ["_law_over", "_law_under"] (spRatio K)) : Kn P w K mg base "_law_ratio" 3 ["_law_bag_here", "_law_reach"] (spLRatio K) := by
  refine d.kn sc__law_ratio (fun vs H Q E ⟨_, _, _, e, _⟩ => by rw [e]; rfl) (fun f cdv A outer s H vs Q E hr h => ?_)
  obtain ⟨b, c, R, rfl, hB, R1, R2, q⟩ := h
  refine ⟨_, (pss_cons (ps_set (i := 2) sc__law_ratio.nd rfl (.inl rfl) (pk n__law_any hr (by decide) (by rfl) (pa_cons (pv 0) (pa_cons (pe_lst (pa_cons pe_int (pa_cons pe_int (pa_cons pe_int (pa_cons pe_int (pa_cons pe_int (pa_cons pe_int (pa_cons pe_int (pa_cons pe_int pa_nil))))))))) pa_nil))))
      (pss_cons (ps_set (i := 3) sc__law_ratio.nd rfl (.inl rfl) (pe_op op_mul (pv 1) (pv 2)))
      (pss_one (ps_ret (pk n__law_rat hr (by decide) (by rfl) (pa_cons (pe_op op_sub (pk n__law_draw hr (by decide) (by rfl) (pa_cons (pv 0) (pa_cons (pe_op op_add (pe_op op_mul pe_int (pv 3)) pe_int) pa_nil))) (pv 3)) (pa_cons (pv 2) pa_nil))))))), ?_⟩
  walk_at "nm"
  walk_at "go"
  refine ⟨(by show 8 ≤ sizeLine; decide), fun p hp => ?_⟩
  have e1 := same_new (o := .lst [V.int 1, V.int 1, V.int 2, V.int 2, V.int 3, V.int 4, V.int 7, V.int 60]) hp
  refine ⟨b, c, p, _, rfl, hB.same e1, (hB.ne hp).1, (hB.ne hp).2, upd_same, by simp, by show 8 ≤ 1000; decide, fun H1 v e2 hB1 hv => ?_⟩
  obtain ⟨low, rfl, l1, l2, l3⟩ := lows v hv
  have E1 := (kp_same (K := K) (b := b) (c := c) e1).trans e2
  clear e1 e2
  walk_at "go"
  refine ⟨_, _, rfl, rfl, .inl ⟨by omega, by omega⟩, ?_⟩
  walk_at "go"
  refine ⟨_, _, rfl, rfl, .inl ⟨by decide, by decide⟩, ?_⟩
  walk_at "go"
  have hRl : R * low ≤ 100 * 60 := Nat.mul_le_mul R2 l3
  have hRl0 : 1 ≤ R * low := Nat.mul_le_mul R1 l2
  have hC : (R : Int) * (low : Int) = ((R * low : Nat) : Int) := (Int.natCast_mul R low).symm
  rw [hC]
  refine ⟨b, c, _, rfl, hB1, by omega, by omega, fun H2 r e2 hB2 hr => ?_⟩
  walk_at "go"
  refine ⟨_, _, rfl, by omega, ?_, fun H3 v3 e3 h3 => ?_⟩
  · rw [Int.natAbs_natCast]
    exact Nat.lt_of_le_of_lt l3 (Nat.lt_of_lt_of_le (by decide : 60 < 2 ^ 6) (Nat.pow_le_pow_right (by decide) (by decide)))
  · exact q _ _ _ (E1.trans (e2.trans (kp_same e3))) (hB2.same e3) (cd_of l1 l2 (by omega)) h3
theorem sc__law_spot : FnScope ["_law_bag_here", "_law_reach"] ["_law_bag_here", "_law_reach"] (defScope (topS 44)) := ⟨rfl, rfl, rfl, by decide +kernel, rfl, by decide +kernel, by decide +kernel⟩
def spLSpot (K : PySem.W.Frag) : Sp := fun vs H Q _ => ∃ (b c : Addr) (R : Nat), vs = [.ref b, .int (R : Int)] ∧ Bag b c H ∧ 1 ≤ R ∧ R ≤ 100 ∧ ∀ (H' : Hp) (v : V) (a : Rat × Rat), Kp K b c H H' → Bag b c H' → Cd (R * 420) a.1 → Cd (R * 420) a.2 → rSpot K H' v a → Q v H'
theorem okl_spot (T : Tx K mg) (d : Df K mg "_law_spot" (topS 44) ["_law_bag_here", "_law_reach"]) (n__law_ratio : Kn P w K mg base "_law_ratio" 3 ["_law_bag_here", "_law_reach"] (spLRatio K)) : Kn P w K mg base "_law_spot" 4 ["_law_bag_here", "_law_reach"] (spLSpot K) := by
  refine d.kn sc__law_spot (fun vs H Q E ⟨_, _, _, e, _⟩ => by rw [e]; rfl) (fun f cdv A outer s H vs Q E hr h => ?_)
  obtain ⟨b, c, R, rfl, hB, R1, R2, q⟩ := h
  refine ⟨_, (pss_one (ps_ret (pe_tup (pa_cons (pk n__law_ratio hr (by decide) (by rfl) (pa_cons (pv 0) (pa_cons (pv 1) pa_nil))) (pa_cons (pk n__law_ratio hr (by decide) (by rfl) (pa_cons (pv 0) (pa_cons (pv 1) pa_nil))) pa_nil))))), ?_⟩
  walk_at "nm"
  walk_at "go"
  refine ⟨b, c, R, rfl, hB, R1, R2, fun H1 v1 a1 e1 hB1 c1 h1 => ?_⟩
  walk_at "go"
  refine ⟨b, c, R, rfl, hB1, R1, R2, fun H2 v2 a2 e2 hB2 c2 h2 => ?_⟩
  have h1' := upT e2.1 h1
  walk_at "tup"
  rename_i H3 v3 e3 h3
  exact q _ _ _ (e1.trans (e2.trans (kp_same e3))) (hB2.same e3) c1 c2 h3
theorem sc__law_corners : FnScope ["_law_bag_here", "_law_many", "_law_row", "_law_k", "_law_spot_here", "_law_x"] ["_law_bag_here", "_law_many"] (defScope (topS 46)) := ⟨rfl, rfl, rfl, by decide +kernel, rfl, by decide +kernel, by decide +kernel⟩
theorem g_neNil {H : Hp} {Q : VK} {x : V} {p : Addr} {l : List (Rat × Rat)} (h : rLst K (rSpot K) H x l) (hp : H p = some (.lst [])) (q : Q (.bl (!l.isEmpty)) H) : rNeD K x (.ref p) H Q :=
  ⟨dL l, .list [], dp_list h, .lst (SqL.of hp) .nil, sh_L l, sh_L [], by rw [eqv_nil]; exact q⟩
def RowI (K : PySem.W.Frag) (b c p : Addr) (M : Nat) (H0 H : Hp) (l : List (Rat × Rat)) : Prop := Kp K b c H0 H ∧ Bag b c H ∧ (∃ vs, H p = some (.lst vs) ∧ Paired (rSpot K H) vs l) ∧ ∀ s ∈ l, Cd M s.1 ∧ Cd M s.2
theorem RowI.go {b c p : Addr} {M : Nat} {H0 H H' : Hp} {l : List (Rat × Rat)} (h : RowI K b c p M H0 H l) (h1 : p ≠ b) (h2 : p ≠ c) (e : Kp K b c H H') (hB : Bag b c H') : RowI K b c p M H0 H' l := by
  obtain ⟨k1, k2, ⟨vs, k3, k4⟩, k5⟩ := h
  exact ⟨k1.trans e, hB, ⟨vs, e.2 _ _ h1 h2 k3, paired_ts e.1 k4⟩, k5⟩
theorem RowI.last {b c p : Addr} {M : Nat} {H0 H : Hp} {l : List (Rat × Rat)} (h : RowI K b c p M H0 H l) (hl : l ≠ []) : ∃ vs v s, H p = some (.lst vs) ∧ atI vs (-1) = some v ∧ rSpot K H v s ∧ s ∈ l := by
  obtain ⟨k1, k2, ⟨vs, k3, k4⟩, k5⟩ := h
  have hn : vs ≠ [] := fun z => by
    have := k4.length
    rw [z] at this
    exact hl (List.length_eq_zero_iff.mp this.symm)
  have e := List.dropLast_concat_getLast hn
  have hj : vs.length - 1 < vs.length := by
    have := List.length_pos_iff.mpr hn
    omega
  obtain ⟨s, h1, h2⟩ := LiI.paired_get k4 (List.getElem?_eq_getElem hj)
  refine ⟨vs, vs.getLast hn, s, k3, ?_, ?_, List.mem_of_getElem? h1⟩
  · have z := atI_last vs.dropLast (vs.getLast hn)
    rw [e] at z
    exact z
  · rw [List.getLast_eq_getElem]
    exact h2
theorem RowI.mem {b c p : Addr} {M : Nat} {H0 H : Hp} {l : List (Rat × Rat)} (h : RowI K b c p M H0 H l) : ∃ vs, H p = some (.lst vs) ∧ vs.length = l.length ∧ ∀ v ∈ vs, ∃ s ∈ l, rSpot K H v s := by
  obtain ⟨k1, k2, ⟨vs, k3, k4⟩, k5⟩ := h
  refine ⟨vs, k3, k4.length, fun v hv => ?_⟩
  obtain ⟨j, hj, e⟩ := List.mem_iff_getElem.mp hv
  obtain ⟨s, h1, h2⟩ := LiI.paired_get k4 (List.getElem?_eq_getElem hj)
  rw [e] at h2
  exact ⟨s, List.mem_of_getElem? h1, h2⟩
theorem RowI.rep {b c p : Addr} {M : Nat} {H0 H : Hp} {l : List (Rat × Rat)} (h : RowI K b c p M H0 H l) : rLst K (rSpot K) H (.ref p) l := by
  obtain ⟨k1, k2, ⟨vs, k3, k4⟩, k5⟩ := h
  exact ⟨p, vs, rfl, k3, k4⟩
def spCorners (K : PySem.W.Frag) : Sp := fun vs H Q _ => ∃ (b c : Addr), vs = [.ref b, .int 4] ∧ Bag b c H ∧ ∀ (H' : Hp) (p : Addr) (l : List (Rat × Rat)), Kp K b c H H' → Bag b c H' → p ≠ b → p ≠ c → rLst K (rSpot K) H' (.ref p) l → 2 ≤ l.length → l.length ≤ 5 → (∀ s ∈ l, BS 30 s) → Q (.ref p) H'
theorem okl_corners (T : Tx K mg) (d : Df K mg "_law_corners" (topS 46) ["_law_bag_here", "_law_many"]) (n__law_draw : Kn P w K mg base "_law_draw" 1 ["_law_bag_here", "_law_many"] (spDraw K)) (n__law_any : Kn P w K mg base "_law_any" 2 ["_law_bag_here", "_law_some"] (spAny K)) (n__law_sum : Kn P w K mg base "_law_sum" 2 ["_law_one", "_law_two"] (spR2 K (· + ·)))
    (n__law_ratio : Kn P w K mg base "_law_ratio" 3 ["_law_bag_here", "_law_reach"] (spLRatio K)) (n__law_spot : Kn P w K mg base "_law_spot" 4 ["_law_bag_here", "_law_reach"] (spLSpot K)) : Kn P w K mg base "_law_corners" 5 ["_law_bag_here", "_law_many"] (spCorners K) := by
  refine d.kn sc__law_corners (fun vs H Q E ⟨_, _, e, _⟩ => by rw [e]; rfl) (fun f cdv A outer s H vs Q E hr h => ?_)
  obtain ⟨b, c, rfl, hB, q⟩ := h
  refine ⟨_, (pss_cons (ps_set (i := 2) sc__law_corners.nd rfl (.inl rfl) (pe_lst pa_nil))
      (pss_cons (ps_for PassesOwn.never rfl (pi_range1 (by rfl) T.m_range (pa_cons (pe_op op_add pe_int (pk n__law_draw hr (by decide) (by rfl) (pa_cons (pv 0) (pa_cons (pv 1) pa_nil)))) pa_nil)) (pg_name (i := 3) sc__law_corners.nd rfl (.inl rfl)) (pss_cons (ps_set (i := 4) sc__law_corners.nd rfl (.inl rfl) (pk n__law_spot hr (by decide) (by rfl) (pa_cons (pv 0) (pa_cons pe_int pa_nil))))
      (pss_cons (ps_if (PW.pt (pw_and (pt_cmpR (r := rNeD K) (op_neD hr.units) (pv 2) (pe_lst pa_nil) (nomark _)) (pw_and1 (pt_cmpR op_gt (pk n__law_draw hr (by decide) (by rfl) (pa_cons (pv 0) (pa_cons pe_int pa_nil))) pe_int (nomark _))))) (pss_cons (ps_set (i := 5) sc__law_corners.nd rfl (.inl rfl) (pk n__law_sum hr (by decide) (by rfl) (pa_cons (pe_ix (r := rIxT K) ix_tup (pe_ix (r := rIxL K) ix_list (pv 2) (pe_un un_neg pe_int) (fun _ _ => rfl)) pe_int (fun _ _ => rfl)) (pa_cons (pk n__law_ratio hr (by decide) (by rfl) (pa_cons (pv 0) (pa_cons pe_int pa_nil))) pa_nil))))
      (pss_one (ps_set (i := 4) sc__law_corners.nd rfl (.inl rfl) (pe_tup (pa_cons (pv 5) (pa_cons (pk n__law_sum hr (by decide) (by rfl) (pa_cons (pe_ix (r := rIxT K) ix_tup (pe_ix (r := rIxL K) ix_list (pv 2) (pe_un un_neg pe_int) (fun _ _ => rfl)) pe_int (fun _ _ => rfl)) (pa_cons (pk n__law_any hr (by decide) (by rfl) (pa_cons (pv 0) (pa_cons (pe_lst (pa_cons (pe_tup (pa_cons pe_int (pa_cons pe_int pa_nil))) (pa_cons (pe_tup (pa_cons pe_int (pa_cons pe_int pa_nil))) (pa_cons (pe_tup (pa_cons (pe_op op_sub pe_int pe_int) (pa_cons pe_int pa_nil))) (pa_cons (pe_tup (pa_cons pe_int (pa_cons pe_int pa_nil))) pa_nil))))) pa_nil))) pa_nil))) pa_nil)))))) pss_nil)
      (pss_cons (ps_if (PW.pt (pw_and (pt_cmpR (r := rNeD K) (op_neD hr.units) (pv 2) (pe_lst pa_nil) (nomark _)) (pw_and1 (pt_cmpR op_eq (pk n__law_draw hr (by decide) (by rfl) (pa_cons (pv 0) (pa_cons pe_int pa_nil))) pe_int (nomark _))))) (pss_one (ps_set (i := 4) sc__law_corners.nd rfl (.inl rfl) (pk n__law_any hr (by decide) (by rfl) (pa_cons (pv 0) (pa_cons (pv 2) pa_nil))))) pss_nil)
      (pss_one (ps_expr (pe_bm PySem.F.plainAttrs_list PySem.F.slot_list_append PySem.F.type_list_append mt_append (pv 2) (pa_cons (pv 4) pa_nil))))))))
      (pss_one (ps_ret (pv 2))))), ?_⟩
  walk_at "nm"
  walk_at "go"
  refine g_lst0 (K := K) (fun pR hR => ?_)
  obtain ⟨nb, nc⟩ := hB.ne hR
  have R0 : RowI K b c pR 16800 H (upd H pR (.lst [])) [] := ⟨kp_same (same_new hR), hB.same (same_new hR), ⟨[], upd_same, .nil⟩, fun _ h => by cases h⟩
  generalize upd H pR (.lst []) = H1 at R0
  walk_at "go"
  with_reducible refine' g_rng1 ?_
  walk_at "go"
  refine ⟨b, c, _, rfl, R0.2.1, by decide, by decide, fun H2 r e2 hB2 hr => ?_⟩
  walk_at "go"
  have hC : (2 : Int) + (r : Int) = ((2 + r : Nat) : Int) := by omega
  rw [hC]
  have R1 := R0.go nb nc e2 hB2
  clear R0 hB2 e2
  obtain ⟨M, hM⟩ : ∃ M : Nat → Nat, ∀ i, M i = (20 + 4 * i) * 420 := ⟨_, fun _ => rfl⟩
  refine g_rngN (n := 2 + r) (by omega) (fun i σ' H' => ∃ y3 y4 y5 l, σ' = [some (.ref b), some (.int 4), some (.ref pR), y3, y4, y5] ∧ l.length = i ∧ RowI K b c pR (M i) H H' l)
    ⟨none, none, none, [], rfl, rfl, ⟨R1.1, R1.2.1, R1.2.2.1, fun _ h => by cases h⟩⟩ (fun i σ' H' hi hW => ?_) (fun σ' H' hW => ?_)
  · obtain ⟨y3, y4, y5, l, rfl, hl, R2⟩ := hW
    have hM1 : M (i + 1) < 2 ^ 29 := by rw [hM]; omega
    have hM2 : M i + 4 * 420 ≤ M (i + 1) := by rw [hM, hM]; omega
    have hM3 : 20 * 420 ≤ M (i + 1) := by rw [hM]; omega
    clear hM
    generalize M i = M0 at R2 hM2
    generalize M (i + 1) = M1 at hM1 hM2 hM3 ⊢
    walk_at "go"
    refine ⟨b, c, 20, rfl, R2.2.1, by decide, by decide, fun H3 v3 s3 e3 hB3 c1 c2 h3 => ?_⟩
    replace R2 := R2.go nb nc e3 hB3
    replace c1 := cd_mono c1 hM3
    replace c2 := cd_mono c2 hM3
    clear e3 hB3
    try dsimp only
    with_reducible refine' g_seqM (fun σ' H4 => ∃ v y s, σ' = [some (.ref b), some (.int 4), some (.ref pR), some (.int (i : Int)), some v, y] ∧ RowI K b c pR M0 H H4 l ∧ rSpot K H4 v s ∧ Cd M1 s.1 ∧ Cd M1 s.2) (fun N k => ?_) (fun σ' H4 m => ?_)
    · walk_at "go"
      refine g_lst0 (K := K) (fun pE hE => ?_)
      have eE := same_new (o := .lst []) hE
      have hE1 : upd H3 pE (.lst []) pE = some (.lst []) := upd_same
      replace R2 := R2.go nb nc (kp_same eE) (R2.2.1.same eE)
      replace h3 := up eE h3
      generalize upd H3 pE (.lst []) = H4 at R2 h3 hE1
      refine g_neNil R2.rep hE1 ?_
      walk_at "go"
      cases l with
      | nil =>
        refine iteF (iteF ?_)
        walk_at "go"
        exact k _ _ ⟨_, _, _, rfl, R2, h3, c1, c2⟩
      | cons a l =>
        refine iteT ?_
        walk_at "go"
        refine ⟨b, c, 4, rfl, R2.2.1, by decide, by decide, fun H5 r5 e5 hB5 hr5 => ?_⟩
        replace R2 := R2.go nb nc e5 hB5
        replace h3 := upT e5.1 h3
        clear e5 hB5
        walk_at "go"
        refine ite2 (fun e => ?_) (fun e => ?_)
        · walk_at "go"
          refine ⟨_, rfl, ?_⟩
          obtain ⟨vs, v, s, kv, ka, ks, km⟩ := R2.last (by simp)
          have kc := R2.2.2.2 s km
          refine g_bx kv ka ?_
          walk_at "go"
          rename_i va fa
          refine ⟨b, c, 4, rfl, R2.2.1, by decide, by decide, fun H6 v6 a6 e6 hB6 c6 h6 => ?_⟩
          have ga := upT e6.1 fa
          have z1 : sz s.1 ≤ 30 := cd_sz (cd_mono kc.1 (by omega : M0 ≤ M1)) hM1
          have z2 : sz s.2 ≤ 30 := cd_sz (cd_mono kc.2 (by omega : M0 ≤ M1)) hM1
          have z6 : sz a6 ≤ 30 := cd_sz c6 (by decide)
          replace R2 := R2.go nb nc e6 hB6
          walk_at "go"
          rename_i H7 v7 e7 f7
          replace R2 := R2.go nb nc (kp_same e7) (R2.2.1.same e7)
          clear ga fa ks kv ka
          refine ⟨_, rfl, ?_⟩
          obtain ⟨vs, v, s', kv, ka, ks, km'⟩ := R2.last (by simp)
          have kc' := R2.2.2.2 s' km'
          have z3 : sz s'.2 ≤ 30 := cd_sz (cd_mono kc'.2 (by omega : M0 ≤ M1)) hM1
          refine g_bx kv ka ?_
          walk_at "go"
          rename_i vb fb
          refine g_lst4 ?_
          walk_at "go"
          intro p1 hp1
          generalize hv : V.ref p1 = w1
          generalize hH : upd _ p1 _ = G1
          obtain ⟨u1, g1⟩ := newR (K := K) 0 rfl rfl hp1 hv hH
          clear hv hH
          walk_at "go"
          intro p2 hp2
          generalize hv : V.ref p2 = w2
          generalize hH : upd _ p2 _ = G2
          obtain ⟨u2, g2⟩ := newR (K := K) (1 / 2) (by decide +kernel) (by decide +kernel) hp2 hv hH
          clear hv hH
          walk_at "go"
          intro p3 hp3
          generalize hv : V.ref p3 = w3
          generalize hH : upd _ p3 _ = G3
          obtain ⟨u3, g3⟩ := newR (K := K) (-1) (by decide +kernel) (by decide +kernel) hp3 hv hH
          clear hv hH
          walk_at "go"
          intro p4 hp4
          generalize hv : V.ref p4 = w4
          generalize hH : upd _ p4 _ = G4
          obtain ⟨u4, g4⟩ := newR (K := K) 1 rfl rfl hp4 hv hH
          clear hv hH
          intro p5 hp5
          have u5 := same_new (o := .lst [w1, w2, w3, w4]) hp5
          have k5 : upd G4 p5 (.lst [w1, w2, w3, w4]) p5 = some (.lst [w1, w2, w3, w4]) := upd_same
          have B4 : Bag b c G4 := R2.2.1.same (by walk_at "same")
          have hn5 := B4.ne hp5
          generalize upd G4 p5 (.lst [w1, w2, w3, w4]) = G5 at u5 k5
          replace g1 := up u5 (up u4 (up u3 (up u2 g1)))
          replace g2 := up u5 (up u4 (up u3 g2))
          replace g3 := up u5 (up u4 g3)
          replace g4 := up u5 g4
          have U : Same H7 G5 := u1.trans (u2.trans (u3.trans (u4.trans u5)))
          have all : ∀ v ∈ [w1, w2, w3, w4], ∃ q : Rat, rRat K G5 v q ∧ Cd 420 q := by
            intro v hv
            simp only [List.mem_cons, List.not_mem_nil, or_false] at hv
            rcases hv with h | h | h | h
            · exact ⟨0, by rw [h]; assumption, 0, by decide +kernel, by decide⟩
            · exact ⟨1 / 2, by rw [h]; assumption, 210, by decide +kernel, by decide⟩
            · exact ⟨-1, by rw [h]; assumption, -420, by decide +kernel, by decide⟩
            · exact ⟨1, by rw [h]; assumption, 420, by decide +kernel, by decide⟩
          replace R2 := R2.go nb nc (kp_same U) (R2.2.1.same U)
          replace fb := up U fb
          replace f7 := up U f7
          clear g1 g2 g3 g4 u1 u2 u3 u4 u5 ks kv ka
          refine ⟨b, c, p5, _, rfl, R2.2.1, hn5.1, hn5.2, k5, by simp, by show 4 ≤ 1000; decide, fun H8 v8 e8 hB8 hv8 => ?_⟩
          obtain ⟨q8, r8, c8⟩ := all v8 hv8
          have z8 : sz q8 ≤ 30 := cd_sz c8 (by decide)
          replace R2 := R2.go nb nc e8 hB8
          replace fb := upT e8.1 fb
          replace f7 := upT e8.1 f7
          replace r8 := upT e8.1 r8
          walk_at "go"
          rename_i H9 v9 e9 f9
          replace f7 := up e9 f7
          replace R2 := R2.go nb nc (kp_same e9) (R2.2.1.same e9)
          intro p10 hp10
          generalize hv : V.ref p10 = w10
          generalize hH : upd _ p10 _ = G10
          obtain ⟨u10, g10⟩ := newT2 (K := K) (A := rRat K) (B := rRat K) hp10 hv hH f7 f9
          clear hv hH
          exact k _ _ ⟨_, _, _, rfl, R2.go nb nc (kp_same u10) (R2.2.1.same u10), g10, cd_mono (cd_add kc.1 c6) hM2, cd_mono (cd_add kc'.2 c8) (by omega)⟩
        · walk_at "go"
          exact k _ _ ⟨_, _, _, rfl, R2, h3, c1, c2⟩
    · obtain ⟨v4, y5, s4, rfl, R4, h4, d1, d2⟩ := m
      clear R2 h3 c1 c2
      try dsimp only
      with_reducible refine' g_seqM (fun σ' H5 => ∃ v y s, σ' = [some (.ref b), some (.int 4), some (.ref pR), some (.int (i : Int)), some v, y] ∧ RowI K b c pR M0 H H5 l ∧ rSpot K H5 v s ∧ Cd M1 s.1 ∧ Cd M1 s.2) (fun N k => ?_) (fun σ' H5 m => ?_)
      · walk_at "go"
        refine g_lst0 (K := K) (fun pE hE => ?_)
        have eE := same_new (o := .lst []) hE
        have hE1 : upd H4 pE (.lst []) pE = some (.lst []) := upd_same
        replace R4 := R4.go nb nc (kp_same eE) (R4.2.1.same eE)
        replace h4 := up eE h4
        generalize upd H4 pE (.lst []) = H5 at R4 h4 hE1
        refine g_neNil R4.rep hE1 ?_
        walk_at "go"
        cases l with
        | nil =>
          refine iteF (iteF ?_)
          walk_at "go"
          exact k _ _ ⟨_, _, _, rfl, R4, h4, d1, d2⟩
        | cons a l =>
          refine iteT ?_
          walk_at "go"
          refine ⟨b, c, 9, rfl, R4.2.1, by decide, by decide, fun H6 r6 e6 hB6 hr6 => ?_⟩
          replace R4 := R4.go nb nc e6 hB6
          replace h4 := upT e6.1 h4
          clear e6 hB6
          walk_at "go"
          refine ite2 (fun e => ?_) (fun e => ?_)
          · walk_at "go"
            obtain ⟨vs, kv, kl, km⟩ := R4.mem
            have hvs : vs ≠ [] := fun z => by
              rw [z] at kl
              exact absurd kl (by simp)
            refine ⟨b, c, pR, vs, rfl, R4.2.1, nb, nc, kv, hvs, by omega, fun H7 v7 e7 hB7 hv => ?_⟩
            obtain ⟨s7, m7, h7⟩ := km v7 hv
            have kc := R4.2.2.2 s7 m7
            walk_at "go"
            exact k _ _ ⟨_, _, _, rfl, R4.go nb nc e7 hB7, upT e7.1 h7, cd_mono kc.1 (by omega), cd_mono kc.2 (by omega)⟩
          · walk_at "go"
            exact k _ _ ⟨_, _, _, rfl, R4, h4, d1, d2⟩
      · obtain ⟨v5, y6, s5, rfl, R5, h5, d3, d4⟩ := m
        clear R4 h4 d1 d2
        obtain ⟨k1, k2, ⟨vs, k3, k4⟩, k5⟩ := R5
        have kl := k4.length
        walk_at "go"
        refine ⟨tyL k3, ?_⟩
        walk_at "go"
        refine g_app k3 (by omega) ?_
        have t1 := ts_upd (K := K) (o := .lst (vs ++ [v5])) k3
        refine ⟨_, _, _, l ++ [s5], rfl, by rw [List.length_append, hl]; rfl, kp_own hR k1 k3, k2.own nb nc, ⟨_, upd_same, paired_snoc (paired_ts t1 k4) (upT (K := K) t1 h5)⟩, fun s hs => ?_⟩
        rcases List.mem_append.mp hs with z | z
        · exact ⟨cd_mono (k5 s z).1 (by omega), cd_mono (k5 s z).2 (by omega)⟩
        · obtain rfl := List.mem_singleton.mp z
          exact ⟨d3, d4⟩
  · obtain ⟨y3, y4, y5, l, rfl, hl, R2⟩ := hW
    walk_at "go"
    obtain ⟨k1, k2, ⟨vs, k3, k4⟩, k5⟩ := R2
    refine q _ pR l k1 k2 nb nc ⟨pR, vs, rfl, k3, k4⟩ (by omega) (by omega) (fun s hs => ?_)
    have hM1 : M (2 + r) < 2 ^ 29 := by rw [hM]; omega
    exact ⟨cd_sz (k5 s hs).1 hM1, cd_sz (k5 s hs).2 hM1⟩
theorem sc__law_spots_of : FnScope ["_law_bag_here", "_law_ones", "_law_others", "_law_room", "_law_found", "_law_k", "_law_one", "_law_two", "_law_parts", "_law_here", "_law_bits_here", "_law_part", "_law_more", "_law_near"] ["_law_bag_here", "_law_ones", "_law_others", "_law_room"] (defScope (topS 51)) := ⟨rfl, rfl, rfl, by decide +kernel, rfl, by decide +kernel, by decide +kernel⟩
/-- a spot of the polyline -/
def OnL (ones : List (Rat × Rat)) (s : Rat × Rat) : Prop := ∃ pc ∈ piecesOf ones, ∃ t : Rat, 0 ≤ t ∧ t ≤ 1 ∧ s = onWay pc.1 pc.2 t
def PG (n : Nat) (t : Rat) : Prop := 0 ≤ t ∧ t ≤ 1 ∧ sz t ≤ n
theorem num_in {q : Rat} (h0 : 0 ≤ q.num) (h1 : q.num ≤ q.den) : 0 ≤ q ∧ q ≤ 1 := by
  refine ⟨Rat.num_nonneg.mp h0, (le_num q 1).mp ?_⟩
  show q.num * 1 - 1 * q.den ≤ 0
  omega
theorem pg99 {r : Nat} (h : r < 100) : PG 30 (Rat.divInt r 99) := by
  have e : Rat.divInt r 99 = (r : Rat) / 99 := Rat.divInt_eq_div _ _
  have h1 : (0 : Rat) ≤ (r : Rat) := by exact_mod_cast Nat.zero_le r
  have h2 : (r : Rat) ≤ 99 := by exact_mod_cast (by omega : r ≤ 99)
  refine ⟨?_, ?_, sz_divInt (by decide) (by decide) (by rw [Int.natAbs_natCast]; omega) (by decide)⟩
  · rw [e]
    exact (le_div_of (by decide)).mpr (by grind)
  · rw [e]
    exact (div_le_of (by decide)).mpr (by grind)
theorem bits_ok {one two a b : Rat × Rat} {room : Rat} {r : Rat × Rat} (h : bitsOf one two a b room = some r) (h1 : BS 30 one) (h2 : BS 30 two) (h3 : BS 30 a) (h4 : BS 30 b) (h5 : sz room ≤ 380) : PG 503 r.1 ∧ PG 503 r.2 := by
  unfold bitsOf at h
  have k := lclip_ok h
  have y1 : BS 30 (sortedTwo a.1 b.1) := sz_sorted h3.1 h4.1
  have y2 : BS 30 (sortedTwo a.2 b.2) := sz_sorted h3.2 h4.2
  have zz : BS 503 r := by
    unfold lclip at h
    cases hi : lspan (some (0, 1)) one.1 (two.1 - one.1) ((sortedTwo a.1 b.1).1 - room) ((sortedTwo a.1 b.1).2 + room) with
    | none =>
      dsimp only at h
      rw [hi] at h
      cases h
    | some s =>
      dsimp only at h
      rw [hi] at h
      have b0 : BS 503 s := lspan_sz (N := 411) (by omega) hi ⟨Nat.le_trans sz_0 (by omega), Nat.le_trans sz_1 (by omega)⟩ h1.1 (sz_sub h2.1 h1.1) (Nat.le_trans (sz_sub y1.1 h5) (by omega)) (Nat.le_trans (sz_add y1.2 h5) (by omega))
      exact lspan_sz (N := 411) (by omega) h b0 h1.2 (sz_sub h2.2 h1.2) (Nat.le_trans (sz_sub y2.1 h5) (by omega)) (Nat.le_trans (sz_add y2.2 h5) (by omega))
  exact ⟨⟨k.2.1, by grind, zz.1⟩, ⟨by grind, k.2.2, zz.2⟩⟩
theorem PG.mono {m n : Nat} {t : Rat} (h : PG m t) (hmn : m ≤ n) : PG n t := ⟨h.1, h.2.1, Nat.le_trans h.2.2 hmn⟩
theorem onL_way {ones : List (Rat × Rat)} {i : Nat} (h : i + 1 < ones.length) {t : Rat} (h0 : 0 ≤ t) (h1 : t ≤ 1) : OnL ones (onWay ones[i] ones[i + 1] t) :=
  ⟨(ones[i], ones[i + 1]), (mem_pieces (by omega)).mpr ⟨i, h, rfl⟩, t, h0, h1, rfl⟩
theorem onL_first {ones : List (Rat × Rat)} {a : Rat × Rat} (h : ones[0]? = some a) : OnL ones a := by
  obtain ⟨pc, h1, h2⟩ := first_on h
  exact ⟨pc, h1, 0, by decide, by decide, h2⟩
def spSpots (K : PySem.W.Frag) : Sp := fun vs H Q _ => ∃ (b c p1 p2 : Addr) (x : V) (ones others : List (Rat × Rat)) (room : Rat), vs = [.ref b, .ref p1, .ref p2, x] ∧ Bag b c H ∧ (p1 ≠ b ∧ p1 ≠ c) ∧ (p2 ≠ b ∧ p2 ≠ c) ∧ rLst K (rSpot K) H (.ref p1) ones ∧ rLst K (rSpot K) H (.ref p2) others ∧ rRat K H x room ∧
  (ones ≠ [] ∧ ones.length ≤ 5 ∧ ∀ s ∈ ones, BS 30 s) ∧ (others ≠ [] ∧ others.length ≤ 5 ∧ ∀ s ∈ others, BS 30 s) ∧ sz room ≤ 380 ∧
  ∀ (H' : Hp) (v : V) (l : List (Rat × Rat)), Kp K b c H H' → Bag b c H' → rLst K (rSpot K) H' v l → (∀ s ∈ l, OnL ones s ∧ BS 2700 s) → Q v H'
def SpI (K : PySem.W.Frag) (b c p1 p2 : Addr) (x : V) (H : Hp) (ones : List (Rat × Rat)) (i : Nat) (σ' : L2.St) (H' : Hp) : Prop := ∃ pF lf y5 y6 y7 y8 y9 y10 y11 y12 y13, σ' = [some (.ref b), some (.ref p1), some (.ref p2), some x, some (.ref pF), y5, y6, y7, y8, y9, y10, y11, y12, y13] ∧ Kp K b c H H' ∧ Bag b c H' ∧ pF ≠ b ∧ pF ≠ c ∧
    rLst K (rSpot K) H' (.ref pF) lf ∧ (∀ s ∈ lf, OnL ones s ∧ BS 2700 s) ∧ lf.length ≤ 1 + 45 * i
/-- the parts: a list of one's own -/
def PtI (K : PySem.W.Frag) (b c : Addr) (n : Nat) (G H' : Hp) (pP : Addr) (l : List Rat) : Prop := Kp K b c G H' ∧ Bag b c H' ∧ pP ≠ b ∧ pP ≠ c ∧ G pP = none ∧ rLst K (rRat K) H' (.ref pP) l ∧ ∀ t ∈ l, PG n t
theorem g_chain {r r' : R2} {ta tb tc : TE} {σ : L2.St} {H : Hp} {Q : VK} (h : ta σ H fun x H1 => tb σ H1 fun y H2 => r x y H2 fun z H3 => ∃ k, z = .bl k ∧ (if k = true then tc σ H3 fun w' H4 => r' y w' H4 Q else Q (.bl false) H3)) : tChain r r' ta tb tc σ H Q := h
theorem okl_spots_of (T : Tx K mg) (d : Df K mg "_law_spots_of" (topS 51) ["_law_bag_here", "_law_ones", "_law_others", "_law_room"]) (n__law_draw : Kn P w K mg base "_law_draw" 1 ["_law_bag_here", "_law_many"] (spDraw K)) (n__law_rat : Kn P w K mg base "_law_rat" 1 ["_law_over", "_law_under"] (spRatio K)) (n__law_sum : Kn P w K mg base "_law_sum" 2 ["_law_one", "_law_two"] (spR2 K (· + ·)))
    (n__law_on : Kn P w K mg base "_law_on" 3 ["_law_one", "_law_two", "_law_part"] (spOnWay K)) (n__law_bits : Kn P w K mg base "_law_bits" 5 ["_law_one", "_law_two", "_law_a", "_law_b", "_law_room"] (spBits K)) : Kn P w K mg base "_law_spots_of" 6 ["_law_bag_here", "_law_ones", "_law_others", "_law_room"] (spSpots K) := by
  refine d.kn sc__law_spots_of (fun vs H Q E ⟨_, _, _, _, _, _, _, _, e, _⟩ => by rw [e]; rfl) (fun f cdv A outer s H vs Q E hr h => ?_)
  obtain ⟨b, c, p1, p2, x, ones, others, room, rfl, hB, ⟨n1, n2⟩, ⟨n3, n4⟩, k1, k2, k3, ⟨o1, o2, o3⟩, ⟨o4, o5, o6⟩, z3, q⟩ := h
  refine ⟨_, (pss_cons (ps_set (i := 4) sc__law_spots_of.nd rfl (.inl rfl) (pe_lst (pa_cons (pe_ix (r := rIxL K) ix_list (pv 1) pe_int (fun _ _ => rfl)) pa_nil)))
      (pss_cons (ps_for PassesOwn.never rfl (pi_range2 (by rfl) T.m_range (pa_cons pe_int (pa_cons (pe_callB call_lenG (by rfl) T.m_len (by decide +kernel) (pa_cons (pv 1) pa_nil)) pa_nil))) (pg_name (i := 5) sc__law_spots_of.nd rfl (.inl rfl)) (pss_cons (ps_asg (pe_tup (pa_cons (pe_ix (r := rIxL K) ix_list (pv 1) (pe_op op_sub (pv 5) pe_int) (fun _ _ => rfl)) (pa_cons (pe_ix (r := rIxL K) ix_list (pv 1) (pv 5) (fun _ _ => rfl)) pa_nil))) (pg_tup (n := 2) rfl (pgs_cons (pg_name (i := 6) sc__law_spots_of.nd rfl (.inr rfl)) (pgs_cons (pg_name (i := 7) sc__law_spots_of.nd rfl (.inr rfl)) pgs_nil))))
      (pss_cons (ps_set (i := 8) sc__law_spots_of.nd rfl (.inl rfl) (pe_lst (pa_cons (pe_tup (pa_cons pe_int (pa_cons pe_int pa_nil))) (pa_cons (pe_tup (pa_cons pe_int (pa_cons pe_int pa_nil))) (pa_cons (pe_tup (pa_cons pe_int (pa_cons pe_int pa_nil))) (pa_cons (pe_tup (pa_cons pe_int (pa_cons pe_int pa_nil))) (pa_cons (pk n__law_rat hr (by decide) (by rfl) (pa_cons (pk n__law_draw hr (by decide) (by rfl) (pa_cons (pv 0) (pa_cons pe_int pa_nil))) (pa_cons pe_int pa_nil))) pa_nil)))))))
      (pss_cons (ps_for PassesOwn.never rfl (pi_range1 (by rfl) T.m_range (pa_cons (pe_callB call_lenG (by rfl) T.m_len (by decide +kernel) (pa_cons (pv 2) pa_nil)) pa_nil)) (pg_name (i := 9) sc__law_spots_of.nd rfl (.inl rfl)) (pss_cons (ps_set (i := 10) sc__law_spots_of.nd rfl (.inl rfl) (pk n__law_bits hr (by decide) (by rfl) (pa_cons (pv 6) (pa_cons (pv 7) (pa_cons (pe_ix (r := rIxL K) ix_list (pv 2) (pe_callB (call_maxG rfl) (by rfl) T.m_max (by decide +kernel) (pa_cons pe_int (pa_cons (pe_op op_sub (pv 9) pe_int) pa_nil))) (fun _ _ => rfl)) (pa_cons (pe_ix (r := rIxL K) ix_list (pv 2) (pv 9) (fun _ _ => rfl)) (pa_cons (pv 3) pa_nil)))))))
      (pss_one (ps_if (pt_cmpR op_nn (pv 10) pe_non (nomark _)) (pss_one (ps_set (i := 8) sc__law_spots_of.nd rfl (.inl rfl) (pe_op op_cat (pv 8) (pe_lst (pa_cons (pe_ix (r := rIxT K) ix_tup (pv 10) pe_int (fun _ _ => rfl)) (pa_cons (pe_ix (r := rIxT K) ix_tup (pv 10) pe_int (fun _ _ => rfl)) pa_nil)))))) pss_nil))))
      (pss_cons (ps_for PassesOwn.never rfl (pi_list (pe_callTy call_listG (by rfl) T.m_list (by decide +kernel) (pa_cons (pv 8) pa_nil))) (pg_name (i := 11) sc__law_spots_of.nd rfl (.inl rfl)) (pss_one (ps_for PassesOwn.never rfl (pi_list (pe_lst (pa_cons (pe_tup (pa_cons pe_int (pa_cons pe_int pa_nil))) (pa_cons (pe_tup (pa_cons (pe_op op_sub pe_int pe_int) (pa_cons pe_int pa_nil))) pa_nil)))) (pg_name (i := 12) sc__law_spots_of.nd rfl (.inl rfl)) (pss_cons (ps_set (i := 13) sc__law_spots_of.nd rfl (.inl rfl) (pk n__law_sum hr (by decide) (by rfl) (pa_cons (pv 11) (pa_cons (pv 12) pa_nil))))
      (pss_one (ps_if (pt_chain op_le op_le pe_int (pe_ix (r := rIxT K) ix_tup (pv 13) pe_int (fun _ _ => rfl)) (pe_ix (r := rIxT K) ix_tup (pv 13) pe_int (fun _ _ => rfl))) (pss_one (ps_expr (pe_bm PySem.F.plainAttrs_list PySem.F.slot_list_append PySem.F.type_list_append mt_append (pv 8) (pa_cons (pv 13) pa_nil)))) pss_nil))))))
      (pss_one (ps_set (i := 4) sc__law_spots_of.nd rfl (.inl rfl) (pe_op op_cat (pv 4) (pe_lc (own := [("_law_part", 11)]) (by rfl) sc__law_spots_of.nd (pi_list (pv 8)) (blkOk_by (own := [("_law_part", 11)]) (N := ["_law_bag_here", "_law_ones", "_law_others", "_law_room", "_law_found", "_law_k", "_law_one", "_law_two", "_law_parts", "_law_here", "_law_bits_here", "_law_part", "_law_more", "_law_near"]) (sc := defScope (topS 51)) (by decide +kernel)) (fun _ _ _ _ _ => (pg_name (i := 11) sc__law_spots_of.nd rfl (.inl rfl))) (fun _ _ _ _ _ => pts_nil) (fun _ _ _ _ _ => (pk n__law_on hr (by decide) (by rfl) (pa_cons (pv 6) (pa_cons (pv 7) (pa_cons (pv 11) pa_nil))))))))))))))
      (pss_one (ps_ret (pv 4))))), ?_⟩
  walk_at "nm"
  walk_at "go"
  refine g_lst1 ?_
  walk_at "go"
  obtain ⟨a0, hz0⟩ : ∃ a, ones[0]? = some a := ⟨ones[0]'(List.length_pos_iff.mpr o1), List.getElem?_eq_getElem _⟩
  refine g_ixL (j := 0) k1 hz0 (fun v0 f0 => ?_)
  intro pF hF
  obtain ⟨nf1, nf2⟩ := hB.ne hF
  have e1 := same_new (o := .lst [v0]) hF
  have hF1 : upd H pF (.lst [v0]) pF = some (.lst [v0]) := upd_same
  generalize upd H pF (.lst [v0]) = H1 at e1 hF1
  have k1' := up e1 k1
  have lF : rLst K (rSpot K) H1 (.ref pF) [a0] := ⟨pF, _, rfl, hF1, .cons (up e1 f0) .nil⟩
  walk_at "go"
  with_reducible refine' g_rng2 ?_
  walk_at "go"
  have h1n : 1 ≤ ones.length := List.length_pos_iff.mpr o1
  refine g_rng2N (n := ones.length) h1n (by omega) (SpI K b c p1 p2 x H ones)
    ⟨pF, [a0], none, none, none, none, none, none, none, none, none, rfl, kp_same e1, hB.same e1, nf1, nf2, lF, fun s hs => by
      obtain rfl := List.mem_singleton.mp hs
      have z := o3 s (List.mem_of_getElem? hz0)
      exact ⟨onL_first hz0, Nat.le_trans z.1 (by omega), Nat.le_trans z.2 (by omega)⟩, Nat.le_refl _⟩ (fun i σ' G hi hW => ?_) (fun σ' H' hW => ?_)
  · clear k1' lF e1 hF1 hF
    obtain ⟨pF, lf, y5, y6, y7, y8, y9, y10, y11, y12, y13, rfl, EG, BG, nf1, nf2, lF, zf, nlf⟩ := hW
    have q1 := kept EG n1 n2 k1
    have q2 := kept EG n3 n4 k2
    have q3 := upT EG.1 k3
    have hk : ((i + 1 : Nat) : Int) - 1 = (i : Int) := by omega
    have b1 := o3 _ (List.getElem_mem (show i < ones.length by omega))
    have b2 := o3 _ (List.getElem_mem hi)
    walk_at "go"
    rw [hk]
    refine g_ixL (j := i) q1 (List.getElem?_eq_getElem (show i < ones.length by omega)) (fun va fa => ?_)
    walk_at "go"
    refine g_ixL (j := i + 1) q1 (List.getElem?_eq_getElem hi) (fun vb fb => ?_)
    intro p hp
    generalize hv : V.ref p = vT
    generalize hH : upd _ p _ = G1
    obtain ⟨u1, g1⟩ := newT2 (K := K) (A := rSpot K) (B := rSpot K) hp hv hH fa fb
    clear hv hH fa fb
    refine g_unP g1 (fun va vb fa fb => ?_)
    clear g1 q1 q2 hk
    replace EG := EG.trans (kp_same u1)
    replace BG := BG.same u1
    replace lF := up u1 lF
    replace q3 := up u1 q3
    dsimp only at fa fb
    clear u1 hp
    try dsimp only
    with_reducible refine' g_seq ?_
    with_reducible refine' (g_asgM (fun v H5 => ∃ pP l, v = .ref pP ∧ PtI K b c 503 G1 H5 pP l ∧ l.length = 5) (fun N k => ?_) (fun v H5 m => ?_))
    · refine g_lst5 ?_
      walk_at "go"
      intro p2 hp2
      generalize hv : V.ref p2 = w1
      generalize hH : upd _ p2 _ = G2
      obtain ⟨u2, g1⟩ := newR (K := K) 1 rfl rfl hp2 hv hH
      clear hv hH
      walk_at "go"
      intro p3 hp3
      generalize hv : V.ref p3 = w2
      generalize hH : upd _ p3 _ = G3
      obtain ⟨u3, g2⟩ := newR (K := K) (1 / 2) (by decide +kernel) (by decide +kernel) hp3 hv hH
      clear hv hH
      walk_at "go"
      intro p4 hp4
      generalize hv : V.ref p4 = w3
      generalize hH : upd _ p4 _ = G4
      obtain ⟨u4, g3⟩ := newR (K := K) (1 / 3) (by decide +kernel) (by decide +kernel) hp4 hv hH
      clear hv hH
      walk_at "go"
      intro p5 hp5
      generalize hv : V.ref p5 = w4
      generalize hH : upd _ p5 _ = G5
      obtain ⟨u5, g4⟩ := newR (K := K) (2 / 3) (by decide +kernel) (by decide +kernel) hp5 hv hH
      clear hv hH
      have U : Same G1 G5 := u2.trans (u3.trans (u4.trans u5))
      replace g1 := up u5 (up u4 (up u3 g1))
      replace g2 := up u5 (up u4 g2)
      replace g3 := up u5 g3
      walk_at "go"
      refine ⟨b, c, 100, rfl, BG.same U, by decide, by decide, fun G6 r e6 hB6 hr => ?_⟩
      walk_at "go"
      refine ⟨_, _, rfl, by decide, by rw [show ((99 : Int).natAbs) = 99 from rfl]; exact Nat.lt_of_lt_of_le (by decide : 99 < 2 ^ 7) (Nat.pow_le_pow_right (by decide) (by decide)), fun G7 w5 e7 g5 => ?_⟩
      have E7 : Kp K b c G5 G7 := e6.trans (kp_same e7)
      replace g1 := upT E7.1 g1
      replace g2 := upT E7.1 g2
      replace g3 := upT E7.1 g3
      replace g4 := upT E7.1 g4
      intro p8 hp8
      have B7 := hB6.same e7
      obtain ⟨n81, n82⟩ := B7.ne hp8
      have u8 := same_new (o := .lst [w1, w2, w3, w4, w5]) hp8
      have EE : Kp K b c G1 G7 := (kp_same U).trans E7
      refine k _ _ ⟨p8, [1, 1 / 2, 1 / 3, 2 / 3, Rat.divInt r 99], rfl, ⟨EE.trans (kp_same u8), B7.same u8, n81, n82, kp_none EE hp8 n81 n82, ⟨p8, _, rfl, upd_same, .cons (up u8 g1) (.cons (up u8 g2) (.cons (up u8 g3) (.cons (up u8 g4) (.cons (up u8 g5) .nil))))⟩, fun t ht => ?_⟩, rfl⟩
      simp only [List.mem_cons, List.not_mem_nil, or_false] at ht
      rcases ht with h | h | h | h | h
      · rw [h]
        exact ⟨by decide +kernel, by decide +kernel, Nat.le_trans (by decide +kernel : sz 1 ≤ 2) (by omega)⟩
      · rw [h]
        exact ⟨by decide +kernel, by decide +kernel, Nat.le_trans (by decide +kernel : sz (1 / 2) ≤ 2) (by omega)⟩
      · rw [h]
        exact ⟨by decide +kernel, by decide +kernel, Nat.le_trans (by decide +kernel : sz (1 / 3) ≤ 2) (by omega)⟩
      · rw [h]
        exact ⟨by decide +kernel, by decide +kernel, Nat.le_trans (by decide +kernel : sz (2 / 3) ≤ 2) (by omega)⟩
      · rw [h]
        exact (pg99 (by omega)).mono (by omega)
    · obtain ⟨pP, l0, rfl, P5, nl0⟩ := m
      try dsimp only
      with_reducible refine' g_seqM (fun σ' H' => ∃ y9 y10 pP l, σ' = [some (.ref b), some (.ref p1), some (.ref p2), some x, some (.ref pF), some (.int ((i + 1 : Nat) : Int)), some va, some vb, some (.ref pP), y9, y10, y11, y12, y13] ∧ PtI K b c 503 G1 H' pP l ∧ l.length ≤ 15) (fun N k => ?_) (fun σ' H6 m => ?_)
      · have P2 := kept (EG.trans P5.1) n3 n4 k2
        walk_at "go"
        with_reducible refine' g_rng1 ?_
        walk_at "go"
        refine g_rngN (n := others.length) (by omega) (fun j σ' H' => ∃ y9 y10 pP l, σ' = [some (.ref b), some (.ref p1), some (.ref p2), some x, some (.ref pF), some (.int ((i + 1 : Nat) : Int)), some va, some vb, some (.ref pP), y9, y10, y11, y12, y13] ∧ PtI K b c 503 G1 H' pP l ∧ l.length ≤ 5 + 2 * j)
          ⟨y9, y10, pP, l0, rfl, P5, by omega⟩ (fun j σ' H' hj hW => ?_) (fun σ' H' hW => ?_)
        · clear P5 P2
          obtain ⟨y9, y10, pP, l, rfl, P6, nl⟩ := hW
          obtain ⟨EP, BP6, np1, np2, np3, lP, zP⟩ := P6
          have P2 := kept (EG.trans EP) n3 n4 k2
          have fa' := upT EP.1 fa
          have fb' := upT EP.1 fb
          have q3' := upT EP.1 q3
          have hm : (if (j : Int) - 1 > 0 then (j : Int) - 1 else 0) = ((j - 1 : Nat) : Int) := by split <;> omega
          have hj1 : j - 1 < others.length := by omega
          walk_at "go"
          rw [hm]
          refine g_ixL (j := j - 1) P2 (List.getElem?_eq_getElem hj1) (fun vc fc => ?_)
          walk_at "go"
          refine g_ixL (j := j) P2 (List.getElem?_eq_getElem hj) (fun vd fd => ?_)
          walk_at "go"
          have b3 := o6 _ (List.getElem_mem hj1)
          have b4 := o6 _ (List.getElem_mem hj)
          refine g_sp5 fa' fb' fc fd q3' ⟨b1, b2, b3, b4, z3⟩ (fun H7 v7 e7 h7 => ?_)
          replace lP := up e7 lP
          replace EP := EP.trans (kp_same e7)
          replace BP6 := BP6.same e7
          walk_at "go"
          rcases h7 with ⟨hn, rfl⟩ | ⟨rr, hr', hne, f7⟩
          · walk_at "go"
            refine iteF ?_
            walk_at "go"
            exact ⟨_, _, pP, l, rfl, ⟨EP, BP6, np1, np2, np3, lP, zP⟩, by omega⟩
          · have hg := bits_ok hr' b1 b2 b3 b4 z3
            walk_at "go"
            refine iteT ?_
            walk_at "go"
            refine g_lst2 ?_
            walk_at "go"
            rename_i v8 f8 v9 f9
            intro p10 hp10
            generalize hv : V.ref p10 = w10
            generalize hH : upd _ p10 _ = G10
            obtain ⟨u10, g10⟩ := newL2 (K := K) (A := rRat K) hp10 hv hH f8 f9
            clear hv hH
            refine g_catF (A := rRat K) (up u10 lP) g10 (by rw [List.length_cons, List.length_cons, List.length_nil]; omega) (fun pC G11 hC u11 g11 => ?_)
            have B10 := BP6.same u10
            obtain ⟨nc1, nc2⟩ := B10.ne hC
            have EQ := EP.trans (kp_same u10)
            refine ⟨_, _, pC, _, rfl, ⟨EQ.trans (kp_same u11), B10.same u11, nc1, nc2, kp_none EQ hC nc1 nc2, g11, fun t ht => ?_⟩, by rw [List.length_append, List.length_cons, List.length_cons, List.length_nil]; omega⟩
            rcases List.mem_append.mp ht with z | z
            · exact zP t z
            · simp only [List.mem_cons, List.not_mem_nil, or_false] at z
              rcases z with h | h
              · rw [h]
                exact hg.1
              · rw [h]
                exact hg.2
        · obtain ⟨y9, y10, pP, l, rfl, P6, nl⟩ := hW
          exact k _ _ ⟨y9, y10, pP, l, rfl, P6, by omega⟩
      · clear P5
        obtain ⟨y9, y10, pP, l, rfl, P6, nl⟩ := m
        try dsimp only
        with_reducible refine' g_seqM (fun σ' H' => ∃ y11 y12 y13 l', σ' = [some (.ref b), some (.ref p1), some (.ref p2), some x, some (.ref pF), some (.int ((i + 1 : Nat) : Int)), some va, some vb, some (.ref pP), y9, y10, y11, y12, y13] ∧ PtI K b c 520 G1 H' pP l' ∧ l'.length ≤ 45) (fun N k => ?_) (fun σ' H8 m => ?_)
        · with_reducible refine' g_forL ?_
          walk_at "go"
          obtain ⟨EP, BP6, np1, np2, np3, lP, zP⟩ := P6
          refine g_listF lP (fun pC H7 hC u7 lC => ?_)
          have lP7 := up u7 lP
          have nPC : pC ≠ pP := fun e => by
            obtain ⟨p', vs, e', h, _⟩ := lP
            cases e'
            rw [e, h] at hC
            cases hC
          obtain ⟨p', xs, e', hs, hP⟩ := lC
          cases e'
          have hlen := hP.length
          refine ⟨pC, rfl, ⟨xs, SqL.of hs⟩, for_list (xs := xs) (fun j σ' H' => ∃ y11 y12 y13 l', σ' = [some (.ref b), some (.ref p1), some (.ref p2), some x, some (.ref pF), some (.int ((i + 1 : Nat) : Int)), some va, some vb, some (.ref pP), y9, y10, y11, y12, y13] ∧ PtI K b c 520 G1 H' pP l' ∧ l'.length ≤ l.length + 2 * j ∧ H' pC = some (.lst xs) ∧ TS K H7 H')
            ⟨y11, y12, y13, l, rfl, ⟨EP.trans (kp_same u7), BP6.same u7, np1, np2, np3, lP7, fun t ht => (zP t ht).mono (by omega)⟩, by omega, hs, TS.refl K H7⟩ (fun j σ' H' _ hW => by obtain ⟨_, _, _, _, _, _, _, h, _⟩ := hW; exact SqL.of h) (fun j v σ' H' hj hW => ?_) (fun σ' H' hW => ?_)⟩
          · clear EP BP6 lP lP7 u7 hC
            obtain ⟨y11, y12, y13, l', rfl, P7, nl', hC, T7⟩ := hW
            obtain ⟨t, ht, hT⟩ := LiI.paired_get hP hj
            have gt := zP t (List.mem_of_getElem? ht)
            replace hT := upT T7 hT
            have hjl : j < l.length := (List.getElem?_eq_some_iff.mp ht).1
            walk_at "st"
            try dsimp only
            with_reducible refine' g_forL ?_
            refine g_lst2 ?_
            walk_at "go"
            intro p11 hp11
            generalize hv : V.ref p11 = w1
            generalize hH : upd _ p11 _ = G11
            obtain ⟨u11, g1⟩ := newR (K := K) (1 / 1000) (by decide +kernel) (by decide +kernel) hp11 hv hH
            clear hv hH
            walk_at "go"
            intro p12 hp12
            generalize hv : V.ref p12 = w2
            generalize hH : upd _ p12 _ = G12
            obtain ⟨u12, g2⟩ := newR (K := K) (-1 / 1000) (by decide +kernel) (by decide +kernel) hp12 hv hH
            clear hv hH
            intro pM hM
            have u13 := same_new (o := .lst [w1, w2]) hM
            have hM1 : upd G12 pM (.lst [w1, w2]) pM = some (.lst [w1, w2]) := upd_same
            generalize upd G12 pM (.lst [w1, w2]) = HM at u13 hM1
            have UM : Same H' HM := u11.trans (u12.trans u13)
            replace g1 := up u13 (up u12 g1)
            replace g2 := up u13 g2
            obtain ⟨EP, BP7, _, _, _, lP, zP'⟩ := P7
            have nPM : pM ≠ pP := fun e => by
              obtain ⟨p', vs, e', h, _⟩ := lP
              cases e'
              rw [e, u12 _ _ (u11 _ _ h)] at hM
              cases hM
            have nCM : pM ≠ pC := fun e => by
              rw [e, u12 _ _ (u11 _ _ hC)] at hM
              cases hM
            have all : ∀ m ∈ [w1, w2], ∃ e : Rat, rRat K HM m e ∧ sz e ≤ 10 := by
              intro m hm
              simp only [List.mem_cons, List.not_mem_nil, or_false] at hm
              rcases hm with h | h
              · exact ⟨_, by rw [h]; exact g1, by decide +kernel⟩
              · exact ⟨_, by rw [h]; exact g2, by decide +kernel⟩
            replace EP := EP.trans (kp_same UM)
            replace BP7 := BP7.same UM
            replace lP := up UM lP
            replace hC := UM _ _ hC
            replace T7 := T7.trans (Gr.Same.ts UM)
            replace hT := up UM hT
            clear u11 u12 u13 UM g1 g2 hM hp11 hp12
            refine ⟨pM, rfl, ⟨_, SqL.of hM1⟩, for_list (xs := [w1, w2]) (fun jj σ' H' => ∃ y12 y13 l', σ' = [some (.ref b), some (.ref p1), some (.ref p2), some x, some (.ref pF), some (.int ((i + 1 : Nat) : Int)), some va, some vb, some (.ref pP), y9, y10, some v, y12, y13] ∧ PtI K b c 520 G1 H' pP l' ∧ l'.length ≤ l.length + 2 * j + jj ∧ H' pC = some (.lst xs) ∧ H' pM = some (.lst [w1, w2]) ∧ TS K HM H')
              ⟨y12, y13, l', rfl, ⟨EP, BP7, np1, np2, np3, lP, zP'⟩, by omega, hC, hM1, TS.refl K HM⟩ (fun jj σ' H' _ hW => by obtain ⟨_, _, _, _, _, _, _, h, _⟩ := hW; exact SqL.of h) (fun jj m σ' H' hjj hW => ?_) (fun σ' H' hW => ?_)⟩
            · clear EP BP7 lP zP' hC hM1
              obtain ⟨y12, y13, l', rfl, ⟨EP, BP7, _, _, _, lP, zP'⟩, nl', hC, hM1, TM⟩ := hW
              obtain ⟨e, ge, ze⟩ := all m (List.mem_of_getElem? hjj)
              replace ge := upT TM ge
              have hT' := upT TM hT
              have hjj2 : jj < 2 := (List.getElem?_eq_some_iff.mp hjj).1
              obtain ⟨gt0, gt1, gt2⟩ := gt
              walk_at "go"
              rename_i H9 v9 e9 f9
              have zn : sz (t + e) ≤ 520 := by walk_at "fit"
              replace EP := EP.trans (kp_same e9)
              replace BP7 := BP7.same e9
              replace lP := up e9 lP
              replace hC := e9 _ _ hC
              replace hM1 := e9 _ _ hM1
              replace TM := TM.trans (Gr.Same.ts e9)
              refine g_chain ?_
              walk_at "go"
              refine ite2 (fun c1 => ?_) (fun c1 => ?_)
              · walk_at "go"
                refine ite2 (fun c2 => ?_) (fun c2 => ?_)
                · walk_at "go"
                  obtain ⟨p', vs, e', h, hPP⟩ := lP
                  cases e'
                  have hl2 := hPP.length
                  refine ⟨tyL h, ?_⟩
                  walk_at "go"
                  refine g_app h (by omega) ?_
                  have t1 := ts_upd (K := K) (o := .lst (vs ++ [v9])) h
                  refine ⟨_, _, l' ++ [t + e], rfl, ⟨kp_own np3 EP h, BP7.own np1 np2, np1, np2, np3, ⟨pP, _, rfl, upd_same, paired_snoc (paired_ts t1 hPP) (upT (K := K) t1 f9)⟩, fun s hs => ?_⟩, by rw [List.length_append, List.length_singleton]; omega, by rw [upd_ne nPC]; exact hC, by rw [upd_ne nPM]; exact hM1, TM.trans t1⟩
                  rcases List.mem_append.mp hs with z | z
                  · exact zP' s z
                  · obtain rfl := List.mem_singleton.mp z
                    have hn := num_in (of_decide_eq_true c1) (of_decide_eq_true c2)
                    exact ⟨hn.1, hn.2, zn⟩
                · walk_at "go"
                  exact ⟨_, _, l', rfl, ⟨EP, BP7, np1, np2, np3, lP, zP'⟩, by omega, hC, hM1, TM⟩
              · walk_at "go"
                refine iteF ?_
                walk_at "go"
                exact ⟨_, _, l', rfl, ⟨EP, BP7, np1, np2, np3, lP, zP'⟩, by omega, hC, hM1, TM⟩
            · obtain ⟨y12, y13, l', rfl, P8, nl', hC, hM1, TM⟩ := hW
              have e2 : [w1, w2].length = 2 := rfl
              rw [e2] at nl'
              exact ⟨_, y12, y13, l', rfl, P8, by omega, hC, T7.trans TM⟩
          · obtain ⟨y11, y12, y13, l', rfl, P7, nl', hC, T7⟩ := hW
            exact k _ _ ⟨y11, y12, y13, l', rfl, P7, by omega⟩
        · clear P6
          obtain ⟨y11, y12, y13, l', rfl, ⟨EP, BP7, np1, np2, np3, lP, zP⟩, nl'⟩ := m
          have fa' := upT EP.1 fa
          have fb' := upT EP.1 fb
          have lF' := kept EP nf1 nf2 lF
          walk_at "go"
          refine g_lc (K := K) (A := rRat K) (B := rSpot K) (fun _ => true) (fun t => onWay ones[i] ones[i + 1] t) lP (by omega) (fun j o v9 H9 ho e9 h9 Kp Sk kp sk => ?_) (fun H9 v9 e9 h9 => ?_)
          · have hz := zP _ (List.mem_of_getElem? ho)
            have fa2 := up e9 fa'
            have fb2 := up e9 fb'
            walk_at "go"
            refine ⟨rfl, ?_⟩
            dsimp only [tYes]
            refine iteT ?_
            walk_at "st"
            walk_at "st"
            walk_at "st"
            walk_at "st"
            refine g_sp3 fa2 fb2 h9 ⟨⟨Nat.le_trans b1.1 (by omega), Nat.le_trans b1.2 (by omega)⟩, ⟨Nat.le_trans b2.1 (by omega), Nat.le_trans b2.2 (by omega)⟩, Nat.le_trans hz.2.2 (by omega)⟩ (fun H10 v10 e10 h10 => kp _ _ e10 rfl h10)
          · rw [List.filter_eq_self.mpr (fun _ _ => rfl)] at h9
            refine g_catF (A := rSpot K) (up e9 lF') h9 (by rw [List.length_map]; omega) (fun pC H10 hC u10 g10 => ?_)
            have B9 := BP7.same e9
            obtain ⟨nc1, nc2⟩ := B9.ne hC
            have EQ := (EG.trans EP).trans (kp_same e9)
            refine ⟨pC, _, _, _, _, _, _, _, _, _, _, rfl, EQ.trans (kp_same u10), B9.same u10, nc1, nc2, g10, fun s hs => ?_, by rw [List.length_append, List.length_map]; omega⟩
            rcases List.mem_append.mp hs with z | z
            · exact zf s z
            · obtain ⟨t, ht, rfl⟩ := List.mem_map.mp z
              have hz := zP t ht
              have hw := sz_onWay b1 b2 hz.2.2
              exact ⟨onL_way hi hz.1 hz.2.1, Nat.le_trans hw.1 (by omega), Nat.le_trans hw.2 (by omega)⟩
  · obtain ⟨pF, lf, y5, y6, y7, y8, y9, y10, y11, y12, y13, rfl, EG, BG, nf1, nf2, lF, zf, nlf⟩ := hW
    walk_at "go"
    exact q _ _ _ EG BG lF zf
theorem sc_law : FnScope ["_law_script", "_law_bag_here", "_law_good", "_law_turn", "_law_ones", "_law_others", "_law_gone", "_law_room", "_law_handed", "_law_told", "_law_spot_here"] ["_law_script"] (defScope (topS 52)) := ⟨rfl, rfl, rfl, by decide +kernel, rfl, by decide +kernel, by decide +kernel⟩
theorem bareGo_sz {others : List Spot} {slack : Rat} (ho : ∀ p ∈ others, BS 30 p) (hs : sz slack ≤ 380) : ∀ {l : List Piece} {p : Spot}, bareGo others slack l = some p → (∀ o ∈ l, BP 30 o) → BS 2700 p
  | [], p, h, _ => by cases h
  | pc :: r, p, h, hl => by
    unfold bareGo at h
    split at h
    · rename_i t ht
      cases h
      have hz := gapIn_sz ht fun s hm => by
        obtain ⟨o, ho', e⟩ := spansOf_mem.mp hm
        exact nearSpan_sz e (hl pc List.mem_cons_self) (pieces_in ho o ho') hs
      have hb := hl pc List.mem_cons_self
      have z := sz_onWay hb.1 hb.2 hz
      exact ⟨Nat.le_trans z.1 (by omega), Nat.le_trans z.2 (by omega)⟩
    · exact bareGo_sz ho hs h fun o h => hl o (List.mem_cons_of_mem _ h)
theorem bareOf_sz {ones others : List Spot} {slack : Rat} {p : Spot} (h : bareOf ones others slack = some p) (h1 : ∀ p ∈ ones, BS 30 p) (ho : ∀ p ∈ others, BS 30 p) (hs : sz slack ≤ 380) : BS 2700 p := bareGo_sz ho hs h (pieces_in h1)
/-- a polyline that the law holds -/
def LI (K : PySem.W.Frag) (b c : Addr) (H : Hp) (p : Addr) (l : List (Rat × Rat)) : Prop := rLst K (rSpot K) H (.ref p) l ∧ p ≠ b ∧ p ≠ c ∧ l ≠ [] ∧ l.length ≤ 5 ∧ ∀ s ∈ l, BS 30 s
theorem LI.go {b c p : Addr} {H H' : Hp} {l : List (Rat × Rat)} (h : LI K b c H p l) (e : Kp K b c H H') : LI K b c H' p l := ⟨kept e h.2.1 h.2.2.1 h.1, h.2⟩
def LwI (a b c : Addr) (σ' : L2.St) (H' : Hp) : Prop := ∃ y3 y4 y5 y6 y7 y8 y9 y10, σ' = [some (.ref a), some (.ref b), some (.bl true), y3, y4, y5, y6, y7, y8, y9, y10] ∧ Bag b c H'
theorem g_eqLL {H : Hp} {Q : VK} {x y : V} {l m : List (Rat × Rat)} (h1 : rLst K (rLst K (rSpot K)) H x [l, m]) (h2 : rLst K (rLst K (rSpot K)) H y [l, m]) (q : Q (.bl true) H) : rEqD K x y H Q := by
  have dp : ∀ {z : V}, rLst K (rLst K (rSpot K)) H z [l, m] → Dp K H z (.list [dL l, dL m]) := fun {z} h => by
    obtain ⟨p, vs, rfl, hs, hp⟩ := h
    cases hp with
    | cons a1 t =>
      cases t with
      | cons a2 t =>
        cases t
        exact .lst (SqL.of hs) (.cons (dp_list a1) (.cons (dp_list a2) .nil))
  refine ⟨_, _, dp h1, dp h2, sh_LL l m, sh_LL l m, ?_⟩
  have hc : (PyData.list [dL l, dL m]).canLay0 = true := by
    have h1 : (PyData.list [dL l, dL m]).canLay0 = ((dL l).canLay0 && ((dL m).canLay0 && true)) := rfl
    have e1 : (dL l).canLay0 = true := can_all l
    have e2 : (dL m).canLay0 = true := can_all m
    rw [h1, e1, e2]
    rfl
  rw [SeqAt.eqv_refl _ hc]
  exact q
theorem abs_nn (q : Rat) : 0 ≤ q.abs := by
  rw [← Rat.num_nonneg, abs_num]
  split <;> omega
def spLaw (K : PySem.W.Frag) : Sp := fun vs H Q _ => ∃ (a : Addr) (ns : List Int), vs = [.ref a] ∧ SqL K H a (ns.map V.int) ∧ ∀ H', Q (.bl true) H'
theorem okl_law (T : Tx K mg) {fL : Addr} {fdL : FuncData} (F : Fun K "law" "law" (topS 52) fL fdL) (n__law_bag : Kn P w K mg base "_law_bag" 1 ["_law_script"] (spBag K)) (n__law_draw : Kn P w K mg base "_law_draw" 1 ["_law_bag_here", "_law_many"] (spDraw K)) (n__law_any : Kn P w K mg base "_law_any" 2 ["_law_bag_here", "_law_some"] (spAny K)) (n__law_ratio : Kn P w K mg base "_law_ratio" 3 ["_law_bag_here", "_law_reach"] (spLRatio K))
    (n__law_corners : Kn P w K mg base "_law_corners" 5 ["_law_bag_here", "_law_many"] (spCorners K)) (n__law_spots_of : Kn P w K mg base "_law_spots_of" 6 ["_law_bag_here", "_law_ones", "_law_others", "_law_room"] (spSpots K)) (n__law_reaches : Kn P w K mg base "_law_reaches" 5 ["_law_spot_here", "_law_polyline", "_law_room"] (spReach K)) (n__law_is_spot : Kn P w K mg base "_law_is_spot" 3 ["_law_spot_here"] (spYes (rSpot K) fun a => BS 2700 a))
    (n_apart : Kn P w K mg base "apart" 6 ["spot", "polyline"] (spApart K)) (n_bare : Kn P w K mg base "bare" 6 ["ones", "others", "slack"] (spBare K)) : FnOk P w K mg base CX0 7 fL fdL ["_law_script"] (spLaw K) := by
  refine F.ok sc_law (fun vs H Q E ⟨_, _, e, _⟩ => by rw [e]; rfl) (fun cdv A outer s H vs Q E hr h => ?_)
  obtain ⟨a, ns, rfl, hs, q⟩ := h
  refine ⟨_, (pss_cons (ps_set (i := 1) sc_law.nd rfl (.inl rfl) (pk n__law_bag hr (by decide) (by rfl) (pa_cons (pv 0) pa_nil)))
      (pss_cons (ps_set (i := 2) sc_law.nd rfl (.inl rfl) pe_bl)
      (pss_cons (ps_for PassesOwn.never rfl (pi_range1 (by rfl) T.m_range (pa_cons pe_int pa_nil)) (pg_name (i := 3) sc_law.nd rfl (.inl rfl)) (pss_cons (ps_set (i := 4) sc_law.nd rfl (.inl rfl) (pe_slice sl_list (pk n__law_corners hr (by decide) (by rfl) (pa_cons (pv 1) (pa_cons pe_int pa_nil))) (po_some (pk n__law_draw hr (by decide) (by rfl) (pa_cons (pv 1) (pa_cons pe_int pa_nil)))) po_none))
      (pss_cons (ps_set (i := 5) sc_law.nd rfl (.inl rfl) (pe_slice sl_list (pk n__law_corners hr (by decide) (by rfl) (pa_cons (pv 1) (pa_cons pe_int pa_nil))) (po_some (pk n__law_draw hr (by decide) (by rfl) (pa_cons (pv 1) (pa_cons pe_int pa_nil)))) po_none))
      (pss_cons (ps_if (pt_cmpR op_gt (pk n__law_draw hr (by decide) (by rfl) (pa_cons (pv 1) (pa_cons pe_int pa_nil))) pe_int (nomark _)) (pss_cons (ps_set (i := 6) sc_law.nd rfl (.inl rfl) (pk n__law_draw hr (by decide) (by rfl) (pa_cons (pv 1) (pa_cons (pe_callB call_lenG (by rfl) T.m_len (by decide +kernel) (pa_cons (pv 4) pa_nil)) pa_nil))))
      (pss_one (ps_set (i := 5) sc_law.nd rfl (.inl rfl) (pe_ifExp (pt_cmpR op_lt (pe_callB call_lenG (by rfl) T.m_len (by decide +kernel) (pa_cons (pv 4) pa_nil)) pe_int (nomark _)) (pe_lst (pa_cons (pe_ix (r := rIxL K) ix_list (pv 4) pe_int (fun _ _ => rfl)) (pa_cons (pe_ix (r := rIxL K) ix_list (pv 4) (pe_un un_neg pe_int) (fun _ _ => rfl)) pa_nil))) (pe_op op_cat (pe_slice sl_list (pv 4) po_none (po_some (pv 6))) (pe_slice sl_list (pv 4) (po_some (pe_op op_add (pv 6) pe_int)) po_none)))))) pss_nil)
      (pss_cons (ps_set (i := 7) sc_law.nd rfl (.inl rfl) (pk n__law_any hr (by decide) (by rfl) (pa_cons (pv 1) (pa_cons (pe_lst (pa_cons (pe_tup (pa_cons pe_int (pa_cons pe_int pa_nil))) (pa_cons (pe_tup (pa_cons pe_int (pa_cons pe_int pa_nil))) (pa_cons (pe_tup (pa_cons pe_int (pa_cons pe_int pa_nil))) (pa_cons (pe_tup (pa_cons pe_int (pa_cons pe_int pa_nil))) (pa_cons (pk n__law_ratio hr (by decide) (by rfl) (pa_cons (pv 1) (pa_cons pe_int pa_nil))) pa_nil)))))) pa_nil))))
      (pss_cons (ps_if (pt_cmpR op_eq (pk n__law_draw hr (by decide) (by rfl) (pa_cons (pv 1) (pa_cons pe_int pa_nil))) pe_int (nomark _)) (pss_one (ps_set (i := 7) sc_law.nd rfl (.inl rfl) (pk n_apart hr (by decide) (by rfl) (pa_cons (pk n__law_any hr (by decide) (by rfl) (pa_cons (pv 1) (pa_cons (pv 4) pa_nil))) (pa_cons (pv 5) pa_nil))))) pss_nil)
      (pss_cons (ps_set (i := 7) sc_law.nd rfl (.inl rfl) (pe_tup (pa_cons (pe_callB call_absG (by rfl) T.m_abs (by decide +kernel) (pa_cons (pe_ix (r := rIxT K) ix_tup (pv 7) pe_int (fun _ _ => rfl)) pa_nil)) (pa_cons (pe_ix (r := rIxT K) ix_tup (pv 7) pe_int (fun _ _ => rfl)) pa_nil))))
      (pss_cons (ps_set (i := 8) sc_law.nd rfl (.inl rfl) (pe_lst (pa_cons (pe_callTy call_listG (by rfl) T.m_list (by decide +kernel) (pa_cons (pv 4) pa_nil)) (pa_cons (pe_callTy call_listG (by rfl) T.m_list (by decide +kernel) (pa_cons (pv 5) pa_nil)) pa_nil))))
      (pss_cons (ps_set (i := 9) sc_law.nd rfl (.inl rfl) (pk n_bare hr (by decide) (by rfl) (pa_cons (pe_ix (r := rIxL K) ix_list (pv 8) pe_int (fun _ _ => rfl)) (pa_cons (pe_ix (r := rIxL K) ix_list (pv 8) pe_int (fun _ _ => rfl)) (pa_cons (pv 7) pa_nil)))))
      (pss_cons (ps_set (i := 2) sc_law.nd rfl (.inl rfl) (pe_and (pv 2) (pe_one (pe_cmpR (op_eqD hr.units) (pv 8) (pe_lst (pa_cons (pv 4) (pa_cons (pv 5) pa_nil))) (nomark _)))))
      (pss_one (ps_if (pt_cmpR op_in (pv 9) pe_non (nomark _)) (pss_one (ps_for PassesOwn.never rfl (pi_list (pk n__law_spots_of hr (by decide) (by rfl) (pa_cons (pv 1) (pa_cons (pv 4) (pa_cons (pv 5) (pa_cons (pv 7) pa_nil)))))) (pg_name (i := 10) sc_law.nd rfl (.inl rfl)) (pss_one (ps_set (i := 2) sc_law.nd rfl (.inl rfl) (pe_and (pv 2) (pe_one (pk n__law_reaches hr (by decide) (by rfl) (pa_cons (pv 10) (pa_cons (pv 5) (pa_cons (pv 7) pa_nil)))))))))) (pss_cons (ps_set (i := 2) sc_law.nd rfl (.inl rfl) (pe_and (pv 2) (pe_and (pk n__law_is_spot hr (by decide) (by rfl) (pa_cons (pv 9) pa_nil)) (pe_one (pk n__law_reaches hr (by decide) (by rfl) (pa_cons (pv 9) (pa_cons (pv 4) (pa_cons (pe_tup (pa_cons pe_int (pa_cons pe_int pa_nil))) pa_nil))))))))
      (pss_one (ps_set (i := 2) sc_law.nd rfl (.inl rfl) (pe_and (pv 2) (pe_one (pe_not (pk n__law_reaches hr (by decide) (by rfl) (pa_cons (pv 9) (pa_cons (pv 5) (pa_cons (pv 7) pa_nil))))))))))))))))))))))
      (pss_one (ps_ret (pv 2)))))), ?_⟩
  walk_at "nm"
  walk_at "go"
  refine ⟨a, ns, rfl, hs, fun H1 b c e1 _ _ B1 => ?_⟩
  walk_at "go"
  with_reducible refine' g_rng1 ?_
  walk_at "go"
  refine g_rngN (n := 3) (by omega) (fun i => LwI a b c)
    ⟨_, _, _, _, _, _, _, _, rfl, B1⟩ (fun i σ' G hi hW => ?_) (fun σ' H' hW => ?_)
  · obtain ⟨y3, y4, y5, y6, y7, y8, y9, y10, rfl, BG⟩ := hW
    walk_at "go"
    refine ⟨b, c, rfl, BG, fun H1 p l e1 B1 np1 np2 lp n2 n5 z => ?_⟩
    walk_at "go"
    refine ⟨b, c, 2, rfl, B1, by decide, by decide, fun H2 r e2 B2 hr => ?_⟩
    walk_at "go"
    refine g_slFromF (A := rSpot K) (kept e2 np1 np2 lp) (fun pO H3 hO u3 lO => ?_)
    have B3 := B2.same u3
    obtain ⟨no1, no2⟩ := B2.ne hO
    have LO : LI K b c H3 pO (l.drop r) := ⟨lO, no1, no2, fun e => by
      have := congrArg List.length e
      rw [List.length_drop, List.length_nil] at this
      omega, by rw [List.length_drop]; omega, fun s hs => z s (List.mem_of_mem_drop hs)⟩
    generalize l.drop r = ones at LO
    clear e1 B1 np1 np2 lp n2 n5 z e2 B2 hO u3 lO BG
    walk_at "go"
    refine ⟨b, c, rfl, B3, fun H1 p l e1 B1 np1 np2 lp n2 n5 z => ?_⟩
    walk_at "go"
    refine ⟨b, c, 2, rfl, B1, by decide, by decide, fun H2 r e2 B2 hr => ?_⟩
    walk_at "go"
    refine g_slFromF (A := rSpot K) (kept e2 np1 np2 lp) (fun pX H4 hX u4 lX => ?_)
    have B4 := B2.same u4
    obtain ⟨nx1, nx2⟩ := B2.ne hX
    have LX : LI K b c H4 pX (l.drop r) := ⟨lX, nx1, nx2, fun e => by
      have := congrArg List.length e
      rw [List.length_drop, List.length_nil] at this
      omega, by rw [List.length_drop]; omega, fun s hs => z s (List.mem_of_mem_drop hs)⟩
    generalize l.drop r = others at LX
    replace LO := LO.go (e1.trans (e2.trans (kp_same u4)))
    clear e1 B1 np1 np2 lp n2 n5 z e2 B2 hX u4 lX B3
    try dsimp only
    with_reducible refine' g_seqM (fun σ' H' => ∃ y6 pX others, σ' = [some (.ref a), some (.ref b), some (.bl true), some (.int (i : Int)), some (.ref pO), some (.ref pX), y6, y7, y8, y9, y10] ∧ Bag b c H' ∧ LI K b c H' pO ones ∧ LI K b c H' pX others) (fun N k => ?_) (fun σ' H5 m => ?_)
    · walk_at "go"
      refine ⟨b, c, 3, rfl, B4, by decide, by decide, fun H5 r5 e5 B5 hr5 => ?_⟩
      replace LO := LO.go e5
      replace LX := LX.go e5
      walk_at "go"
      refine ite2 (fun c1 => ?_) (fun c1 => ?_)
      · have lO := LO.1
        walk_at "go"
        have hlO := List.length_pos_iff.mpr LO.2.2.2.1
        have hlO5 := LO.2.2.2.2.1
        refine ⟨b, c, _, rfl, B5, by omega, by omega, fun H6 r6 e6 B6 hr6 => ?_⟩
        replace LO := LO.go e6
        have lO := LO.1
        walk_at "go"
        refine ite2 (fun c2 => ?_) (fun c2 => ?_)
        · refine g_lst2 ?_
          walk_at "go"
          refine g_ixL (j := 0) lO (List.getElem?_eq_getElem hlO) (fun v1 f1 => ?_)
          walk_at "go"
          refine ⟨_, rfl, ?_⟩
          obtain ⟨vs, v2, s2, kv, ka, f2, ks⟩ := lst_last lO LO.2.2.2.1
          refine g_bx kv ka ?_
          intro p7 hp7
          obtain ⟨m1, m2⟩ := B6.ne hp7
          generalize hv : V.ref p7 = w7
          generalize hH : upd _ p7 _ = G7
          obtain ⟨u7, g7⟩ := newL2 (K := K) (A := rSpot K) hp7 hv hH f1 f2
          subst hv
          refine k _ _ ⟨_, p7, _, rfl, B6.same u7, LO.go (kp_same u7), g7, m1, m2, by simp, by show 2 ≤ 5; decide, fun s hs => ?_⟩
          simp only [List.mem_cons, List.not_mem_nil, or_false] at hs
          rcases hs with h | h
          · rw [h]
            exact LO.2.2.2.2.2 _ (List.getElem_mem _)
          · rw [h]
            exact LO.2.2.2.2.2 _ ks
        · have c3 : ¬ ((ones.length : Int) < 3) := fun z => c2 (decide_eq_true z)
          walk_at "go"
          refine g_slTo (A := rSpot K) (n := r6) lO (fun H7 v7 e7 h7 => ?_)
          walk_at "go"
          rw [show (r6 : Int) + 1 = ((r6 + 1 : Nat) : Int) by omega]
          refine g_slFrom (A := rSpot K) (n := r6 + 1) (up e7 lO) (fun H8 v8 e8 h8 => ?_)
          have hl7 : (ones.take r6).length = r6 := by rw [List.length_take]; omega
          have hl8 : (ones.drop (r6 + 1)).length = ones.length - (r6 + 1) := List.length_drop
          have hlA : (ones.take r6 ++ ones.drop (r6 + 1)).length = r6 + (ones.length - (r6 + 1)) := by rw [List.length_append, hl7, hl8]
          refine g_catF (A := rSpot K) (up e8 h7) h8 (by omega) (fun pC H9 hC u9 g9 => ?_)
          have B8 := B6.same (e7.trans e8)
          obtain ⟨m1, m2⟩ := B8.ne hC
          refine k _ _ ⟨_, pC, _, rfl, B8.same u9, LO.go (kp_same (e7.trans (e8.trans u9))), g9, m1, m2, fun e => ?_, by omega, fun s hs => ?_⟩
          · have := congrArg List.length e
            rw [hlA, List.length_nil] at this
            omega
          · rcases List.mem_append.mp hs with h | h
            · exact LO.2.2.2.2.2 _ (List.mem_of_mem_take h)
            · exact LO.2.2.2.2.2 _ (List.mem_of_mem_drop h)
      · walk_at "go"
        exact k _ _ ⟨_, pX, others, rfl, B5, LO, LX⟩
    · clear LX B4 LO
      obtain ⟨y6, pX, others, rfl, B5, LO, LX⟩ := m
      try dsimp only
      with_reducible refine' g_seq ?_
      with_reducible refine' (g_asgM (fun v H' => ∃ room, rRat K H' v room ∧ sz room ≤ 380 ∧ Bag b c H' ∧ LI K b c H' pO ones ∧ LI K b c H' pX others) (fun N k => ?_) (fun v H6 m => ?_))
      · walk_at "go"
        refine g_lst5 ?_
        walk_at "go"
        intro p2 hp2
        generalize hv : V.ref p2 = w1
        generalize hH : upd _ p2 _ = G2
        obtain ⟨u2, g1⟩ := newR (K := K) 0 rfl rfl hp2 hv hH
        clear hv hH
        walk_at "go"
        intro p3 hp3
        generalize hv : V.ref p3 = w2
        generalize hH : upd _ p3 _ = G3
        obtain ⟨u3, g2⟩ := newR (K := K) (1 / 2) (by decide +kernel) (by decide +kernel) hp3 hv hH
        clear hv hH
        walk_at "go"
        intro p4 hp4
        generalize hv : V.ref p4 = w3
        generalize hH : upd _ p4 _ = G4
        obtain ⟨u4, g3⟩ := newR (K := K) 3 (by decide +kernel) (by decide +kernel) hp4 hv hH
        clear hv hH
        walk_at "go"
        intro p5 hp5
        generalize hv : V.ref p5 = w4
        generalize hH : upd _ p5 _ = G5
        obtain ⟨u5, g4⟩ := newR (K := K) 9 (by decide +kernel) (by decide +kernel) hp5 hv hH
        clear hv hH
        have U : Same H5 G5 := u2.trans (u3.trans (u4.trans u5))
        replace g1 := up u5 (up u4 (up u3 g1))
        replace g2 := up u5 (up u4 g2)
        replace g3 := up u5 g3
        replace LO := LO.go (kp_same U)
        replace LX := LX.go (kp_same U)
        replace B5 := B5.same U
        clear u2 u3 u4 u5 U
        walk_at "go"
        refine ⟨b, c, 5, rfl, B5, by decide, by decide, fun G6 w5 q5 e6 B6 c6 g5 => ?_⟩
        replace LO := LO.go e6
        replace LX := LX.go e6
        intro p7 hp7
        have u7 := same_new (o := .lst [w1, w2, w3, w4, w5]) hp7
        have k7 : upd G6 p7 (.lst [w1, w2, w3, w4, w5]) p7 = some (.lst [w1, w2, w3, w4, w5]) := upd_same
        obtain ⟨m1, m2⟩ := B6.ne hp7
        generalize upd G6 p7 (.lst [w1, w2, w3, w4, w5]) = G7 at u7 k7
        have E7 : Kp K b c G5 G7 := e6.trans (kp_same u7)
        replace g1 := upT E7.1 g1
        replace g2 := upT E7.1 g2
        replace g3 := upT E7.1 g3
        replace g4 := upT E7.1 g4
        replace g5 := up u7 g5
        have all : ∀ v ∈ [w1, w2, w3, w4, w5], ∃ q : Rat, rRat K G7 v q ∧ sz q ≤ 30 := by
          intro v hv
          simp only [List.mem_cons, List.not_mem_nil, or_false] at hv
          rcases hv with h | h | h | h | h
          · exact ⟨_, by rw [h]; exact g1, by decide +kernel⟩
          · exact ⟨_, by rw [h]; exact g2, by decide +kernel⟩
          · exact ⟨_, by rw [h]; exact g3, by decide +kernel⟩
          · exact ⟨_, by rw [h]; exact g4, by decide +kernel⟩
          · exact ⟨_, by rw [h]; exact g5, cd_sz c6 (by decide)⟩
        refine ⟨b, c, p7, _, rfl, B6.same u7, m1, m2, k7, by simp, by show 5 ≤ 1000; decide, fun H8 v8 e8 B8 hv8 => ?_⟩
        obtain ⟨q8, r8, z8⟩ := all v8 hv8
        exact k _ _ ⟨q8, upT e8.1 r8, by omega, B8, (LO.go (kp_same u7)).go e8, (LX.go (kp_same u7)).go e8⟩
      · clear B5 LO LX
        obtain ⟨room, f6, z6, B6, LO, LX⟩ := m
        try dsimp only
        with_reducible refine' g_seqM (fun σ' H' => ∃ v room, σ' = [some (.ref a), some (.ref b), some (.bl true), some (.int (i : Int)), some (.ref pO), some (.ref pX), y6, some v, y8, y9, y10] ∧ rRat K H' v room ∧ sz room ≤ 380 ∧ Bag b c H' ∧ LI K b c H' pO ones ∧ LI K b c H' pX others) (fun N k => ?_) (fun σ' H7 m => ?_)
        · walk_at "go"
          refine ⟨b, c, 3, rfl, B6, by decide, by decide, fun H7 r7 e7 B7 hr7 => ?_⟩
          replace LO := LO.go e7
          replace LX := LX.go e7
          replace f6 := upT e7.1 f6
          walk_at "go"
          refine ite2 (fun c1 => ?_) (fun c1 => ?_)
          · walk_at "go"
            obtain ⟨vs, kv, kl, km⟩ := lst_mem LO.1
            have hvs : vs ≠ [] := fun z => by
              rw [z] at kl
              exact LO.2.2.2.1 (List.length_eq_zero_iff.mp kl.symm)
            have kl5 := LO.2.2.2.2.1
            refine ⟨b, c, pO, vs, rfl, B7, LO.2.1, LO.2.2.1, kv, hvs, by omega, fun H8 v8 e8 B8 hv => ?_⟩
            obtain ⟨s8, m8, h8⟩ := km v8 hv
            have zs := LO.2.2.2.2.2 _ m8
            replace LO := LO.go e8
            replace LX := LX.go e8
            walk_at "go"
            refine ⟨_, _, s8, others, rfl, upT e8.1 h8, LX.1, zs, LX.2.2.2.1, Nat.le_trans LX.2.2.2.2.1 (by omega), LX.2.2.2.2.2, fun H9 v9 q9 e9 z9 h9 => ?_⟩
            walk_at "go"
            exact k _ _ ⟨_, q9, rfl, h9, by omega, B8.same e9, LO.go (kp_same e9), LX.go (kp_same e9)⟩
          · walk_at "go"
            exact k _ _ ⟨_, room, rfl, f6, z6, B7, LO, LX⟩
        · clear f6 z6 B6 LO LX
          obtain ⟨v7, room, rfl, f7, z7, B7, LO, LX⟩ := m
          walk_at "go"
          have ea : (if room.num < 0 then -room.num else room.num) = room.abs.num := (abs_num room).symm
          rw [ea]
          intro p8 hp8
          generalize hv : V.ref p8 = w8
          generalize hH : upd _ p8 _ = H8
          obtain ⟨u8, g8⟩ := newR (K := K) room.abs rfl (by rw [abs_den]) hp8 hv hH
          clear hv hH ea
          have zr : sz room.abs ≤ 380 := sz_abs z7
          have r0 := abs_nn room
          generalize room.abs = rm at g8 zr r0
          replace LO := LO.go (kp_same u8)
          replace LX := LX.go (kp_same u8)
          replace B7 := B7.same u8
          clear u8 hp8 f7 z7
          walk_at "go"
          refine g_lst2 ?_
          walk_at "go"
          refine g_list (A := rSpot K) LO.1 (fun H9 v9 e9 h9 => ?_)
          walk_at "go"
          refine g_list (A := rSpot K) (up e9 LX.1) (fun H10 v10 e10 h10 => ?_)
          intro p11 hp11
          generalize hv : V.ref p11 = w11
          generalize hH : upd _ p11 _ = H11
          obtain ⟨u11, g11⟩ := newL2 (K := K) (A := rLst K (rSpot K)) hp11 hv hH (up e10 h9) h10
          clear hv hH hp11 h9 h10
          have U : Same H8 H11 := e9.trans (e10.trans u11)
          replace LO := LO.go (kp_same U)
          replace LX := LX.go (kp_same U)
          replace B7 := B7.same U
          replace g8 := up U g8
          clear U u11 e9 e10
          walk_at "go"
          refine g_ixL (j := 0) g11 rfl (fun va fa => ?_)
          walk_at "go"
          refine g_ixL (j := 1) g11 rfl (fun vb fb => ?_)
          walk_at "st"
          refine g_sp3 fa fb g8 ⟨⟨LO.2.2.2.1, Nat.le_trans LO.2.2.2.2.1 (by omega), LO.2.2.2.2.2⟩, ⟨LX.2.2.2.1, Nat.le_trans LX.2.2.2.2.1 (by omega), LX.2.2.2.2.2⟩, zr⟩ (fun H12 told e12 h12 => ?_)
          replace LO := LO.go (kp_same e12)
          replace LX := LX.go (kp_same e12)
          replace B7 := B7.same e12
          replace g8 := up e12 g8
          replace g11 := up e12 g11
          clear fa fb e12
          walk_at "go"
          refine iteT ?_
          walk_at "go"
          refine g_lst2 ?_
          walk_at "go"
          intro p13 hp13
          generalize hv : V.ref p13 = w13
          generalize hH : upd _ p13 _ = H13
          obtain ⟨u13, g13⟩ := newL2 (K := K) (A := rLst K (rSpot K)) hp13 hv hH LO.1 LX.1
          clear hv hH hp13
          refine g_eqLL (up u13 g11) g13 ?_
          replace LO := LO.go (kp_same u13)
          replace LX := LX.go (kp_same u13)
          replace B7 := B7.same u13
          replace g8 := up u13 g8
          replace h12 := up u13 h12
          clear u13 g13 g11
          rcases h12 with ⟨hn, rfl⟩ | ⟨tp, ht, hne, ft⟩
          · walk_at "go"
            refine iteT ?_
            with_reducible refine' g_forL ?_
            walk_at "go"
            refine ⟨b, c, pO, pX, _, ones, others, rm, rfl, B7, ⟨LO.2.1, LO.2.2.1⟩, ⟨LX.2.1, LX.2.2.1⟩, LO.1, LX.1, g8, ⟨LO.2.2.2.1, LO.2.2.2.2.1, LO.2.2.2.2.2⟩, ⟨LX.2.2.2.1, LX.2.2.2.2.1, LX.2.2.2.2.2⟩, zr, fun H14 vl l14 e14 B14 hl hz => ?_⟩
            replace LX := LX.go e14
            replace g8 := upT e14.1 g8
            obtain ⟨pl, xs, rfl, hs14, hP⟩ := hl
            refine ⟨pl, rfl, ⟨xs, SqL.of hs14⟩, for_list (xs := xs) (fun j σ' H' => ∃ y10, σ' = [some (.ref a), some (.ref b), some (.bl true), some (.int (i : Int)), some (.ref pO), some (.ref pX), y6, some w8, some w11, some .non, y10] ∧ Same H14 H')
              ⟨y10, rfl, Same.refl _⟩ (fun j σ' H' _ hW => by obtain ⟨_, _, e⟩ := hW; exact SqL.of (e _ _ hs14)) (fun j v σ' H' hj hW => ?_) (fun σ' H' hW => ?_)⟩
            · obtain ⟨y10, rfl, s14⟩ := hW
              obtain ⟨s, hsl, hS⟩ := LiI.paired_get hP hj
              obtain ⟨⟨pc, hpc, t, t0, t1, rfl⟩, zS⟩ := hz s (List.mem_of_getElem? hsl)
              have hS' := up s14 hS
              have hX' := up s14 LX.1
              have g8' := up s14 g8
              walk_at "go"
              refine iteT ?_
              walk_at "st"
              walk_at "st"
              walk_at "st"
              walk_at "st"
              refine g_sp3B hS' hX' g8' ⟨zS, ⟨LX.2.2.2.2.2, Nat.le_trans LX.2.2.2.2.1 (by omega)⟩, zr⟩ (fun H15 e15 => ?_)
              rw [bare_none r0 LX.2.2.2.1 hn pc hpc t t0 t1]
              exact ⟨_, rfl, s14.trans e15⟩
            · obtain ⟨y10, rfl, s14⟩ := hW
              exact ⟨_, _, _, _, _, _, _, _, rfl, B14.same s14⟩
          · have hb := bare_some r0 LO.2.2.2.1 LX.2.2.2.1 ht
            have zt := bareOf_sz ht LO.2.2.2.2.2 LX.2.2.2.2.2 zr
            walk_at "go"
            refine iteF ?_
            walk_at "go"
            refine iteT ?_
            walk_at "st"
            walk_at "st"
            walk_at "st"
            refine g_sp1B ft zt (fun H14 e14 => ?_)
            replace LO := LO.go (kp_same e14)
            replace LX := LX.go (kp_same e14)
            replace B7 := B7.same e14
            replace g8 := up e14 g8
            replace ft := up e14 ft
            clear e14
            walk_at "go"
            refine iteT ?_
            walk_at "go"
            intro p15 hp15
            generalize hv : V.ref p15 = w15
            generalize hH : upd _ p15 _ = H15
            obtain ⟨u15, g15⟩ := newR (K := K) 0 rfl rfl hp15 hv hH
            clear hv hH hp15
            replace LO := LO.go (kp_same u15)
            replace LX := LX.go (kp_same u15)
            replace B7 := B7.same u15
            replace g8 := up u15 g8
            replace ft := up u15 ft
            refine g_sp3B ft LO.1 g15 ⟨zt, ⟨LO.2.2.2.2.2, Nat.le_trans LO.2.2.2.2.1 (by omega)⟩, Nat.le_trans sz_0 (by omega)⟩ (fun H16 e16 => ?_)
            rw [hb.1]
            replace LX := LX.go (kp_same e16)
            replace B7 := B7.same e16
            replace g8 := up e16 g8
            replace ft := up e16 ft
            clear u15 e16
            walk_at "go"
            refine iteT ?_
            walk_at "st"
            walk_at "st"
            walk_at "st"
            walk_at "st"
            walk_at "st"
            refine g_sp3B ft LX.1 g8 ⟨zt, ⟨LX.2.2.2.2.2, Nat.le_trans LX.2.2.2.2.1 (by omega)⟩, zr⟩ (fun H17 e17 => ?_)
            rw [hb.2]
            walk_at "go"
            exact ⟨_, _, _, _, _, _, _, _, rfl, B7.same e17⟩
  · obtain ⟨y3, y4, y5, y6, y7, y8, y9, y10, rfl, BG⟩ := hW
    walk_at "go"
    exact q _
theorem bd_common : ∀ (kV doc pm : Value) (an : Option Addr) (cdv ct : Value) (us : List Value), us.length = (["one", "other"] : List Str).length → bindArgs (PySem.W.fnOf "common" "common" (defArgs (topS 5)) (defBody (topS 5)) (defScope (topS 5)) .none kV doc pm an cdv ct) ⟨us, []⟩ = pure ((["one", "other"] : List Str).zip us) := fun _ _ _ _ _ _ us hl => match us, hl with | [_, _], _ => rfl
theorem bd_ratio : ∀ (kV doc pm : Value) (an : Option Addr) (cdv ct : Value) (us : List Value), us.length = (["over", "under"] : List Str).length → bindArgs (PySem.W.fnOf "ratio" "ratio" (defArgs (topS 6)) (defBody (topS 6)) (defScope (topS 6)) .none kV doc pm an cdv ct) ⟨us, []⟩ = pure ((["over", "under"] : List Str).zip us) := fun _ _ _ _ _ _ us hl => match us, hl with | [_, _], _ => rfl
theorem bd_plus : ∀ (kV doc pm : Value) (an : Option Addr) (cdv ct : Value) (us : List Value), us.length = (["one", "other"] : List Str).length → bindArgs (PySem.W.fnOf "plus" "plus" (defArgs (topS 7)) (defBody (topS 7)) (defScope (topS 7)) .none kV doc pm an cdv ct) ⟨us, []⟩ = pure ((["one", "other"] : List Str).zip us) := fun _ _ _ _ _ _ us hl => match us, hl with | [_, _], _ => rfl
theorem bd_minus : ∀ (kV doc pm : Value) (an : Option Addr) (cdv ct : Value) (us : List Value), us.length = (["one", "other"] : List Str).length → bindArgs (PySem.W.fnOf "minus" "minus" (defArgs (topS 8)) (defBody (topS 8)) (defScope (topS 8)) .none kV doc pm an cdv ct) ⟨us, []⟩ = pure ((["one", "other"] : List Str).zip us) := fun _ _ _ _ _ _ us hl => match us, hl with | [_, _], _ => rfl
theorem bd_times : ∀ (kV doc pm : Value) (an : Option Addr) (cdv ct : Value) (us : List Value), us.length = (["one", "other"] : List Str).length → bindArgs (PySem.W.fnOf "times" "times" (defArgs (topS 9)) (defBody (topS 9)) (defScope (topS 9)) .none kV doc pm an cdv ct) ⟨us, []⟩ = pure ((["one", "other"] : List Str).zip us) := fun _ _ _ _ _ _ us hl => match us, hl with | [_, _], _ => rfl
theorem bd_divided : ∀ (kV doc pm : Value) (an : Option Addr) (cdv ct : Value) (us : List Value), us.length = (["one", "other"] : List Str).length → bindArgs (PySem.W.fnOf "divided" "divided" (defArgs (topS 10)) (defBody (topS 10)) (defScope (topS 10)) .none kV doc pm an cdv ct) ⟨us, []⟩ = pure ((["one", "other"] : List Str).zip us) := fun _ _ _ _ _ _ us hl => match us, hl with | [_, _], _ => rfl
theorem bd_order : ∀ (kV doc pm : Value) (an : Option Addr) (cdv ct : Value) (us : List Value), us.length = (["one", "other"] : List Str).length → bindArgs (PySem.W.fnOf "order" "order" (defArgs (topS 11)) (defBody (topS 11)) (defScope (topS 11)) .none kV doc pm an cdv ct) ⟨us, []⟩ = pure ((["one", "other"] : List Str).zip us) := fun _ _ _ _ _ _ us hl => match us, hl with | [_, _], _ => rfl
theorem bd_less : ∀ (kV doc pm : Value) (an : Option Addr) (cdv ct : Value) (us : List Value), us.length = (["one", "other"] : List Str).length → bindArgs (PySem.W.fnOf "less" "less" (defArgs (topS 12)) (defBody (topS 12)) (defScope (topS 12)) .none kV doc pm an cdv ct) ⟨us, []⟩ = pure ((["one", "other"] : List Str).zip us) := fun _ _ _ _ _ _ us hl => match us, hl with | [_, _], _ => rfl
theorem bd_size : ∀ (kV doc pm : Value) (an : Option Addr) (cdv ct : Value) (us : List Value), us.length = (["one"] : List Str).length → bindArgs (PySem.W.fnOf "size" "size" (defArgs (topS 13)) (defBody (topS 13)) (defScope (topS 13)) .none kV doc pm an cdv ct) ⟨us, []⟩ = pure ((["one"] : List Str).zip us) := fun _ _ _ _ _ _ us hl => match us, hl with | [_], _ => rfl
theorem bd_least : ∀ (kV doc pm : Value) (an : Option Addr) (cdv ct : Value) (us : List Value), us.length = (["some"] : List Str).length → bindArgs (PySem.W.fnOf "least" "least" (defArgs (topS 14)) (defBody (topS 14)) (defScope (topS 14)) .none kV doc pm an cdv ct) ⟨us, []⟩ = pure ((["some"] : List Str).zip us) := fun _ _ _ _ _ _ us hl => match us, hl with | [_], _ => rfl
theorem bd_apart_of : ∀ (kV doc pm : Value) (an : Option Addr) (cdv ct : Value) (us : List Value), us.length = (["one", "other"] : List Str).length → bindArgs (PySem.W.fnOf "apart_of" "apart_of" (defArgs (topS 15)) (defBody (topS 15)) (defScope (topS 15)) .none kV doc pm an cdv ct) ⟨us, []⟩ = pure ((["one", "other"] : List Str).zip us) := fun _ _ _ _ _ _ us hl => match us, hl with | [_, _], _ => rfl
theorem bd_on_way : ∀ (kV doc pm : Value) (an : Option Addr) (cdv ct : Value) (us : List Value), us.length = (["one", "other", "share"] : List Str).length → bindArgs (PySem.W.fnOf "on_way" "on_way" (defArgs (topS 16)) (defBody (topS 16)) (defScope (topS 16)) .none kV doc pm an cdv ct) ⟨us, []⟩ = pure ((["one", "other", "share"] : List Str).zip us) := fun _ _ _ _ _ _ us hl => match us, hl with | [_, _, _], _ => rfl
theorem bd_crossings : ∀ (kV doc pm : Value) (an : Option Addr) (cdv ct : Value) (us : List Value), us.length = (["start", "far"] : List Str).length → bindArgs (PySem.W.fnOf "crossings" "crossings" (defArgs (topS 19)) (defBody (topS 19)) (defScope (topS 19)) .none kV doc pm an cdv ct) ⟨us, []⟩ = pure ((["start", "far"] : List Str).zip us) := fun _ _ _ _ _ _ us hl => match us, hl with | [_, _], _ => rfl
theorem bd_sorted_two : ∀ (kV doc pm : Value) (an : Option Addr) (cdv ct : Value) (us : List Value), us.length = (["one", "other"] : List Str).length → bindArgs (PySem.W.fnOf "sorted_two" "sorted_two" (defArgs (topS 25)) (defBody (topS 25)) (defScope (topS 25)) .none kV doc pm an cdv ct) ⟨us, []⟩ = pure ((["one", "other"] : List Str).zip us) := fun _ _ _ _ _ _ us hl => match us, hl with | [_, _], _ => rfl
theorem bd_lean : ∀ (kV doc pm : Value) (an : Option Addr) (cdv ct : Value) (us : List Value), us.length = (["x", "y", "c", "spot"] : List Str).length → bindArgs (PySem.W.fnOf "lean" "lean" (defArgs (topS 26)) (defBody (topS 26)) (defScope (topS 26)) .none kV doc pm an cdv ct) ⟨us, []⟩ = pure ((["x", "y", "c", "spot"] : List Str).zip us) := fun _ _ _ _ _ _ us hl => match us, hl with | [_, _, _, _], _ => rfl
theorem bd_narrowed : ∀ (kV doc pm : Value) (an : Option Addr) (cdv ct : Value) (us : List Value), us.length = (["span", "start", "far", "low", "high"] : List Str).length → bindArgs (PySem.W.fnOf "narrowed" "narrowed" (defArgs (topS 23)) (defBody (topS 23)) (defScope (topS 23)) .none kV doc pm an cdv ct) ⟨us, []⟩ = pure ((["span", "start", "far", "low", "high"] : List Str).zip us) := fun _ _ _ _ _ _ us hl => match us, hl with | [_, _, _, _, _], _ => rfl
theorem bd_near_span : ∀ (kV doc pm : Value) (an : Option Addr) (cdv ct : Value) (us : List Value), us.length = (["piece", "other", "slack"] : List Str).length → bindArgs (PySem.W.fnOf "near_span" "near_span" (defArgs (topS 24)) (defBody (topS 24)) (defScope (topS 24)) .none kV doc pm an cdv ct) ⟨us, []⟩ = pure ((["piece", "other", "slack"] : List Str).zip us) := fun _ _ _ _ _ _ us hl => match us, hl with | [_, _, _], _ => rfl
theorem bd_pieces_of : ∀ (kV doc pm : Value) (an : Option Addr) (cdv ct : Value) (us : List Value), us.length = (["polyline"] : List Str).length → bindArgs (PySem.W.fnOf "pieces_of" "pieces_of" (defArgs (topS 21)) (defBody (topS 21)) (defScope (topS 21)) .none kV doc pm an cdv ct) ⟨us, []⟩ = pure ((["polyline"] : List Str).zip us) := fun _ _ _ _ _ _ us hl => match us, hl with | [_], _ => rfl
theorem bd_in_order : ∀ (kV doc pm : Value) (an : Option Addr) (cdv ct : Value) (us : List Value), us.length = (["spans"] : List Str).length → bindArgs (PySem.W.fnOf "in_order" "in_order" (defArgs (topS 27)) (defBody (topS 27)) (defScope (topS 27)) .none kV doc pm an cdv ct) ⟨us, []⟩ = pure ((["spans"] : List Str).zip us) := fun _ _ _ _ _ _ us hl => match us, hl with | [_], _ => rfl
theorem bd_gap_in : ∀ (kV doc pm : Value) (an : Option Addr) (cdv ct : Value) (us : List Value), us.length = (["spans"] : List Str).length → bindArgs (PySem.W.fnOf "gap_in" "gap_in" (defArgs (topS 28)) (defBody (topS 28)) (defScope (topS 28)) .none kV doc pm an cdv ct) ⟨us, []⟩ = pure ((["spans"] : List Str).zip us) := fun _ _ _ _ _ _ us hl => match us, hl with | [_], _ => rfl
theorem bd_bare : ∀ (kV doc pm : Value) (an : Option Addr) (cdv ct : Value) (us : List Value), us.length = (["ones", "others", "slack"] : List Str).length → bindArgs (PySem.W.fnOf "bare" "bare" (defArgs (topS 29)) (defBody (topS 29)) (defScope (topS 29)) .none kV doc pm an cdv ct) ⟨us, []⟩ = pure ((["ones", "others", "slack"] : List Str).zip us) := fun _ _ _ _ _ _ us hl => match us, hl with | [_, _, _], _ => rfl
theorem bd_to_piece : ∀ (kV doc pm : Value) (an : Option Addr) (cdv ct : Value) (us : List Value), us.length = (["spot", "one", "other"] : List Str).length → bindArgs (PySem.W.fnOf "to_piece" "to_piece" (defArgs (topS 20)) (defBody (topS 20)) (defScope (topS 20)) .none kV doc pm an cdv ct) ⟨us, []⟩ = pure ((["spot", "one", "other"] : List Str).zip us) := fun _ _ _ _ _ _ us hl => match us, hl with | [_, _, _], _ => rfl
theorem bd_apart : ∀ (kV doc pm : Value) (an : Option Addr) (cdv ct : Value) (us : List Value), us.length = (["spot", "polyline"] : List Str).length → bindArgs (PySem.W.fnOf "apart" "apart" (defArgs (topS 22)) (defBody (topS 22)) (defScope (topS 22)) .none kV doc pm an cdv ct) ⟨us, []⟩ = pure ((["spot", "polyline"] : List Str).zip us) := fun _ _ _ _ _ _ us hl => match us, hl with | [_, _], _ => rfl
theorem bd__law_rat : ∀ (kV doc pm : Value) (an : Option Addr) (cdv ct : Value) (us : List Value), us.length = (["_law_over", "_law_under"] : List Str).length → bindArgs (PySem.W.fnOf "_law_rat" "_law_rat" (defArgs (topS 35)) (defBody (topS 35)) (defScope (topS 35)) .none kV doc pm an cdv ct) ⟨us, []⟩ = pure ((["_law_over", "_law_under"] : List Str).zip us) := fun _ _ _ _ _ _ us hl => match us, hl with | [_, _], _ => rfl
theorem bd__law_sum : ∀ (kV doc pm : Value) (an : Option Addr) (cdv ct : Value) (us : List Value), us.length = (["_law_one", "_law_two"] : List Str).length → bindArgs (PySem.W.fnOf "_law_sum" "_law_sum" (defArgs (topS 36)) (defBody (topS 36)) (defScope (topS 36)) .none kV doc pm an cdv ct) ⟨us, []⟩ = pure ((["_law_one", "_law_two"] : List Str).zip us) := fun _ _ _ _ _ _ us hl => match us, hl with | [_, _], _ => rfl
theorem bd__law_dif : ∀ (kV doc pm : Value) (an : Option Addr) (cdv ct : Value) (us : List Value), us.length = (["_law_one", "_law_two"] : List Str).length → bindArgs (PySem.W.fnOf "_law_dif" "_law_dif" (defArgs (topS 37)) (defBody (topS 37)) (defScope (topS 37)) .none kV doc pm an cdv ct) ⟨us, []⟩ = pure ((["_law_one", "_law_two"] : List Str).zip us) := fun _ _ _ _ _ _ us hl => match us, hl with | [_, _], _ => rfl
theorem bd__law_prod : ∀ (kV doc pm : Value) (an : Option Addr) (cdv ct : Value) (us : List Value), us.length = (["_law_one", "_law_two"] : List Str).length → bindArgs (PySem.W.fnOf "_law_prod" "_law_prod" (defArgs (topS 38)) (defBody (topS 38)) (defScope (topS 38)) .none kV doc pm an cdv ct) ⟨us, []⟩ = pure ((["_law_one", "_law_two"] : List Str).zip us) := fun _ _ _ _ _ _ us hl => match us, hl with | [_, _], _ => rfl
theorem bd__law_quo : ∀ (kV doc pm : Value) (an : Option Addr) (cdv ct : Value) (us : List Value), us.length = (["_law_one", "_law_two"] : List Str).length → bindArgs (PySem.W.fnOf "_law_quo" "_law_quo" (defArgs (topS 39)) (defBody (topS 39)) (defScope (topS 39)) .none kV doc pm an cdv ct) ⟨us, []⟩ = pure ((["_law_one", "_law_two"] : List Str).zip us) := fun _ _ _ _ _ _ us hl => match us, hl with | [_, _], _ => rfl
theorem bd__law_comp : ∀ (kV doc pm : Value) (an : Option Addr) (cdv ct : Value) (us : List Value), us.length = (["_law_one", "_law_two"] : List Str).length → bindArgs (PySem.W.fnOf "_law_comp" "_law_comp" (defArgs (topS 40)) (defBody (topS 40)) (defScope (topS 40)) .none kV doc pm an cdv ct) ⟨us, []⟩ = pure ((["_law_one", "_law_two"] : List Str).zip us) := fun _ _ _ _ _ _ us hl => match us, hl with | [_, _], _ => rfl
theorem bd__law_on : ∀ (kV doc pm : Value) (an : Option Addr) (cdv ct : Value) (us : List Value), us.length = (["_law_one", "_law_two", "_law_part"] : List Str).length → bindArgs (PySem.W.fnOf "_law_on" "_law_on" (defArgs (topS 45)) (defBody (topS 45)) (defScope (topS 45)) .none kV doc pm an cdv ct) ⟨us, []⟩ = pure ((["_law_one", "_law_two", "_law_part"] : List Str).zip us) := fun _ _ _ _ _ _ us hl => match us, hl with | [_, _, _], _ => rfl
theorem bd__law_span : ∀ (kV doc pm : Value) (an : Option Addr) (cdv ct : Value) (us : List Value), us.length = (["_law_bits_here", "_law_start", "_law_far", "_law_low", "_law_high"] : List Str).length → bindArgs (PySem.W.fnOf "_law_span" "_law_span" (defArgs (topS 47)) (defBody (topS 47)) (defScope (topS 47)) .none kV doc pm an cdv ct) ⟨us, []⟩ = pure ((["_law_bits_here", "_law_start", "_law_far", "_law_low", "_law_high"] : List Str).zip us) := fun _ _ _ _ _ _ us hl => match us, hl with | [_, _, _, _, _], _ => rfl
theorem bd__law_clip : ∀ (kV doc pm : Value) (an : Option Addr) (cdv ct : Value) (us : List Value), us.length = (["_law_one", "_law_two", "_law_low", "_law_high"] : List Str).length → bindArgs (PySem.W.fnOf "_law_clip" "_law_clip" (defArgs (topS 48)) (defBody (topS 48)) (defScope (topS 48)) .none kV doc pm an cdv ct) ⟨us, []⟩ = pure ((["_law_one", "_law_two", "_law_low", "_law_high"] : List Str).zip us) := fun _ _ _ _ _ _ us hl => match us, hl with | [_, _, _, _], _ => rfl
theorem bd__law_reaches : ∀ (kV doc pm : Value) (an : Option Addr) (cdv ct : Value) (us : List Value), us.length = (["_law_spot_here", "_law_polyline", "_law_room"] : List Str).length → bindArgs (PySem.W.fnOf "_law_reaches" "_law_reaches" (defArgs (topS 49)) (defBody (topS 49)) (defScope (topS 49)) .none kV doc pm an cdv ct) ⟨us, []⟩ = pure ((["_law_spot_here", "_law_polyline", "_law_room"] : List Str).zip us) := fun _ _ _ _ _ _ us hl => match us, hl with | [_, _, _], _ => rfl
theorem bd__law_bits : ∀ (kV doc pm : Value) (an : Option Addr) (cdv ct : Value) (us : List Value), us.length = (["_law_one", "_law_two", "_law_a", "_law_b", "_law_room"] : List Str).length → bindArgs (PySem.W.fnOf "_law_bits" "_law_bits" (defArgs (topS 50)) (defBody (topS 50)) (defScope (topS 50)) .none kV doc pm an cdv ct) ⟨us, []⟩ = pure ((["_law_one", "_law_two", "_law_a", "_law_b", "_law_room"] : List Str).zip us) := fun _ _ _ _ _ _ us hl => match us, hl with | [_, _, _, _, _], _ => rfl
theorem bd__law_whole : ∀ (kV doc pm : Value) (an : Option Addr) (cdv ct : Value) (us : List Value), us.length = (["_law_found"] : List Str).length → bindArgs (PySem.W.fnOf "_law_whole" "_law_whole" (defArgs (topS 33)) (defBody (topS 33)) (defScope (topS 33)) .none kV doc pm an cdv ct) ⟨us, []⟩ = pure ((["_law_found"] : List Str).zip us) := fun _ _ _ _ _ _ us hl => match us, hl with | [_], _ => rfl
theorem bd__law_is_ratio : ∀ (kV doc pm : Value) (an : Option Addr) (cdv ct : Value) (us : List Value), us.length = (["_law_one"] : List Str).length → bindArgs (PySem.W.fnOf "_law_is_ratio" "_law_is_ratio" (defArgs (topS 41)) (defBody (topS 41)) (defScope (topS 41)) .none kV doc pm an cdv ct) ⟨us, []⟩ = pure ((["_law_one"] : List Str).zip us) := fun _ _ _ _ _ _ us hl => match us, hl with | [_], _ => rfl
theorem bd__law_is_spot : ∀ (kV doc pm : Value) (an : Option Addr) (cdv ct : Value) (us : List Value), us.length = (["_law_spot_here"] : List Str).length → bindArgs (PySem.W.fnOf "_law_is_spot" "_law_is_spot" (defArgs (topS 42)) (defBody (topS 42)) (defScope (topS 42)) .none kV doc pm an cdv ct) ⟨us, []⟩ = pure ((["_law_spot_here"] : List Str).zip us) := fun _ _ _ _ _ _ us hl => match us, hl with | [_], _ => rfl
theorem bd__law_draw : ∀ (kV doc pm : Value) (an : Option Addr) (cdv ct : Value) (us : List Value), us.length = (["_law_bag_here", "_law_many"] : List Str).length → bindArgs (PySem.W.fnOf "_law_draw" "_law_draw" (defArgs (topS 32)) (defBody (topS 32)) (defScope (topS 32)) .none kV doc pm an cdv ct) ⟨us, []⟩ = pure ((["_law_bag_here", "_law_many"] : List Str).zip us) := fun _ _ _ _ _ _ us hl => match us, hl with | [_, _], _ => rfl
theorem bd__law_bag : ∀ (kV doc pm : Value) (an : Option Addr) (cdv ct : Value) (us : List Value), us.length = (["_law_script"] : List Str).length → bindArgs (PySem.W.fnOf "_law_bag" "_law_bag" (defArgs (topS 31)) (defBody (topS 31)) (defScope (topS 31)) .none kV doc pm an cdv ct) ⟨us, []⟩ = pure ((["_law_script"] : List Str).zip us) := fun _ _ _ _ _ _ us hl => match us, hl with | [_], _ => rfl
theorem bd__law_any : ∀ (kV doc pm : Value) (an : Option Addr) (cdv ct : Value) (us : List Value), us.length = (["_law_bag_here", "_law_some"] : List Str).length → bindArgs (PySem.W.fnOf "_law_any" "_law_any" (defArgs (topS 34)) (defBody (topS 34)) (defScope (topS 34)) .none kV doc pm an cdv ct) ⟨us, []⟩ = pure ((["_law_bag_here", "_law_some"] : List Str).zip us) := fun _ _ _ _ _ _ us hl => match us, hl with | [_, _], _ => rfl
theorem bd__law_ratio : ∀ (kV doc pm : Value) (an : Option Addr) (cdv ct : Value) (us : List Value), us.length = (["_law_bag_here", "_law_reach"] : List Str).length → bindArgs (PySem.W.fnOf "_law_ratio" "_law_ratio" (defArgs (topS 43)) (defBody (topS 43)) (defScope (topS 43)) .none kV doc pm an cdv ct) ⟨us, []⟩ = pure ((["_law_bag_here", "_law_reach"] : List Str).zip us) := fun _ _ _ _ _ _ us hl => match us, hl with | [_, _], _ => rfl
theorem bd__law_spot : ∀ (kV doc pm : Value) (an : Option Addr) (cdv ct : Value) (us : List Value), us.length = (["_law_bag_here", "_law_reach"] : List Str).length → bindArgs (PySem.W.fnOf "_law_spot" "_law_spot" (defArgs (topS 44)) (defBody (topS 44)) (defScope (topS 44)) .none kV doc pm an cdv ct) ⟨us, []⟩ = pure ((["_law_bag_here", "_law_reach"] : List Str).zip us) := fun _ _ _ _ _ _ us hl => match us, hl with | [_, _], _ => rfl
theorem bd__law_corners : ∀ (kV doc pm : Value) (an : Option Addr) (cdv ct : Value) (us : List Value), us.length = (["_law_bag_here", "_law_many"] : List Str).length → bindArgs (PySem.W.fnOf "_law_corners" "_law_corners" (defArgs (topS 46)) (defBody (topS 46)) (defScope (topS 46)) .none kV doc pm an cdv ct) ⟨us, []⟩ = pure ((["_law_bag_here", "_law_many"] : List Str).zip us) := fun _ _ _ _ _ _ us hl => match us, hl with | [_, _], _ => rfl
theorem bd__law_spots_of : ∀ (kV doc pm : Value) (an : Option Addr) (cdv ct : Value) (us : List Value), us.length = (["_law_bag_here", "_law_ones", "_law_others", "_law_room"] : List Str).length → bindArgs (PySem.W.fnOf "_law_spots_of" "_law_spots_of" (defArgs (topS 51)) (defBody (topS 51)) (defScope (topS 51)) .none kV doc pm an cdv ct) ⟨us, []⟩ = pure ((["_law_bag_here", "_law_ones", "_law_others", "_law_room"] : List Str).zip us) := fun _ _ _ _ _ _ us hl => match us, hl with | [_, _, _, _], _ => rfl
theorem all_law (T : Tx K mg) (d_common : Df K mg "common" (topS 5) ["one", "other"]) (d_ratio : Df K mg "ratio" (topS 6) ["over", "under"]) (d_plus : Df K mg "plus" (topS 7) ["one", "other"]) (d_minus : Df K mg "minus" (topS 8) ["one", "other"]) (d_times : Df K mg "times" (topS 9) ["one", "other"]) (d_divided : Df K mg "divided" (topS 10) ["one", "other"]) (d_order : Df K mg "order" (topS 11) ["one", "other"]) (d_less : Df K mg "less" (topS 12) ["one", "other"]) (d_size : Df K mg "size" (topS 13) ["one"]) (d_least : Df K mg "least" (topS 14) ["some"]) (d_apart_of : Df K mg "apart_of" (topS 15) ["one", "other"]) (d_on_way : Df K mg "on_way" (topS 16) ["one", "other", "share"]) (d_crossings : Df K mg "crossings" (topS 19) ["start", "far"]) (d_sorted_two : Df K mg "sorted_two" (topS 25) ["one", "other"]) (d_lean : Df K mg "lean" (topS 26) ["x", "y", "c", "spot"]) (d_narrowed : Df K mg "narrowed" (topS 23) ["span", "start", "far", "low", "high"]) (d_near_span : Df K mg "near_span" (topS 24) ["piece", "other", "slack"]) (d_pieces_of : Df K mg "pieces_of" (topS 21) ["polyline"]) (d_in_order : Df K mg "in_order" (topS 27) ["spans"]) (d_gap_in : Df K mg "gap_in" (topS 28) ["spans"]) (d_bare : Df K mg "bare" (topS 29) ["ones", "others", "slack"]) (d_to_piece : Df K mg "to_piece" (topS 20) ["spot", "one", "other"]) (d_apart : Df K mg "apart" (topS 22) ["spot", "polyline"]) (d__law_rat : Df K mg "_law_rat" (topS 35) ["_law_over", "_law_under"]) (d__law_sum : Df K mg "_law_sum" (topS 36) ["_law_one", "_law_two"]) (d__law_dif : Df K mg "_law_dif" (topS 37) ["_law_one", "_law_two"]) (d__law_prod : Df K mg "_law_prod" (topS 38) ["_law_one", "_law_two"]) (d__law_quo : Df K mg "_law_quo" (topS 39) ["_law_one", "_law_two"]) (d__law_comp : Df K mg "_law_comp" (topS 40) ["_law_one", "_law_two"]) (d__law_on : Df K mg "_law_on" (topS 45) ["_law_one", "_law_two", "_law_part"]) (d__law_span : Df K mg "_law_span" (topS 47) ["_law_bits_here", "_law_start", "_law_far", "_law_low", "_law_high"]) (d__law_clip : Df K mg "_law_clip" (topS 48) ["_law_one", "_law_two", "_law_low", "_law_high"]) (d__law_reaches : Df K mg "_law_reaches" (topS 49) ["_law_spot_here", "_law_polyline", "_law_room"]) (d__law_bits : Df K mg "_law_bits" (topS 50) ["_law_one", "_law_two", "_law_a", "_law_b", "_law_room"]) (d__law_whole : Df K mg "_law_whole" (topS 33) ["_law_found"]) (d__law_is_ratio : Df K mg "_law_is_ratio" (topS 41) ["_law_one"]) (d__law_is_spot : Df K mg "_law_is_spot" (topS 42) ["_law_spot_here"]) (d__law_draw : Df K mg "_law_draw" (topS 32) ["_law_bag_here", "_law_many"]) (d__law_bag : Df K mg "_law_bag" (topS 31) ["_law_script"]) (d__law_any : Df K mg "_law_any" (topS 34) ["_law_bag_here", "_law_some"]) (d__law_ratio : Df K mg "_law_ratio" (topS 43) ["_law_bag_here", "_law_reach"]) (d__law_spot : Df K mg "_law_spot" (topS 44) ["_law_bag_here", "_law_reach"]) (d__law_corners : Df K mg "_law_corners" (topS 46) ["_law_bag_here", "_law_many"]) (d__law_spots_of : Df K mg "_law_spots_of" (topS 51) ["_law_bag_here", "_law_ones", "_law_others", "_law_room"]) {fL : Addr} {fdL : FuncData} (F : Fun K "law" "law" (topS 52) fL fdL) : FnOk P w K mg base CX0 7 fL fdL ["_law_script"] (spLaw K) := by
  have n_common := ok_common (P := P) (w := w) (base := base) T d_common 
  have n_ratio := ok_ratio (P := P) (w := w) (base := base) T d_ratio n_common
  have n_plus := ok_plus (P := P) (w := w) (base := base) T d_plus n_ratio
  have n_minus := ok_minus (P := P) (w := w) (base := base) T d_minus n_ratio
  have n_times := ok_times (P := P) (w := w) (base := base) T d_times n_ratio
  have n_divided := ok_divided (P := P) (w := w) (base := base) T d_divided n_ratio
  have n_order := ok_order (P := P) (w := w) (base := base) T d_order 
  have n_less := ok_less (P := P) (w := w) (base := base) T d_less n_order
  have n_size := ok_size (P := P) (w := w) (base := base) T d_size 
  have n_least := ok_least (P := P) (w := w) (base := base) T d_least n_less
  have n_apart_of := ok_apart_of (P := P) (w := w) (base := base) T d_apart_of n_less n_minus n_size
  have n_on_way := ok_on_way (P := P) (w := w) (base := base) T d_on_way n_plus n_minus n_times
  have n_crossings := ok_crossings (P := P) (w := w) (base := base) T d_crossings n_minus n_divided
  have n_sorted_two := ok_sorted_two (P := P) (w := w) (base := base) T d_sorted_two n_less
  have n_lean := ok_lean (P := P) (w := w) (base := base) T d_lean n_minus n_times
  have n_narrowed := ok_narrowed (P := P) (w := w) (base := base) T d_narrowed n_less n_minus n_divided
  have n_near_span := ok_near_span (P := P) (w := w) (base := base) T d_near_span n_minus n_plus n_times n_size n_sorted_two n_lean n_narrowed
  have n_pieces_of := ok_pieces_of (P := P) (w := w) (base := base) T d_pieces_of 
  have n_in_order := ok_in_order (P := P) (w := w) (base := base) T d_in_order n_less
  have n_gap_in := ok_gap_in (P := P) (w := w) (base := base) T d_gap_in n_less n_in_order n_plus n_times
  have n_bare := ok_bare (P := P) (w := w) (base := base) T d_bare n_pieces_of n_near_span n_gap_in n_on_way
  have n_to_piece := ok_to_piece (P := P) (w := w) (base := base) T d_to_piece n_minus n_plus n_crossings n_less n_least n_apart_of n_on_way
  have n_apart := ok_apart (P := P) (w := w) (base := base) T d_apart n_pieces_of n_least n_to_piece
  have n__law_rat := okl_rat (P := P) (w := w) (base := base) T d__law_rat 
  have n__law_sum := okl_sum (P := P) (w := w) (base := base) T d__law_sum n__law_rat
  have n__law_dif := okl_dif (P := P) (w := w) (base := base) T d__law_dif n__law_rat
  have n__law_prod := okl_prod (P := P) (w := w) (base := base) T d__law_prod n__law_rat
  have n__law_quo := okl_quo (P := P) (w := w) (base := base) T d__law_quo n__law_rat
  have n__law_comp := okl_comp (P := P) (w := w) (base := base) T d__law_comp 
  have n__law_on := okl_on (P := P) (w := w) (base := base) T d__law_on n__law_sum n__law_dif n__law_prod
  have n__law_span := okl_span (P := P) (w := w) (base := base) T d__law_span n__law_comp n__law_dif n__law_quo
  have n__law_clip := okl_clip (P := P) (w := w) (base := base) T d__law_clip n__law_dif n__law_span
  have n__law_reaches := okl_reaches (P := P) (w := w) (base := base) T d__law_reaches n__law_sum n__law_dif n__law_clip
  have n__law_bits := okl_bits (P := P) (w := w) (base := base) T d__law_bits n__law_comp n__law_sum n__law_dif n__law_clip
  have n__law_whole := okl_whole (P := P) (w := w) (base := base) T d__law_whole 
  have n__law_is_ratio := okl_is_ratio (P := P) (w := w) (base := base) T d__law_is_ratio n__law_whole n__law_rat
  have n__law_is_spot := okl_is_spot (P := P) (w := w) (base := base) T d__law_is_spot n__law_is_ratio
  have n__law_draw := okl_draw (P := P) (w := w) (base := base) T d__law_draw 
  have n__law_bag := okl_bag (P := P) (w := w) (base := base) T d__law_bag 
  have n__law_any := okl_any (P := P) (w := w) (base := base) T d__law_any n__law_draw
  have n__law_ratio := okl_ratio (P := P) (w := w) (base := base) T d__law_ratio n__law_draw n__law_any n__law_rat
  have n__law_spot := okl_spot (P := P) (w := w) (base := base) T d__law_spot n__law_ratio
  have n__law_corners := okl_corners (P := P) (w := w) (base := base) T d__law_corners n__law_draw n__law_any n__law_sum n__law_ratio n__law_spot
  have n__law_spots_of := okl_spots_of (P := P) (w := w) (base := base) T d__law_spots_of n__law_draw n__law_rat n__law_sum n__law_on n__law_bits
  exact okl_law T F n__law_bag n__law_draw n__law_any n__law_ratio n__law_corners n__law_spots_of n__law_reaches n__law_is_spot n_apart n_bare
theorem df_mk {h : Heap} {x : Str} {st : Stmt} {ps : List Str} {f : Addr} {oc : Value} {od an : Option Addr} {sl : Array (Option Value)} {kV dc pm cd ct : Value} (X : K.In h) (G : h.Ns mainGlobals mg) (a : PySem.W.nsIn K mainGlobals x = some (some (.ref f)))
    (l : K.lookup f = some ⟨oc, od, .func (PySem.W.fnOf x x (defArgs st) (defBody st) (defScope st) .none kV dc pm an cd ct), sl⟩) (c : PySem.W.codeIn K cd x = true) (k : PySem.W.keepIn K (.ref f) = true)
    (b : ∀ (kV doc pm : Value) (an : Option Addr) (cdv ct : Value) (us : List Value), us.length = ps.length → bindArgs (PySem.W.fnOf x x (defArgs st) (defBody st) (defScope st) .none kV doc pm an cdv ct) ⟨us, []⟩ = pure (ps.zip us)) : Df K mg x st ps :=
  have F := fun_mk (st := st) l c k
  ⟨f, _, F, PySem.W.mg_of X G a, F.binds b⟩
theorem ct_mk {h : Heap} {x : Str} {p : Addr} {od : Option Addr} {sl : Array (Option Value)} {n d : Int} {t1 t2 : Tok} {m : Nat} (q : Rat) (hn : n = q.num) (hd : d = (q.den : Int)) (X : K.In h) (G : h.Ns mainGlobals mg) (a : PySem.W.nsIn K mainGlobals x = some (some (.ref p)))
    (l : K.lookup p = some ⟨.type "tuple", od, .seq #[.int n t1, .int d t2] m, sl⟩) : ∃ a, mg x = some (.ref a) ∧ ∀ H, rRat K H (.ref a) q := by
  subst hn hd
  exact ⟨p, PySem.W.mg_of X G a, fun H => ⟨p, rfl, .inr ⟨_, _, _, l, rfl, rfl, by show 2 ≤ sizeLine; decide, .cons ⟨t1, rfl⟩ (.cons ⟨t2, rfl⟩ .nil)⟩⟩⟩
theorem fin_mk {l : PySem.W.OpenLaw} {w : World} {h : Heap} {fa f : Addr} {oc : Value} {od an : Option Addr} {sl : Array (Option Value)} {kV dc pm cd ct : Value} (X : K.In h) (G : h.Ns mainGlobals mg) (hfa : mg "law" = some (.ref fa)) (a : PySem.W.nsIn K mainGlobals "law" = some (some (.ref f)))
    (lk : K.lookup f = some ⟨oc, od, .func (PySem.W.fnOf "law" "law" (defArgs (topS 52)) (defBody (topS 52)) (defScope (topS 52)) .none kV dc pm an cd ct), sl⟩) (c : PySem.W.codeIn K cd "law" = true) (k : PySem.W.keepIn K (.ref f) = true) (T : Tx K mg) (d_common : Df K mg "common" (topS 5) ["one", "other"]) (d_ratio : Df K mg "ratio" (topS 6) ["over", "under"]) (d_plus : Df K mg "plus" (topS 7) ["one", "other"]) (d_minus : Df K mg "minus" (topS 8) ["one", "other"]) (d_times : Df K mg "times" (topS 9) ["one", "other"]) (d_divided : Df K mg "divided" (topS 10) ["one", "other"]) (d_order : Df K mg "order" (topS 11) ["one", "other"]) (d_less : Df K mg "less" (topS 12) ["one", "other"]) (d_size : Df K mg "size" (topS 13) ["one"]) (d_least : Df K mg "least" (topS 14) ["some"]) (d_apart_of : Df K mg "apart_of" (topS 15) ["one", "other"]) (d_on_way : Df K mg "on_way" (topS 16) ["one", "other", "share"]) (d_crossings : Df K mg "crossings" (topS 19) ["start", "far"]) (d_sorted_two : Df K mg "sorted_two" (topS 25) ["one", "other"]) (d_lean : Df K mg "lean" (topS 26) ["x", "y", "c", "spot"]) (d_narrowed : Df K mg "narrowed" (topS 23) ["span", "start", "far", "low", "high"]) (d_near_span : Df K mg "near_span" (topS 24) ["piece", "other", "slack"]) (d_pieces_of : Df K mg "pieces_of" (topS 21) ["polyline"]) (d_in_order : Df K mg "in_order" (topS 27) ["spans"]) (d_gap_in : Df K mg "gap_in" (topS 28) ["spans"]) (d_bare : Df K mg "bare" (topS 29) ["ones", "others", "slack"]) (d_to_piece : Df K mg "to_piece" (topS 20) ["spot", "one", "other"]) (d_apart : Df K mg "apart" (topS 22) ["spot", "polyline"]) (d__law_rat : Df K mg "_law_rat" (topS 35) ["_law_over", "_law_under"]) (d__law_sum : Df K mg "_law_sum" (topS 36) ["_law_one", "_law_two"]) (d__law_dif : Df K mg "_law_dif" (topS 37) ["_law_one", "_law_two"]) (d__law_prod : Df K mg "_law_prod" (topS 38) ["_law_one", "_law_two"]) (d__law_quo : Df K mg "_law_quo" (topS 39) ["_law_one", "_law_two"]) (d__law_comp : Df K mg "_law_comp" (topS 40) ["_law_one", "_law_two"]) (d__law_on : Df K mg "_law_on" (topS 45) ["_law_one", "_law_two", "_law_part"]) (d__law_span : Df K mg "_law_span" (topS 47) ["_law_bits_here", "_law_start", "_law_far", "_law_low", "_law_high"]) (d__law_clip : Df K mg "_law_clip" (topS 48) ["_law_one", "_law_two", "_law_low", "_law_high"]) (d__law_reaches : Df K mg "_law_reaches" (topS 49) ["_law_spot_here", "_law_polyline", "_law_room"]) (d__law_bits : Df K mg "_law_bits" (topS 50) ["_law_one", "_law_two", "_law_a", "_law_b", "_law_room"]) (d__law_whole : Df K mg "_law_whole" (topS 33) ["_law_found"]) (d__law_is_ratio : Df K mg "_law_is_ratio" (topS 41) ["_law_one"]) (d__law_is_spot : Df K mg "_law_is_spot" (topS 42) ["_law_spot_here"]) (d__law_draw : Df K mg "_law_draw" (topS 32) ["_law_bag_here", "_law_many"]) (d__law_bag : Df K mg "_law_bag" (topS 31) ["_law_script"]) (d__law_any : Df K mg "_law_any" (topS 34) ["_law_bag_here", "_law_some"]) (d__law_ratio : Df K mg "_law_ratio" (topS 43) ["_law_bag_here", "_law_reach"]) (d__law_spot : Df K mg "_law_spot" (topS 44) ["_law_bag_here", "_law_reach"]) (d__law_corners : Df K mg "_law_corners" (topS 46) ["_law_bag_here", "_law_many"]) (d__law_spots_of : Df K mg "_law_spots_of" (topS 51) ["_law_bag_here", "_law_ones", "_law_others", "_law_room"]) :
    ∃ fd : FuncData, (∀ (s : Shared) (v : Value), BindsTo s fd ⟨[v], []⟩ [("_law_script", v)]) ∧ ∀ base : Heap, K.In base → base.Ns mainGlobals mg → FnOk l.prog w K mg base CX0 7 fa fd ["_law_script"] (spLaw K) := by
  have e := hfa.symm.trans (PySem.W.mg_of X G a)
  cases e
  have F := fun_mk (st := topS 52) lk c k
  exact ⟨PySem.W.fnOf "law" "law" (defArgs (topS 52)) (defBody (topS 52)) (defScope (topS 52)) .none kV dc pm an cd ct, fun s v => .of_eq rfl, fun base _ _ => all_law T d_common d_ratio d_plus d_minus d_times d_divided d_order d_less d_size d_least d_apart_of d_on_way d_crossings d_sorted_two d_lean d_narrowed d_near_span d_pieces_of d_in_order d_gap_in d_bare d_to_piece d_apart d__law_rat d__law_sum d__law_dif d__law_prod d__law_quo d__law_comp d__law_on d__law_span d__law_clip d__law_reaches d__law_bits d__law_whole d__law_is_ratio d__law_is_spot d__law_draw d__law_bag d__law_any d__law_ratio d__law_spot d__law_corners d__law_spots_of F⟩
end
end Gr
open PySem PySem.W PyProof.Rows
set_option maxRecDepth 100000 in
set_option maxHeartbeats 0 in
theorem PySem.Challenge.cw_gromatic_k21_whole_bare_points_holds : PySem.Challenge.rw_gromatic_k21_whole_bare_points.Holds := by
  w_on; o_law; k_head; (case hw => w_witness2)
  k_fill
  refine L2.walk_ofK (l := PySem.Challenge.rw_gromatic_k21_whole_bare_points) (n := 63) (k := 7) (x := "_law_script") (CX := L2.CX0) (sp := Gr.spLaw) rfl (by decide) rfl ⟨rfl, by decide, by decide⟩ (fun w h Y => PySem.W.kIn_of Y) ?F (fun _ _ a ns hl _ hS => ⟨a, ns, rfl, hS, fun _ => rfl⟩) (fun _ _ _ _ h => h)
  case F =>
    intro w mg fa h KX G hmg
    refine' Gr.fin_mk KX G hmg ?a ?l ?c ?k ?T ?d_common ?d_ratio ?d_plus ?d_minus ?d_times ?d_divided ?d_order ?d_less ?d_size ?d_least ?d_apart_of ?d_on_way ?d_crossings ?d_sorted_two ?d_lean ?d_narrowed ?d_near_span ?d_pieces_of ?d_in_order ?d_gap_in ?d_bare ?d_to_piece ?d_apart ?d__law_rat ?d__law_sum ?d__law_dif ?d__law_prod ?d__law_quo ?d__law_comp ?d__law_on ?d__law_span ?d__law_clip ?d__law_reaches ?d__law_bits ?d__law_whole ?d__law_is_ratio ?d__law_is_spot ?d__law_draw ?d__law_bag ?d__law_any ?d__law_ratio ?d__law_spot ?d__law_corners ?d__law_spots_of
    (case a => k_is); (case l => k_is); (case c => k_is); (case k => k_is)
    (case T =>
      refine' ⟨PySem.W.mg_none_of KX G ?m_abs, PySem.W.mg_none_of KX G ?m_len, PySem.W.mg_none_of KX G ?m_list, PySem.W.mg_none_of KX G ?m_zip, PySem.W.mg_none_of KX G ?m_range, PySem.W.mg_none_of KX G ?m_max, PySem.W.mg_none_of KX G ?m_isinstance, PySem.W.mg_none_of KX G ?m_tuple, PySem.W.mg_none_of KX G ?m_int, PySem.W.mg_none_of KX G ?m_bool, Gr.ct_mk 0 ?n_nought ?e_nought KX G ?a_nought ?l_nought, Gr.ct_mk (1 / 2) ?n_half ?e_half KX G ?a_half ?l_half, Gr.ct_mk 1 ?n_one ?e_one KX G ?a_one ?l_one⟩
      (case m_abs => k_is)
      (case m_len => k_is)
      (case m_list => k_is)
      (case m_zip => k_is)
      (case m_range => k_is)
      (case m_max => k_is)
      (case m_isinstance => k_is)
      (case m_tuple => k_is)
      (case m_int => k_is)
      (case m_bool => k_is)
      (case a_nought => k_is); (case l_nought => k_is); (case n_nought => decide +kernel); (case e_nought => decide +kernel)
      (case a_half => k_is); (case l_half => k_is); (case n_half => decide +kernel); (case e_half => decide +kernel)
      (case a_one => k_is); (case l_one => k_is); (case n_one => decide +kernel); (case e_one => decide +kernel))
    (case d_common => refine' Gr.df_mk KX G ?a ?l ?c ?k Gr.bd_common; (case a => k_is); (case l => k_is); (case c => k_is); (case k => k_is))
    (case d_ratio => refine' Gr.df_mk KX G ?a ?l ?c ?k Gr.bd_ratio; (case a => k_is); (case l => k_is); (case c => k_is); (case k => k_is))
    (case d_plus => refine' Gr.df_mk KX G ?a ?l ?c ?k Gr.bd_plus; (case a => k_is); (case l => k_is); (case c => k_is); (case k => k_is))
    (case d_minus => refine' Gr.df_mk KX G ?a ?l ?c ?k Gr.bd_minus; (case a => k_is); (case l => k_is); (case c => k_is); (case k => k_is))
    (case d_times => refine' Gr.df_mk KX G ?a ?l ?c ?k Gr.bd_times; (case a => k_is); (case l => k_is); (case c => k_is); (case k => k_is))
    (case d_divided => refine' Gr.df_mk KX G ?a ?l ?c ?k Gr.bd_divided; (case a => k_is); (case l => k_is); (case c => k_is); (case k => k_is))
    (case d_order => refine' Gr.df_mk KX G ?a ?l ?c ?k Gr.bd_order; (case a => k_is); (case l => k_is); (case c => k_is); (case k => k_is))
    (case d_less => refine' Gr.df_mk KX G ?a ?l ?c ?k Gr.bd_less; (case a => k_is); (case l => k_is); (case c => k_is); (case k => k_is))
    (case d_size => refine' Gr.df_mk KX G ?a ?l ?c ?k Gr.bd_size; (case a => k_is); (case l => k_is); (case c => k_is); (case k => k_is))
    (case d_least => refine' Gr.df_mk KX G ?a ?l ?c ?k Gr.bd_least; (case a => k_is); (case l => k_is); (case c => k_is); (case k => k_is))
    (case d_apart_of => refine' Gr.df_mk KX G ?a ?l ?c ?k Gr.bd_apart_of; (case a => k_is); (case l => k_is); (case c => k_is); (case k => k_is))
    (case d_on_way => refine' Gr.df_mk KX G ?a ?l ?c ?k Gr.bd_on_way; (case a => k_is); (case l => k_is); (case c => k_is); (case k => k_is))
    (case d_crossings => refine' Gr.df_mk KX G ?a ?l ?c ?k Gr.bd_crossings; (case a => k_is); (case l => k_is); (case c => k_is); (case k => k_is))
    (case d_sorted_two => refine' Gr.df_mk KX G ?a ?l ?c ?k Gr.bd_sorted_two; (case a => k_is); (case l => k_is); (case c => k_is); (case k => k_is))
    (case d_lean => refine' Gr.df_mk KX G ?a ?l ?c ?k Gr.bd_lean; (case a => k_is); (case l => k_is); (case c => k_is); (case k => k_is))
    (case d_narrowed => refine' Gr.df_mk KX G ?a ?l ?c ?k Gr.bd_narrowed; (case a => k_is); (case l => k_is); (case c => k_is); (case k => k_is))
    (case d_near_span => refine' Gr.df_mk KX G ?a ?l ?c ?k Gr.bd_near_span; (case a => k_is); (case l => k_is); (case c => k_is); (case k => k_is))
    (case d_pieces_of => refine' Gr.df_mk KX G ?a ?l ?c ?k Gr.bd_pieces_of; (case a => k_is); (case l => k_is); (case c => k_is); (case k => k_is))
    (case d_in_order => refine' Gr.df_mk KX G ?a ?l ?c ?k Gr.bd_in_order; (case a => k_is); (case l => k_is); (case c => k_is); (case k => k_is))
    (case d_gap_in => refine' Gr.df_mk KX G ?a ?l ?c ?k Gr.bd_gap_in; (case a => k_is); (case l => k_is); (case c => k_is); (case k => k_is))
    (case d_bare => refine' Gr.df_mk KX G ?a ?l ?c ?k Gr.bd_bare; (case a => k_is); (case l => k_is); (case c => k_is); (case k => k_is))
    (case d_to_piece => refine' Gr.df_mk KX G ?a ?l ?c ?k Gr.bd_to_piece; (case a => k_is); (case l => k_is); (case c => k_is); (case k => k_is))
    (case d_apart => refine' Gr.df_mk KX G ?a ?l ?c ?k Gr.bd_apart; (case a => k_is); (case l => k_is); (case c => k_is); (case k => k_is))
    (case d__law_rat => refine' Gr.df_mk KX G ?a ?l ?c ?k Gr.bd__law_rat; (case a => k_is); (case l => k_is); (case c => k_is); (case k => k_is))
    (case d__law_sum => refine' Gr.df_mk KX G ?a ?l ?c ?k Gr.bd__law_sum; (case a => k_is); (case l => k_is); (case c => k_is); (case k => k_is))
    (case d__law_dif => refine' Gr.df_mk KX G ?a ?l ?c ?k Gr.bd__law_dif; (case a => k_is); (case l => k_is); (case c => k_is); (case k => k_is))
    (case d__law_prod => refine' Gr.df_mk KX G ?a ?l ?c ?k Gr.bd__law_prod; (case a => k_is); (case l => k_is); (case c => k_is); (case k => k_is))
    (case d__law_quo => refine' Gr.df_mk KX G ?a ?l ?c ?k Gr.bd__law_quo; (case a => k_is); (case l => k_is); (case c => k_is); (case k => k_is))
    (case d__law_comp => refine' Gr.df_mk KX G ?a ?l ?c ?k Gr.bd__law_comp; (case a => k_is); (case l => k_is); (case c => k_is); (case k => k_is))
    (case d__law_on => refine' Gr.df_mk KX G ?a ?l ?c ?k Gr.bd__law_on; (case a => k_is); (case l => k_is); (case c => k_is); (case k => k_is))
    (case d__law_span => refine' Gr.df_mk KX G ?a ?l ?c ?k Gr.bd__law_span; (case a => k_is); (case l => k_is); (case c => k_is); (case k => k_is))
    (case d__law_clip => refine' Gr.df_mk KX G ?a ?l ?c ?k Gr.bd__law_clip; (case a => k_is); (case l => k_is); (case c => k_is); (case k => k_is))
    (case d__law_reaches => refine' Gr.df_mk KX G ?a ?l ?c ?k Gr.bd__law_reaches; (case a => k_is); (case l => k_is); (case c => k_is); (case k => k_is))
    (case d__law_bits => refine' Gr.df_mk KX G ?a ?l ?c ?k Gr.bd__law_bits; (case a => k_is); (case l => k_is); (case c => k_is); (case k => k_is))
    (case d__law_whole => refine' Gr.df_mk KX G ?a ?l ?c ?k Gr.bd__law_whole; (case a => k_is); (case l => k_is); (case c => k_is); (case k => k_is))
    (case d__law_is_ratio => refine' Gr.df_mk KX G ?a ?l ?c ?k Gr.bd__law_is_ratio; (case a => k_is); (case l => k_is); (case c => k_is); (case k => k_is))
    (case d__law_is_spot => refine' Gr.df_mk KX G ?a ?l ?c ?k Gr.bd__law_is_spot; (case a => k_is); (case l => k_is); (case c => k_is); (case k => k_is))
    (case d__law_draw => refine' Gr.df_mk KX G ?a ?l ?c ?k Gr.bd__law_draw; (case a => k_is); (case l => k_is); (case c => k_is); (case k => k_is))
    (case d__law_bag => refine' Gr.df_mk KX G ?a ?l ?c ?k Gr.bd__law_bag; (case a => k_is); (case l => k_is); (case c => k_is); (case k => k_is))
    (case d__law_any => refine' Gr.df_mk KX G ?a ?l ?c ?k Gr.bd__law_any; (case a => k_is); (case l => k_is); (case c => k_is); (case k => k_is))
    (case d__law_ratio => refine' Gr.df_mk KX G ?a ?l ?c ?k Gr.bd__law_ratio; (case a => k_is); (case l => k_is); (case c => k_is); (case k => k_is))
    (case d__law_spot => refine' Gr.df_mk KX G ?a ?l ?c ?k Gr.bd__law_spot; (case a => k_is); (case l => k_is); (case c => k_is); (case k => k_is))
    (case d__law_corners => refine' Gr.df_mk KX G ?a ?l ?c ?k Gr.bd__law_corners; (case a => k_is); (case l => k_is); (case c => k_is); (case k => k_is))
    (case d__law_spots_of => refine' Gr.df_mk KX G ?a ?l ?c ?k Gr.bd__law_spots_of; (case a => k_is); (case l => k_is); (case c => k_is); (case k => k_is))
