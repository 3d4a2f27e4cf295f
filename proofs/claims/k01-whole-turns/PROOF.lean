import PyProof.Rows.All
import Wide.All
import OpenK.AllK
import Wide.FinOn
import HandS.ForMost
import HandS.IsInst
import HandS.Wide
import HandS.Style
import HandS.Evl
import PySem.Challenge.RW_meshcore_k01_whole_turns
set_option Elab.async false
set_option linter.all false
set_option maxRecDepth 100000
/-! The plain law: points as triples of ints, turns, order, between, ratios. No program in sight. -/
namespace K1
/-- a point in the plane: coordinates x / w and y / w -/
structure Pt where
  x : Int
  y : Int
  w : Int
  deriving DecidableEq

/-! ### signs -/
def sgn (n : Int) : Int := if n > 0 then 1 else if n < 0 then -1 else 0
theorem sgn_pos {n : Int} (h : 0 < n) : sgn n = 1 := by unfold sgn; rw [if_pos h]
theorem sgn_neg {n : Int} (h : n < 0) : sgn n = -1 := by unfold sgn; rw [if_neg (by omega), if_pos h]
theorem sgn_zero : sgn 0 = 0 := rfl
theorem sgn_cases (n : Int) : (0 < n ∧ sgn n = 1) ∨ (n < 0 ∧ sgn n = -1) ∨ (n = 0 ∧ sgn n = 0) := by
  rcases Int.lt_trichotomy n 0 with h | h | h
  · exact .inr (.inl ⟨h, sgn_neg h⟩)
  · subst h; exact .inr (.inr ⟨rfl, rfl⟩)
  · exact .inl ⟨h, sgn_pos h⟩
theorem sgn_eq_zero {n : Int} : sgn n = 0 ↔ n = 0 := by
  rcases sgn_cases n with ⟨h, e⟩ | ⟨h, e⟩ | ⟨h, e⟩ <;> rw [e] <;> omega
theorem sgn_opp (n : Int) : sgn (-n) = -sgn n := by
  rcases sgn_cases n with ⟨h, e⟩ | ⟨h, e⟩ | ⟨h, e⟩
  · rw [e, sgn_neg (by omega)]
  · rw [e, sgn_pos (by omega)]; rfl
  · rw [e, h]; rfl
theorem sgn_mul (a b : Int) : sgn (a * b) = sgn a * sgn b := by
  rcases sgn_cases a with ⟨h, e⟩ | ⟨h, e⟩ | ⟨h, e⟩ <;> rcases sgn_cases b with ⟨h', e'⟩ | ⟨h', e'⟩ | ⟨h', e'⟩ <;> rw [e, e']
  · rw [sgn_pos (Int.mul_pos h h')]; rfl
  · rw [sgn_neg (Int.mul_neg_of_pos_of_neg h h')]; rfl
  · rw [h']; simp [sgn_zero]
  · rw [sgn_neg (Int.mul_neg_of_neg_of_pos h h')]; rfl
  · rw [sgn_pos (Int.mul_pos_of_neg_of_neg h h')]; rfl
  · rw [h']; simp [sgn_zero]
  · rw [h]; simp [sgn_zero]
  · rw [h]; simp [sgn_zero]
  · rw [h]; simp [sgn_zero]
theorem sgn_mul_pos {a b : Int} (h : 0 < a) : sgn (a * b) = sgn b := by rw [sgn_mul, sgn_pos h, Int.one_mul]

/-! ### turns -/
def D (a b c : Pt) : Int := a.x * (b.y * c.w - c.y * b.w) - a.y * (b.x * c.w - c.x * b.w) + a.w * (b.x * c.y - c.x * b.y)
/-- as the law reckons it -/
def LD (a b c : Pt) : Int := ((b.x * a.w - a.x * b.w) * (c.y * a.w - a.y * c.w) - (c.x * a.w - a.x * c.w) * (b.y * a.w - a.y * b.w)) / a.w
theorem LD_eq {a b c : Pt} (h : 0 < a.w) : LD a b c = D a b c := by
  unfold LD
  rw [show (b.x * a.w - a.x * b.w) * (c.y * a.w - a.y * c.w) - (c.x * a.w - a.x * c.w) * (b.y * a.w - a.y * b.w) = a.w * D a b c by unfold D; grind]
  exact Int.mul_ediv_cancel_left _ (by omega)
theorem D_rot (a b p : Pt) : D a b p = D b p a := by unfold D; grind
theorem D_swap (a b p : Pt) : D b a p = -D a b p := by unfold D; grind
theorem D_aab (a b : Pt) : D a b a = 0 := by unfold D; grind
theorem D_five (a b p d e : Pt) : D a b p * D a d e - D a b d * D a p e + D a b e * D a p d = 0 := by unfold D; grind

/-! ### the order of points -/
def ord (a b : Pt) : Int := if sgn (a.x * b.w - b.x * a.w) ≠ 0 then sgn (a.x * b.w - b.x * a.w) else sgn (a.y * b.w - b.y * a.w)
theorem ord_cases (a b : Pt) : (a.x * b.w - b.x * a.w ≠ 0 ∧ ord a b = sgn (a.x * b.w - b.x * a.w)) ∨ (a.x * b.w - b.x * a.w = 0 ∧ ord a b = sgn (a.y * b.w - b.y * a.w)) := by
  by_cases h : a.x * b.w - b.x * a.w = 0
  · refine .inr ⟨h, ?_⟩
    unfold ord
    rw [if_neg (by rw [h]; decide)]
  · refine .inl ⟨h, ?_⟩
    unfold ord
    rw [if_pos (fun e => h (sgn_eq_zero.mp e))]
theorem ord_zero {a b : Pt} : ord a b = 0 ↔ a.x * b.w = b.x * a.w ∧ a.y * b.w = b.y * a.w := by
  rcases ord_cases a b with ⟨h, e⟩ | ⟨h, e⟩
  · rw [e, sgn_eq_zero]; omega
  · rw [e, sgn_eq_zero]; omega
theorem ord_opp (a b : Pt) : ord b a = -ord a b := by
  have e1 : b.x * a.w - a.x * b.w = -(a.x * b.w - b.x * a.w) := by omega
  have e2 : b.y * a.w - a.y * b.w = -(a.y * b.w - b.y * a.w) := by omega
  rcases ord_cases a b with ⟨h, e⟩ | ⟨h, e⟩ <;> rcases ord_cases b a with ⟨h', e'⟩ | ⟨h', e'⟩
  · rw [e, e', e1, sgn_opp]
  · omega
  · omega
  · rw [e, e', e2, sgn_opp]
theorem ord_self (a : Pt) : ord a a = 0 := ord_zero.mpr ⟨rfl, rfl⟩
theorem ord_vals (a b : Pt) : ord a b = 1 ∨ ord a b = -1 ∨ ord a b = 0 := by
  rcases ord_cases a b with ⟨h, e⟩ | ⟨h, e⟩
  · rw [e]; rcases sgn_cases (a.x * b.w - b.x * a.w) with z | z | z <;> omega
  · rw [e]; rcases sgn_cases (a.y * b.w - b.y * a.w) with z | z | z <;> omega

/-- three numbers of which one is made of the others with positive weights: signs -/
theorem comb {u v t A B C : Int} (h : t * B = u * C + v * A) (hA : 0 < A) (hB : 0 < B) (hC : 0 < C) :
    (u ≤ 0 → v ≤ 0 → t ≤ 0) ∧ (u < 0 → v ≤ 0 → t < 0) ∧ (u ≤ 0 → v < 0 → t < 0) ∧ (u = 0 → v = 0 → t = 0) := by
  have key : (u * C + v * A < 0 → t < 0) ∧ (u * C + v * A ≤ 0 → t ≤ 0) := by
    constructor
    · intro z
      rw [← h] at z
      apply Int.not_le.mp
      intro q
      have := Int.mul_nonneg q (Int.le_of_lt hB)
      omega
    · intro z
      rw [← h] at z
      apply Int.not_lt.mp
      intro q
      have := Int.mul_pos q hB
      omega
  have nu : u ≤ 0 → u * C ≤ 0 := fun q => Int.mul_nonpos_of_nonpos_of_nonneg q (Int.le_of_lt hC)
  have nv : v ≤ 0 → v * A ≤ 0 := fun q => Int.mul_nonpos_of_nonpos_of_nonneg q (Int.le_of_lt hA)
  have su : u < 0 → u * C < 0 := fun q => Int.mul_neg_of_neg_of_pos q hC
  have sv : v < 0 → v * A < 0 := fun q => Int.mul_neg_of_neg_of_pos q hA
  refine ⟨fun a b => key.2 (by have := nu a; have := nv b; omega), fun a b => key.1 (by have := su a; have := nv b; omega), fun a b => key.1 (by have := nu a; have := sv b; omega), fun a b => ?_⟩
  subst a; subst b
  have : t * B = 0 := by rw [h]; simp
  rcases Int.mul_eq_zero.mp this with z | z
  · exact z
  · omega
/-- ord told by its two numbers -/
theorem ord_le {a b : Pt} : ord a b ≤ 0 ↔ (a.x * b.w - b.x * a.w < 0 ∨ (a.x * b.w - b.x * a.w = 0 ∧ a.y * b.w - b.y * a.w ≤ 0)) := by
  rcases ord_cases a b with ⟨h, e⟩ | ⟨h, e⟩
  · rw [e]; rcases sgn_cases (a.x * b.w - b.x * a.w) with ⟨z, q⟩ | ⟨z, q⟩ | ⟨z, q⟩ <;> rw [q] <;> omega
  · rw [e]; rcases sgn_cases (a.y * b.w - b.y * a.w) with ⟨z, q⟩ | ⟨z, q⟩ | ⟨z, q⟩ <;> rw [q] <;> omega
theorem ord_trans {a b c : Pt} (ha : 0 < a.w) (hb : 0 < b.w) (hc : 0 < c.w) (h1 : ord a b ≤ 0) (h2 : ord b c ≤ 0) : ord a c ≤ 0 := by
  have ex : (a.x * c.w - c.x * a.w) * b.w = (a.x * b.w - b.x * a.w) * c.w + (b.x * c.w - c.x * b.w) * a.w := by grind
  have ey : (a.y * c.w - c.y * a.w) * b.w = (a.y * b.w - b.y * a.w) * c.w + (b.y * c.w - c.y * b.w) * a.w := by grind
  have cx := comb ex ha hb hc
  have cy := comb ey ha hb hc
  rw [ord_le] at h1 h2 ⊢
  rcases h1 with h1 | ⟨h1, h1'⟩ <;> rcases h2 with h2 | ⟨h2, h2'⟩
  · exact .inl (cx.2.1 h1 (by omega))
  · exact .inl (cx.2.1 h1 (by omega))
  · exact .inl (cx.2.2.1 (by omega) h2)
  · exact .inr ⟨cx.2.2.2 h1 h2, cy.1 h1' h2'⟩

/-! ### the greatest common divisor; lowest terms -/
def G (x y : Int) : Int := (Int.gcd x y : Int)
theorem G_nonneg (x y : Int) : 0 ≤ G x y := Int.natCast_nonneg _
theorem G_dvd_left (x y : Int) : G x y ∣ x := Int.gcd_dvd_left x y
theorem G_dvd_right (x y : Int) : G x y ∣ y := Int.gcd_dvd_right x y
theorem G_pos {x y : Int} (h : 0 < y) : 0 < G x y := by
  have : 0 < Int.gcd x y := Int.gcd_pos_iff.mpr (.inr (by omega))
  unfold G; omega
theorem G_le {x y : Int} (h : 0 < y) : G x y ≤ y := Int.le_of_dvd h (G_dvd_right x y)
theorem G_abs (x y : Int) : G (if x < 0 then -x else x) (if y < 0 then -y else y) = G x y := by
  unfold G
  rw [Int.gcd_eq_natAbs_gcd_natAbs, Int.gcd_eq_natAbs_gcd_natAbs]
  rw [show (if x < 0 then -x else x).natAbs = x.natAbs by split <;> omega, show (if y < 0 then -y else y).natAbs = y.natAbs by split <;> omega]
theorem G_zero {x : Int} (h : 0 ≤ x) : G x 0 = x := by unfold G; rw [Int.gcd_zero_right]; omega
theorem G_zero_left {x : Int} (h : 0 ≤ x) : G 0 x = x := by unfold G; rw [Int.gcd_zero_left]; omega
theorem G_step {x y : Int} (hx : 0 ≤ x) (hy : 0 < y) : G y (x % y) = G x y := by
  unfold G
  rw [Int.gcd_eq_natAbs_gcd_natAbs, Int.gcd_eq_natAbs_gcd_natAbs, Int.natAbs_emod_of_nonneg hx, Nat.gcd_comm y.natAbs, ← Nat.gcd_rec, Nat.gcd_comm]
/-- what is left by a positive divisor -/
theorem quo {g n : Int} (hg : 0 < g) (h : g ∣ n) : n / g * g = n := Int.ediv_mul_cancel h
theorem quo_abs {g n : Int} (hg : 0 < g) : (n / g).natAbs ≤ n.natAbs := by
  rcases Int.le_total 0 n with h | h
  · have h1 := Int.ediv_le_self (b := g) (a := n) h
    have h2 := Int.ediv_nonneg (a := n) (b := g) h (by omega)
    omega
  · have h2 : n ≤ n / g := by
      apply Int.le_ediv_of_mul_le hg
      have := Int.mul_le_mul_of_nonpos_left (a := n) (b := g) (c := 1) h (by omega)
      omega
    have h3 : n / g ≤ 0 := by
      have := Int.ediv_le_ediv (c := g) hg h
      simp at this
      exact this
    omega
theorem quo_pos {g n : Int} (hg : 0 < g) (h : g ∣ n) (hn : 0 < n) : 0 < n / g := by
  have e := quo hg h
  apply Int.not_le.mp
  intro q
  have := Int.mul_nonneg_of_nonpos_of_nonpos q (show -g ≤ 0 by omega)
  have e2 : n / g * -g = -(n / g * g) := by rw [Int.mul_neg]
  omega

/-! ### ratios -/
/-- the ratio of two ints in lowest terms -/
def red (n d : Int) : Int × Int := (n / G n d, d / G n d)
/-- q stands for n / d -/
def Rt (q : Int × Int) (n d : Int) : Prop := q.1 * d = n * q.2 ∧ 0 < q.2
theorem red_rt {n d : Int} (h : 0 < d) : Rt (red n d) n d := by
  have g := G_pos (x := n) h
  have e1 := quo g (G_dvd_left n d)
  have e2 := quo g (G_dvd_right n d)
  refine ⟨?_, quo_pos g (G_dvd_right n d) h⟩
  show n / G n d * d = n * (d / G n d)
  generalize n / G n d = p at *
  generalize d / G n d = q at *
  generalize G n d = g at *
  subst e1; subst e2
  grind
theorem red_le {n d : Int} (h : 0 < d) : (red n d).1.natAbs ≤ n.natAbs ∧ 0 < (red n d).2 ∧ (red n d).2 ≤ d := by
  have g := G_pos (x := n) h
  have h1 := quo_abs (n := d) g
  have h2 := quo_pos g (G_dvd_right n d) h
  refine ⟨quo_abs g, h2, ?_⟩
  show d / G n d ≤ d
  omega
theorem Rt.same {q : Int × Int} {n d n' d' : Int} (h : Rt q n d) (hd : 0 < d) (e : n * d' = n' * d) : Rt q n' d' := by
  refine ⟨?_, h.2⟩
  have h1 := h.1
  apply Int.eq_of_mul_eq_mul_right (a := d) (by omega)
  have : q.1 * d' * d = (q.1 * d) * d' := by grind
  rw [this, h1]
  have : n * q.2 * d' = (n * d') * q.2 := by grind
  rw [this, e]
  grind
def plus (u v : Int × Int) : Int × Int := red (u.1 * v.2 + v.1 * u.2) (u.2 * v.2)
def times (u v : Int × Int) : Int × Int := red (u.1 * v.1) (u.2 * v.2)
theorem Rt.times {u v : Int × Int} {n d n' d' : Int} (h : Rt u n d) (h' : Rt v n' d') : Rt (times u v) (n * n') (d * d') := by
  have r := red_rt (n := u.1 * v.1) (Int.mul_pos h.2 h'.2)
  obtain ⟨h1, h2⟩ := h
  obtain ⟨h3, h4⟩ := h'
  refine Rt.same r (Int.mul_pos h2 h4) ?_
  have : u.1 * v.1 * (d * d') = (u.1 * d) * (v.1 * d') := by grind
  rw [this, h1, h3]
  grind
theorem Rt.plus {u v : Int × Int} {n d n' d' : Int} (h : Rt u n d) (h' : Rt v n' d') : Rt (plus u v) (n * d' + n' * d) (d * d') := by
  have r := red_rt (n := u.1 * v.2 + v.1 * u.2) (Int.mul_pos h.2 h'.2)
  obtain ⟨h1, h2⟩ := h
  obtain ⟨h3, h4⟩ := h'
  refine Rt.same r (Int.mul_pos h2 h4) ?_
  have : (u.1 * v.2 + v.1 * u.2) * (d * d') = (u.1 * d) * (v.2 * d') + (v.1 * d') * (u.2 * d) := by grind
  rw [this, h1, h3]
  grind
theorem red_zero {d : Int} (h : 0 < d) : red 0 d = (0, 1) := by
  unfold red
  rw [G_zero_left (by omega), Int.zero_ediv, Int.ediv_self (by omega)]

/-! ### the relation of five points -/
def area (a b c : Pt) : Int × Int := red (D a b c) (a.w * b.w * c.w)
theorem area_rt {a b c : Pt} (ha : 0 < a.w) (hb : 0 < b.w) (hc : 0 < c.w) : Rt (area a b c) (D a b c) (a.w * b.w * c.w) := red_rt (Int.mul_pos (Int.mul_pos ha hb) hc)
theorem five {a b p d e : Pt} (ha : 0 < a.w) (hb : 0 < b.w) (hp : 0 < p.w) (hd : 0 < d.w) (he : 0 < e.w) :
    plus (plus (times (area a b p) (area a d e)) (times (area a b e) (area a p d))) (0 - (times (area a b d) (area a p e)).1, (times (area a b d) (area a p e)).2) = (0, 1) := by
  have r1 := (area_rt ha hb hp).times (area_rt ha hd he)
  have r2 := (area_rt ha hb hd).times (area_rt ha hp he)
  have r3 := (area_rt ha hb he).times (area_rt ha hp hd)
  have z := D_five a b p d e
  generalize times (area a b p) (area a d e) = u at *
  generalize times (area a b d) (area a p e) = v at *
  generalize times (area a b e) (area a p d) = t at *
  have M : 0 < a.w * b.w * p.w * (a.w * d.w * e.w) := Int.mul_pos (Int.mul_pos (Int.mul_pos ha hb) hp) (Int.mul_pos (Int.mul_pos ha hd) he)
  have e2 : a.w * b.w * d.w * (a.w * p.w * e.w) = a.w * b.w * p.w * (a.w * d.w * e.w) := by grind
  have e3 : a.w * b.w * e.w * (a.w * p.w * d.w) = a.w * b.w * p.w * (a.w * d.w * e.w) := by grind
  rw [e2] at r2
  rw [e3] at r3
  generalize a.w * b.w * p.w * (a.w * d.w * e.w) = m at *
  generalize D a b p * D a d e = n1 at *
  generalize D a b d * D a p e = n2 at *
  generalize D a b e * D a p d = n3 at *
  have r4 := r1.plus r3
  generalize plus u t = s at *
  obtain ⟨h1, p1⟩ := r4
  obtain ⟨h2, p2⟩ := r2
  have h0 : s.1 * v.2 + (0 - v.1) * s.2 = 0 := by
    have hm : m * m ≠ 0 := Int.ne_of_gt (Int.mul_pos M M)
    apply (Int.mul_eq_zero.mp (?_ : (s.1 * v.2 + (0 - v.1) * s.2) * (m * m) = 0)).resolve_right hm
    have : (s.1 * v.2 + (0 - v.1) * s.2) * (m * m) = (s.1 * (m * m)) * v.2 - (v.1 * m) * (m * s.2) := by grind
    rw [this, h1, h2]
    have : (n1 * m + n3 * m) * s.2 * v.2 - n2 * v.2 * (m * s.2) = (n1 - n2 + n3) * (m * s.2 * v.2) := by grind
    rw [this, z, Int.zero_mul]
  show red (s.1 * v.2 + (0 - v.1) * s.2) (s.2 * v.2) = (0, 1)
  rw [h0]
  exact red_zero (Int.mul_pos p1 p2)

/-! ### points in lowest terms -/
structure Ok (a : Pt) : Prop where
  w : 0 < a.w
  g : G (G a.x a.y) a.w = 1
def low (x y w : Int) : Pt := ⟨x / G (G x y) w, y / G (G x y) w, w / G (G x y) w⟩
theorem G_dvd {x y z : Int} (h1 : z ∣ x) (h2 : z ∣ y) : z ∣ G x y := Int.dvd_coe_gcd h1 h2
theorem eq_one_of {g : Int} (h : 0 < g) (d : g ∣ 1) : g = 1 := by
  have := Int.le_of_dvd (by decide) d
  omega
theorem low_ok {x y w : Int} (h : 0 < w) : Ok (low x y w) := by
  have g := G_pos (x := G x y) h
  have d0 := G_dvd_left (G x y) w
  have dx := Int.dvd_trans d0 (G_dvd_left x y)
  have dy := Int.dvd_trans d0 (G_dvd_right x y)
  have dw := G_dvd_right (G x y) w
  have hw := quo_pos g dw h
  refine ⟨hw, ?_⟩
  show G (G (x / G (G x y) w) (y / G (G x y) w)) (w / G (G x y) w) = 1
  have ex := quo g dx
  have ey := quo g dy
  have ew := quo g dw
  generalize hq : G (G (x / G (G x y) w) (y / G (G x y) w)) (w / G (G x y) w) = q
  have hq0 : 0 < q := by rw [← hq]; exact G_pos hw
  have d1 : q ∣ G (x / G (G x y) w) (y / G (G x y) w) := by rw [← hq]; exact G_dvd_left _ _
  have q1 := Int.dvd_trans d1 (G_dvd_left _ _)
  have q2 := Int.dvd_trans d1 (G_dvd_right _ _)
  have q3 : q ∣ w / G (G x y) w := by rw [← hq]; exact G_dvd_right _ _
  have big : q * G (G x y) w ∣ G (G x y) w := by
    refine G_dvd (G_dvd ?_ ?_) ?_
    · have := Int.mul_dvd_mul q1 (Int.dvd_refl (G (G x y) w)); rwa [ex] at this
    · have := Int.mul_dvd_mul q2 (Int.dvd_refl (G (G x y) w)); rwa [ey] at this
    · have := Int.mul_dvd_mul q3 (Int.dvd_refl (G (G x y) w)); rwa [ew] at this
  have le := Int.le_of_dvd g big
  apply Int.le_antisymm _ (by omega)
  apply Int.not_lt.mp
  intro z
  have := Int.mul_lt_mul_of_pos_right z g
  omega
theorem low_rt {x y w : Int} (h : 0 < w) : (low x y w).x * w = x * (low x y w).w ∧ (low x y w).y * w = y * (low x y w).w := by
  have g := G_pos (x := G x y) h
  have d0 := G_dvd_left (G x y) w
  have ex := quo g (Int.dvd_trans d0 (G_dvd_left x y))
  have ey := quo g (Int.dvd_trans d0 (G_dvd_right x y))
  have ew := quo g (G_dvd_right (G x y) w)
  show x / G (G x y) w * w = x * (w / G (G x y) w) ∧ y / G (G x y) w * w = y * (w / G (G x y) w)
  generalize G (G x y) w = q at *
  generalize x / q = x' at *
  generalize y / q = y' at *
  generalize w / q = w' at *
  subst ex; subst ey; subst ew
  constructor <;> grind
theorem low_le {x y w : Int} (h : 0 < w) : (low x y w).x.natAbs ≤ x.natAbs ∧ (low x y w).y.natAbs ≤ y.natAbs ∧ (low x y w).w ≤ w := by
  have g := G_pos (x := G x y) h
  have h1 := quo_abs (n := w) g
  have h2 := quo_pos g (G_dvd_right (G x y) w) h
  refine ⟨quo_abs g, quo_abs g, ?_⟩
  show w / G (G x y) w ≤ w
  omega
/-- two points in lowest terms at one place are one -/
theorem eq_of_ord {a b : Pt} (ha : Ok a) (hb : Ok b) (h : ord a b = 0) : a = b := by
  obtain ⟨hx, hy⟩ := ord_zero.mp h
  have key : ∀ {a b : Pt}, Ok a → Ok b → a.x * b.w = b.x * a.w → a.y * b.w = b.y * a.w → a.w ∣ b.w := by
    intro a b ha hb hx hy
    -- a.w divides b.w * gcd of a's numbers
    have d1 : a.w ∣ a.x * b.w := by rw [hx]; exact Int.dvd_mul_left _ _
    have d2 : a.w ∣ a.y * b.w := by rw [hy]; exact Int.dvd_mul_left _ _
    have d3 : a.w ∣ a.w * b.w := Int.dvd_mul_right _ _
    have e : ∀ u v z : Int, 0 ≤ z → G (u * z) (v * z) = G u v * z := by
      intro u v z hz
      unfold G
      rw [Int.gcd_mul_right]
      have : (z.natAbs : Int) = z := by omega
      rw [Int.natCast_mul, this]
    have d4 := G_dvd (G_dvd d1 d2) d3
    rw [e _ _ _ (Int.le_of_lt hb.w), e _ _ _ (Int.le_of_lt hb.w), ha.g, Int.one_mul] at d4
    exact d4
  have w1 := key ha hb hx hy
  have w2 := key hb ha hx.symm hy.symm
  have l1 := Int.le_of_dvd hb.w w1
  have l2 := Int.le_of_dvd ha.w w2
  have ew : a.w = b.w := by omega
  have nz : b.w ≠ 0 := Int.ne_of_gt hb.w
  rw [ew] at hx hy
  have ex := Int.eq_of_mul_eq_mul_right nz hx
  have ey := Int.eq_of_mul_eq_mul_right nz hy
  obtain ⟨ax, ay, aw⟩ := a
  obtain ⟨bx, b_y, bw⟩ := b
  simp only at ex ey ew
  rw [ex, ey, ew]
theorem ord_iff {a b : Pt} (ha : Ok a) (hb : Ok b) : ord a b = 0 ↔ a = b := ⟨eq_of_ord ha hb, fun e => by rw [e]; exact ord_self b⟩

/-! ### between -/
def btw (a b p : Pt) : Bool := if ord a b = 0 then decide (ord a p = 0) else (decide (sgn (D a b p) = 0) && decide (0 ≤ ord a p * ord p b))
/-- as the law reckons it -/
def lbtw (a b p : Pt) : Bool := if sgn (D a b p) ≠ 0 ∨ a = b then decide (p = a) else
  if ord a b < 0 then (decide (ord a p ≤ 0) && decide (ord p b ≤ 0)) else (decide (ord b p ≤ 0) && decide (ord p a ≤ 0))
theorem btw_eq {a b p : Pt} (ha : Ok a) (hb : Ok b) (hp : Ok p) : btw a b p = lbtw a b p := by
  unfold btw lbtw
  by_cases h : a = b
  · rw [if_pos ((ord_iff ha hb).mpr h), if_pos (.inr h)]
    apply decide_eq_decide.mpr
    rw [ord_iff ha hp]
    exact ⟨fun e => e.symm, fun e => e.symm⟩
  · have h0 : ¬ ord a b = 0 := fun e => h ((ord_iff ha hb).mp e)
    rw [if_neg h0]
    by_cases ht : sgn (D a b p) = 0
    · rw [if_neg (by rintro (z | z); exact z ht; exact h z), decide_eq_true ht, Bool.true_and]
      have tr1 := ord_trans hb.w hp.w ha.w
      have tr2 := ord_trans ha.w hp.w hb.w
      have o1 := ord_opp a b
      have o2 := ord_opp a p
      have o3 := ord_opp b p
      have v1 := ord_vals a b
      have v2 := ord_vals a p
      have v3 := ord_vals p b
      have o3' : ord b p = -ord p b := ord_opp p b
      by_cases hl : ord a b < 0
      · rw [if_pos hl]
        rw [← Bool.decide_and]
        apply decide_eq_decide.mpr
        have e4 : 0 ≤ ord a p * ord p b ↔ ¬ ((ord a p = 1 ∧ ord p b = -1) ∨ (ord a p = -1 ∧ ord p b = 1)) := by
          rcases v2 with e2 | e2 | e2 <;> rcases v3 with e3 | e3 | e3 <;> rw [e2, e3] <;> decide
        rw [e4]
        omega
      · rw [if_neg hl]
        rw [← Bool.decide_and]
        apply decide_eq_decide.mpr
        have e4 : 0 ≤ ord a p * ord p b ↔ ¬ ((ord a p = 1 ∧ ord p b = -1) ∨ (ord a p = -1 ∧ ord p b = 1)) := by
          rcases v2 with e2 | e2 | e2 <;> rcases v3 with e3 | e3 | e3 <;> rw [e2, e3] <;> decide
        rw [e4]
        omega
    · rw [if_pos (.inl ht), decide_eq_false ht, Bool.false_and]
      symm
      apply decide_eq_false
      intro e
      subst e
      exact ht (by rw [D_aab]; rfl)

/-! ### a point on the line: a + (b - a) * k / m -/
/-- p stands at a + (b - a) * k / m -/
structure On (a b p : Pt) (k m : Int) : Prop where
  x : p.x * (a.w * b.w * m) = (a.x * b.w * (m - k) + b.x * a.w * k) * p.w
  y : p.y * (a.w * b.w * m) = (a.y * b.w * (m - k) + b.y * a.w * k) * p.w
section
variable {a b p : Pt} {k m : Int} (ha : 0 < a.w) (hb : 0 < b.w) (hp : 0 < p.w) (hm : 0 < m) (h : On a b p k m)
include ha hb hp hm h
theorem On.turn : D a b p = 0 := by
  have M : 0 < a.w * b.w * m := Int.mul_pos (Int.mul_pos ha hb) hm
  apply (Int.mul_eq_zero.mp (?_ : D a b p * (a.w * b.w * m) = 0)).resolve_right (Int.ne_of_gt M)
  have hx := h.x
  have hy := h.y
  have e : D a b p * (a.w * b.w * m) = a.x * (b.y * (p.w * (a.w * b.w * m)) - (p.y * (a.w * b.w * m)) * b.w) - a.y * (b.x * (p.w * (a.w * b.w * m)) - (p.x * (a.w * b.w * m)) * b.w) + a.w * (b.x * (p.y * (a.w * b.w * m)) - (p.x * (a.w * b.w * m)) * b.y) := by
    unfold D; grind
  rw [e, hx, hy]
  grind
theorem On.ord1 : ord a p = sgn k * ord a b := by
  have M : 0 < a.w * b.w * m := Int.mul_pos (Int.mul_pos ha hb) hm
  have P : 0 < p.w * a.w := Int.mul_pos hp ha
  have hx := h.x
  have hy := h.y
  have ex : (a.w * b.w * m) * (a.x * p.w - p.x * a.w) = (p.w * a.w) * (k * (a.x * b.w - b.x * a.w)) := by
    have : (a.w * b.w * m) * (a.x * p.w - p.x * a.w) = a.x * p.w * (a.w * b.w * m) - (p.x * (a.w * b.w * m)) * a.w := by grind
    rw [this, hx]; grind
  have ey : (a.w * b.w * m) * (a.y * p.w - p.y * a.w) = (p.w * a.w) * (k * (a.y * b.w - b.y * a.w)) := by
    have : (a.w * b.w * m) * (a.y * p.w - p.y * a.w) = a.y * p.w * (a.w * b.w * m) - (p.y * (a.w * b.w * m)) * a.w := by grind
    rw [this, hy]; grind
  have sx := congrArg sgn ex
  have sy := congrArg sgn ey
  rw [sgn_mul_pos M, sgn_mul_pos P, sgn_mul] at sx sy
  unfold ord
  rw [sx, sy]
  by_cases hk : sgn k = 0
  · rw [hk]; simp
  · by_cases h1 : sgn (a.x * b.w - b.x * a.w) = 0
    · rw [h1]; simp
    · rw [if_pos (Int.mul_ne_zero hk h1), if_pos h1]
theorem On.swap : On b a p (m - k) m := by
  refine ⟨?_, ?_⟩
  · have := h.x
    rw [show b.w * a.w * m = a.w * b.w * m by grind, this]; grind
  · have := h.y
    rw [show b.w * a.w * m = a.w * b.w * m by grind, this]; grind
end
theorem On.btw {a b p : Pt} {k m : Int} (ha : Ok a) (hb : Ok b) (hp : 0 < p.w) (hm : 0 < m) (h : On a b p k m) : btw a b p = decide ((0 ≤ k ∧ k ≤ m) ∨ a = b) := by
  have t := On.turn ha.w hb.w hp hm h
  have o1 := On.ord1 ha.w hb.w hp hm h
  have o2 := On.ord1 hb.w ha.w hp hm (On.swap ha.w hb.w hp hm h)
  have o3 : ord p b = sgn (m - k) * ord a b := by
    rw [ord_opp b p, o2, ord_opp a b]; grind
  unfold K1.btw
  by_cases e : a = b
  · rw [if_pos ((ord_iff ha hb).mpr e), o1, (ord_iff ha hb).mpr e]
    simp [e]
  · have e0 : ¬ ord a b = 0 := fun z => e ((ord_iff ha hb).mp z)
    rw [if_neg e0, t, o1, o3]
    have v := ord_vals a b
    rw [decide_eq_true (show sgn 0 = 0 from rfl), Bool.true_and]
    apply decide_eq_decide.mpr
    have sq : sgn k * ord a b * (sgn (m - k) * ord a b) = sgn k * sgn (m - k) := by
      rcases v with q | q | q
      · rw [q]; grind
      · rw [q]; grind
      · exact absurd q e0
    rw [sq]
    rcases sgn_cases k with ⟨z, q⟩ | ⟨z, q⟩ | ⟨z, q⟩ <;> rcases sgn_cases (m - k) with ⟨z', q'⟩ | ⟨z', q'⟩ | ⟨z', q'⟩ <;> rw [q, q'] <;> simp [e] <;> omega
end K1

set_option maxHeartbeats 4000000
/-! The text by places; the promises' shapes; small rules of my own over the layer. -/
namespace K1
open PySem PySem.Spec PyProof.Rows L2 Evl
def topS (i : Nat) : Stmt := PySem.Challenge.pw_meshcore_k01_whole_turns.main.body.getD i (.Pass ⟨0, 0, 0, 0⟩)
abbrev sIsIn : Stmt := topS 1
abbrev nIsIn : List Str := ["value", "least", "most"]
abbrev pIsIn : List Str := ["value", "least", "most"]
theorem scIsIn : FnScope nIsIn pIsIn (defScope sIsIn) := ⟨rfl, rfl, rfl, by decide +kernel, rfl, by decide +kernel, by decide +kernel⟩
abbrev sGcd : Stmt := topS 2
abbrev nGcd : List Str := ["one", "other"]
abbrev pGcd : List Str := ["one", "other"]
theorem scGcd : FnScope nGcd pGcd (defScope sGcd) := ⟨rfl, rfl, rfl, by decide +kernel, rfl, by decide +kernel, by decide +kernel⟩
abbrev sReduced : Stmt := topS 3
abbrev nReduced : List Str := ["numerator", "denominator", "common"]
abbrev pReduced : List Str := ["numerator", "denominator"]
theorem scReduced : FnScope nReduced pReduced (defScope sReduced) := ⟨rfl, rfl, rfl, by decide +kernel, rfl, by decide +kernel, by decide +kernel⟩
abbrev sSign : Stmt := topS 4
abbrev nSign : List Str := ["number"]
abbrev pSign : List Str := ["number"]
theorem scSign : FnScope nSign pSign (defScope sSign) := ⟨rfl, rfl, rfl, by decide +kernel, rfl, by decide +kernel, by decide +kernel⟩
abbrev sIsPoint : Stmt := topS 10
abbrev nIsPoint : List Str := ["value"]
abbrev pIsPoint : List Str := ["value"]
theorem scIsPoint : FnScope nIsPoint pIsPoint (defScope sIsPoint) := ⟨rfl, rfl, rfl, by decide +kernel, rfl, by decide +kernel, by decide +kernel⟩
abbrev sNeedPoint : Stmt := topS 11
abbrev nNeedPoint : List Str := ["value"]
abbrev pNeedPoint : List Str := ["value"]
theorem scNeedPoint : FnScope nNeedPoint pNeedPoint (defScope sNeedPoint) := ⟨rfl, rfl, rfl, by decide +kernel, rfl, by decide +kernel, by decide +kernel⟩
abbrev sNeedAll : Stmt := topS 12
abbrev nNeedAll : List Str := ["values", "value"]
abbrev pNeedAll : List Str := ["values"]
theorem scNeedAll : FnScope nNeedAll pNeedAll (defScope sNeedAll) := ⟨rfl, rfl, rfl, by decide +kernel, rfl, by decide +kernel, by decide +kernel⟩
abbrev sOrderOf : Stmt := topS 13
abbrev nOrderOf : List Str := ["a", "b", "found"]
abbrev pOrderOf : List Str := ["a", "b"]
theorem scOrderOf : FnScope nOrderOf pOrderOf (defScope sOrderOf) := ⟨rfl, rfl, rfl, by decide +kernel, rfl, by decide +kernel, by decide +kernel⟩
abbrev sDoubled : Stmt := topS 15
abbrev nDoubled : List Str := ["a", "b", "c", "first", "second"]
abbrev pDoubled : List Str := ["a", "b", "c"]
theorem scDoubled : FnScope nDoubled pDoubled (defScope sDoubled) := ⟨rfl, rfl, rfl, by decide +kernel, rfl, by decide +kernel, by decide +kernel⟩
abbrev sTurnOf : Stmt := topS 16
abbrev nTurnOf : List Str := ["a", "b", "c"]
abbrev pTurnOf : List Str := ["a", "b", "c"]
theorem scTurnOf : FnScope nTurnOf pTurnOf (defScope sTurnOf) := ⟨rfl, rfl, rfl, by decide +kernel, rfl, by decide +kernel, by decide +kernel⟩
abbrev sTurn : Stmt := topS 17
abbrev nTurn : List Str := ["a", "b", "c"]
abbrev pTurn : List Str := ["a", "b", "c"]
theorem scTurn : FnScope nTurn pTurn (defScope sTurn) := ⟨rfl, rfl, rfl, by decide +kernel, rfl, by decide +kernel, by decide +kernel⟩
abbrev sTwice : Stmt := topS 18
abbrev nTwice : List Str := ["a", "b", "c"]
abbrev pTwice : List Str := ["a", "b", "c"]
theorem scTwice : FnScope nTwice pTwice (defScope sTwice) := ⟨rfl, rfl, rfl, by decide +kernel, rfl, by decide +kernel, by decide +kernel⟩
abbrev sArea2 : Stmt := topS 19
abbrev nArea2 : List Str := ["a", "b", "c"]
abbrev pArea2 : List Str := ["a", "b", "c"]
theorem scArea2 : FnScope nArea2 pArea2 (defScope sArea2) := ⟨rfl, rfl, rfl, by decide +kernel, rfl, by decide +kernel, by decide +kernel⟩
abbrev sIsBetween : Stmt := topS 20
abbrev nIsBetween : List Str := ["a", "b", "p"]
abbrev pIsBetween : List Str := ["a", "b", "p"]
theorem scIsBetween : FnScope nIsBetween pIsBetween (defScope sIsBetween) := ⟨rfl, rfl, rfl, by decide +kernel, rfl, by decide +kernel, by decide +kernel⟩
abbrev sBetween : Stmt := topS 21
abbrev nBetween : List Str := ["a", "b", "p"]
abbrev pBetween : List Str := ["a", "b", "p"]
theorem scBetween : FnScope nBetween pBetween (defScope sBetween) := ⟨rfl, rfl, rfl, by decide +kernel, rfl, by decide +kernel, by decide +kernel⟩
abbrev sLTaken : Stmt := topS 23
abbrev nLTaken : List Str := ["_law_row", "_law_many", "_law_found", "_law_cell"]
abbrev pLTaken : List Str := ["_law_row", "_law_many"]
theorem scLTaken : FnScope nLTaken pLTaken (defScope sLTaken) := ⟨rfl, rfl, rfl, by decide +kernel, rfl, by decide +kernel, by decide +kernel⟩
abbrev sLPick : Stmt := topS 24
abbrev nLPick : List Str := ["_law_row", "_law_things"]
abbrev pLPick : List Str := ["_law_row", "_law_things"]
theorem scLPick : FnScope nLPick pLPick (defScope sLPick) := ⟨rfl, rfl, rfl, by decide +kernel, rfl, by decide +kernel, by decide +kernel⟩
abbrev sLGcd : Stmt := topS 25
abbrev nLGcd : List Str := ["_law_one", "_law_other"]
abbrev pLGcd : List Str := ["_law_one", "_law_other"]
theorem scLGcd : FnScope nLGcd pLGcd (defScope sLGcd) := ⟨rfl, rfl, rfl, by decide +kernel, rfl, by decide +kernel, by decide +kernel⟩
abbrev sLLowest : Stmt := topS 26
abbrev nLLowest : List Str := ["_law_x", "_law_y", "_law_w", "_law_common"]
abbrev pLLowest : List Str := ["_law_x", "_law_y", "_law_w"]
theorem scLLowest : FnScope nLLowest pLLowest (defScope sLLowest) := ⟨rfl, rfl, rfl, by decide +kernel, rfl, by decide +kernel, by decide +kernel⟩
abbrev sLSigned : Stmt := topS 27
abbrev nLSigned : List Str := ["_law_row", "_law_most"]
abbrev pLSigned : List Str := ["_law_row", "_law_most"]
theorem scLSigned : FnScope nLSigned pLSigned (defScope sLSigned) := ⟨rfl, rfl, rfl, by decide +kernel, rfl, by decide +kernel, by decide +kernel⟩
abbrev sLPoint : Stmt := topS 28
abbrev nLPoint : List Str := ["_law_row", "_law_size", "_law_w"]
abbrev pLPoint : List Str := ["_law_row", "_law_size"]
theorem scLPoint : FnScope nLPoint pLPoint (defScope sLPoint) := ⟨rfl, rfl, rfl, by decide +kernel, rfl, by decide +kernel, by decide +kernel⟩
abbrev sLRatio : Stmt := topS 29
abbrev nLRatio : List Str := ["_law_numerator", "_law_denominator", "_law_common"]
abbrev pLRatio : List Str := ["_law_numerator", "_law_denominator"]
theorem scLRatio : FnScope nLRatio pLRatio (defScope sLRatio) := ⟨rfl, rfl, rfl, by decide +kernel, rfl, by decide +kernel, by decide +kernel⟩
abbrev sLPlus : Stmt := topS 30
abbrev nLPlus : List Str := ["_law_one", "_law_other"]
abbrev pLPlus : List Str := ["_law_one", "_law_other"]
theorem scLPlus : FnScope nLPlus pLPlus (defScope sLPlus) := ⟨rfl, rfl, rfl, by decide +kernel, rfl, by decide +kernel, by decide +kernel⟩
abbrev sLTimes : Stmt := topS 31
abbrev nLTimes : List Str := ["_law_one", "_law_other"]
abbrev pLTimes : List Str := ["_law_one", "_law_other"]
theorem scLTimes : FnScope nLTimes pLTimes (defScope sLTimes) := ⟨rfl, rfl, rfl, by decide +kernel, rfl, by decide +kernel, by decide +kernel⟩
abbrev sLAlike : Stmt := topS 32
abbrev nLAlike : List Str := ["_law_found", "_law_due", "_law_k"]
abbrev pLAlike : List Str := ["_law_found", "_law_due"]
theorem scLAlike : FnScope nLAlike pLAlike (defScope sLAlike) := ⟨rfl, rfl, rfl, by decide +kernel, rfl, by decide +kernel, by decide +kernel⟩
abbrev sLSign : Stmt := topS 33
abbrev nLSign : List Str := ["_law_number"]
abbrev pLSign : List Str := ["_law_number"]
theorem scLSign : FnScope nLSign pLSign (defScope sLSign) := ⟨rfl, rfl, rfl, by decide +kernel, rfl, by decide +kernel, by decide +kernel⟩
abbrev sLDoubled : Stmt := topS 34
abbrev nLDoubled : List Str := ["_law_a", "_law_b", "_law_c", "_law_x", "_law_y", "_law_p", "_law_q"]
abbrev pLDoubled : List Str := ["_law_a", "_law_b", "_law_c"]
theorem scLDoubled : FnScope nLDoubled pLDoubled (defScope sLDoubled) := ⟨rfl, rfl, rfl, by decide +kernel, rfl, by decide +kernel, by decide +kernel⟩
abbrev sLTurn : Stmt := topS 35
abbrev nLTurn : List Str := ["_law_a", "_law_b", "_law_c"]
abbrev pLTurn : List Str := ["_law_a", "_law_b", "_law_c"]
theorem scLTurn : FnScope nLTurn pLTurn (defScope sLTurn) := ⟨rfl, rfl, rfl, by decide +kernel, rfl, by decide +kernel, by decide +kernel⟩
abbrev sLArea2 : Stmt := topS 36
abbrev nLArea2 : List Str := ["_law_a", "_law_b", "_law_c"]
abbrev pLArea2 : List Str := ["_law_a", "_law_b", "_law_c"]
theorem scLArea2 : FnScope nLArea2 pLArea2 (defScope sLArea2) := ⟨rfl, rfl, rfl, by decide +kernel, rfl, by decide +kernel, by decide +kernel⟩
abbrev sLOrder : Stmt := topS 37
abbrev nLOrder : List Str := ["_law_a", "_law_b", "_law_found"]
abbrev pLOrder : List Str := ["_law_a", "_law_b"]
theorem scLOrder : FnScope nLOrder pLOrder (defScope sLOrder) := ⟨rfl, rfl, rfl, by decide +kernel, rfl, by decide +kernel, by decide +kernel⟩
abbrev sLBetween : Stmt := topS 38
abbrev nLBetween : List Str := ["_law_a", "_law_b", "_law_p", "_law_low", "_law_high"]
abbrev pLBetween : List Str := ["_law_a", "_law_b", "_law_p"]
theorem scLBetween : FnScope nLBetween pLBetween (defScope sLBetween) := ⟨rfl, rfl, rfl, by decide +kernel, rfl, by decide +kernel, by decide +kernel⟩
abbrev sLaw : Stmt := topS 39
abbrev nLaw : List Str := ["_law_script", "_law_row", "_law_turn_number", "_law_a", "_law_b", "_law_p", "_law_k", "_law_many", "_law_first", "_law_second", "_law_on", "_law_c", "_law_d", "_law_e", "_law_one", "_law_two", "_law_three"]
abbrev pLaw : List Str := ["_law_script"]
theorem scLaw : FnScope nLaw pLaw (defScope sLaw) := ⟨rfl, rfl, rfl, by decide +kernel, rfl, by decide +kernel, by decide +kernel⟩
/-! ### a def of the text as the top has left it -/
structure Df (K : PySem.W.Frag) (mg : Str → Option Value) (x : Str) (st : Stmt) (ps : List Str) (f : Addr) (fd : FuncData) : Prop where
  F : Fun K x x st f fd
  m : mg x = some (.ref f)
  b : Binds K fd ps []
/-- the addresses of all defs that the law reaches, and what the names hold -/
structure Tx (K : PySem.W.Frag) (mg : Str → Option Value) where
  ad : Nat → Addr
  fd : Nat → FuncData
  dIsIn : Df K mg "is_in" sIsIn pIsIn (ad 1) (fd 1)
  dGcd : Df K mg "gcd" sGcd pGcd (ad 2) (fd 2)
  dReduced : Df K mg "reduced" sReduced pReduced (ad 3) (fd 3)
  dSign : Df K mg "sign" sSign pSign (ad 4) (fd 4)
  dIsPoint : Df K mg "is_point" sIsPoint pIsPoint (ad 10) (fd 10)
  dNeedPoint : Df K mg "need_point" sNeedPoint pNeedPoint (ad 11) (fd 11)
  dNeedAll : Df K mg "need_all" sNeedAll pNeedAll (ad 12) (fd 12)
  dOrderOf : Df K mg "order_of" sOrderOf pOrderOf (ad 13) (fd 13)
  dDoubled : Df K mg "doubled" sDoubled pDoubled (ad 15) (fd 15)
  dTurnOf : Df K mg "turn_of" sTurnOf pTurnOf (ad 16) (fd 16)
  dTurn : Df K mg "turn" sTurn pTurn (ad 17) (fd 17)
  dTwice : Df K mg "twice" sTwice pTwice (ad 18) (fd 18)
  dArea2 : Df K mg "area2" sArea2 pArea2 (ad 19) (fd 19)
  dIsBetween : Df K mg "is_between" sIsBetween pIsBetween (ad 20) (fd 20)
  dBetween : Df K mg "between" sBetween pBetween (ad 21) (fd 21)
  dLTaken : Df K mg "_law_taken" sLTaken pLTaken (ad 23) (fd 23)
  dLPick : Df K mg "_law_pick" sLPick pLPick (ad 24) (fd 24)
  dLGcd : Df K mg "_law_gcd" sLGcd pLGcd (ad 25) (fd 25)
  dLLowest : Df K mg "_law_lowest" sLLowest pLLowest (ad 26) (fd 26)
  dLSigned : Df K mg "_law_signed" sLSigned pLSigned (ad 27) (fd 27)
  dLPoint : Df K mg "_law_point" sLPoint pLPoint (ad 28) (fd 28)
  dLRatio : Df K mg "_law_ratio" sLRatio pLRatio (ad 29) (fd 29)
  dLPlus : Df K mg "_law_plus" sLPlus pLPlus (ad 30) (fd 30)
  dLTimes : Df K mg "_law_times" sLTimes pLTimes (ad 31) (fd 31)
  dLAlike : Df K mg "_law_alike" sLAlike pLAlike (ad 32) (fd 32)
  dLSign : Df K mg "_law_sign" sLSign pLSign (ad 33) (fd 33)
  dLDoubled : Df K mg "_law_doubled" sLDoubled pLDoubled (ad 34) (fd 34)
  dLTurn : Df K mg "_law_turn" sLTurn pLTurn (ad 35) (fd 35)
  dLArea2 : Df K mg "_law_area2" sLArea2 pLArea2 (ad 36) (fd 36)
  dLOrder : Df K mg "_law_order" sLOrder pLOrder (ad 37) (fd 37)
  dLBetween : Df K mg "_law_between" sLBetween pLBetween (ad 38) (fd 38)
  zisinstance : mg "isinstance" = none
  zint : mg "int" = none
  zbool : mg "bool" = none
  ztuple : mg "tuple" = none
  zlist : mg "list" = none
  zstr : mg "str" = none
  zlen : mg "len" = none
  zabs : mg "abs" = none
  zrange : mg "range" = none
  zL : ∃ t, mg "LARGEST" = some (.int 1000000000000 t)
/-! ### promises: a value; a new tuple -/
def spV (R : List V → Hp → V → Prop) : Sp := fun vs H Q _ => ∃ v, R vs H v ∧ ∀ H2, Ex H H2 → Q v H2
def spU (R : List V → Hp → List V → Prop) : Sp := fun vs H Q _ => ∃ xs, R vs H xs ∧ ∀ p H2, H p = none → Ex H H2 → H2 p = some (.tup xs) → Q (.ref p) H2
section
variable {K : PySem.W.Frag} {σ : L2.St} {H : Hp} {ta tb tc te : TE} {t u : TT} {tA : TA} {vs xs : List V} {E : XK} {x y z v w : V} {D : Ends} {tz : TS}
/-- a call that hands back a value, one that hands back a new tuple -/
theorem ev_callV {R : List V → Hp → V → Prop} (h : EvA tA σ H vs) (hr : ∀ H', Ex H H' → R vs H' v) : Ev (tCall (spV R) [] E tA) σ H v := fun H1 e Q q =>
  h H1 e _ fun H2 e2 => ⟨v, by rw [List.append_nil]; exact hr H2 (e.trans e2), fun H3 e3 => q H3 (e2.trans e3)⟩
theorem eu_callU {R : List V → Hp → List V → Prop} (h : EvA tA σ H vs) (hr : ∀ H', Ex H H' → R vs H' xs) : EvU (tCall (spU R) [] E tA) σ H xs := fun H1 e Q q =>
  h H1 e _ fun H2 e2 => ⟨xs, by rw [List.append_nil]; exact hr H2 (e.trans e2), fun p H3 hn e3 hp => q p H3 (fresh_back e2 hn) (e2.trans e3) hp⟩
theorem ev_chain {r r' : R2} {k b : Bool} (ha : Ev ta σ H x) (hb : Ev tb σ H y) (hr : RV r x y H (.bl k)) (hc : k = true → Ev tc σ H z) (hr' : k = true → RV r' y z H (.bl b)) : Ev (tChain r r' ta tb tc) σ H (.bl (k && b)) := fun H1 e Q q =>
  ha H1 e _ fun H2 e2 => hb H2 (e.trans e2) _ fun H3 e3 => hr H3 ((e.trans e2).trans e3) _ fun H4 e4 => ⟨k, rfl, by
    have e14 := (e2.trans e3).trans e4
    cases k with
    | true =>
      refine iteT ?_
      exact hc rfl H4 (e.trans e14) _ fun H5 e5 => hr' rfl H5 (e.trans (e14.trans e5)) Q fun H6 e6 => q H6 ((e14.trans e5).trans e6)
    | false =>
      refine iteF ?_
      exact q H4 e14⟩
theorem s_par {i j : Nat} (h : EvA tA σ H [v, w]) (k : ∀ H1, Ex H H1 → D.nx ((σ.set i (some v)).set j (some w)) H1) : tPar i j tA D σ H := h H (Ex.refl H) _ fun H1 e => ⟨v, w, rfl, k H1 e⟩
theorem q_par {i j : Nat} (h : EvA tA σ H [v, w]) (k : ∀ H1, Ex H H1 → tz D ((σ.set i (some v)).set j (some w)) H1) : tSeq (tPar i j tA) tz D σ H := s_par (D := { D with nx := tz D }) h k
/-- isinstance -/
theorem rc_isi {c : V} {t u : Value} {b : Bool} (hc : ClsV c u) (ht : ∀ H1, Ex H H1 → TyX K H1 x t) (hk : PySem.W.kitOne K t u = some b) : RC (rIsi K) [x, c] H (.bl b) := fun H1 e Q q => ⟨x, c, t, u, b, rfl, hc, ht H1 e, hk, q H1 (Ex.refl H1)⟩
theorem ev_isi {i : Nat} {c : String} {t : Value} {b : Bool} (hx : σ[i]? = some (some x)) (ht : ∀ H1, Ex H H1 → TyX K H1 x t) (hk : PySem.W.kitOne K t (.type c) = some b) : Ev (tCB (rIsi K) (tCons (tVar i) (tCons (tC (.ty c)) tNil))) σ H (.bl b) :=
  ev_cb (ea_cons (ev_var hx) (ea_cons ev_c ea_nil)) (rc_isi (.ty _) ht hk)
/-- abs, int -/
theorem ev_abs {i : Int} (h : Ev ta σ H (.int i)) : Ev (tCB (fun xs H Q => ∃ i, xs = [V.int i] ∧ Q (.int (if i < 0 then -i else i)) H) (tCons ta tNil)) σ H (.int (if i < 0 then -i else i)) := fun H1 e Q q =>
  h H1 e _ fun H2 e2 => ⟨i, rfl, q H2 e2⟩
theorem ev_int {i : Int} (h : Ev ta σ H (.int i)) : Ev (tCB (fun xs H Q => (∃ i, xs = [V.int i] ∧ Q (.int i) H) ∨ ∃ k, xs = [V.bl k] ∧ Q (.int (if k then 1 else 0)) H) (tCons ta tNil)) σ H (.int i) := fun H1 e Q q =>
  h H1 e _ fun H2 e2 => .inl ⟨i, rfl, q H2 e2⟩
/-- two numbers; one of them bounded -/
theorem ev_I0 {g : Int → Int → V} {i j : Int} (ha : Ev ta σ H (.int i)) (hb : Ev tb σ H (.int j)) : Ev (tOp (rI0 g) ta tb) σ H (g i j) := ev_op ha hb rv_I0
theorem ev_I {C : Int → Int → Prop} {g : Int → Int → V} {i j : Int} (ha : Ev ta σ H (.int i)) (hb : Ev tb σ H (.int j)) (hc : C i j) : Ev (tOp (rI C g) ta tb) σ H (g i j) := ev_op ha hb (rv_I hc)
end
/-- an argument list of which something is known: new lists and tuples among the arguments -/
def EvAP (ta : TA) (σ : L2.St) (H : Hp) (P : List V → Hp → Prop) : Prop := ∀ H1, Ex H H1 → ∀ Q : List V → Hp → Prop, (∀ vs H2, Ex H1 H2 → P vs H2 → Q vs H2) → ta σ H1 Q
section
variable {K : PySem.W.Frag} {σ : L2.St} {H : Hp} {te : TE} {tA tr : TA} {xs : List V} {E : XK} {v : V} {P : List V → Hp → Prop}
theorem ap_nil : EvAP tNil σ H (fun vs _ => vs = []) := fun H1 _ _ q => q [] H1 (Ex.refl H1) rfl
theorem ap_V (h : Ev te σ H v) (hr : EvAP tr σ H P) : EvAP (tCons te tr) σ H (fun vs H' => ∃ r, vs = v :: r ∧ P r H') := fun H1 e _ q =>
  h H1 e _ fun H2 e2 => hr H2 (e.trans e2) _ fun r H3 e3 hp => q _ H3 (e2.trans e3) ⟨r, rfl, hp⟩
theorem ap_L (h : EvL te σ H xs) (hr : EvAP tr σ H P) : EvAP (tCons te tr) σ H (fun vs H' => ∃ p r, vs = .ref p :: r ∧ H' p = some (.lst xs) ∧ P r H') := fun H1 e _ q =>
  h H1 e _ fun p H2 _ e2 hx => hr H2 (e.trans e2) _ fun r H3 e3 hp => q _ H3 (e2.trans e3) ⟨p, r, rfl, e3 _ _ hx, hp⟩
theorem ap_U (h : EvU te σ H xs) (hr : EvAP tr σ H P) : EvAP (tCons te tr) σ H (fun vs H' => ∃ p r, vs = .ref p :: r ∧ H' p = some (.tup xs) ∧ P r H') := fun H1 e _ q =>
  h H1 e _ fun p H2 _ e2 hx => hr H2 (e.trans e2) _ fun r H3 e3 hp => q _ H3 (e2.trans e3) ⟨p, r, rfl, e3 _ _ hx, hp⟩
theorem ev_callP {R : List V → Hp → V → Prop} (h : EvAP tA σ H P) (hr : ∀ vs H', Ex H H' → P vs H' → R vs H' v) : Ev (tCall (spV R) [] E tA) σ H v := fun H1 e Q q =>
  h H1 e _ fun vs H2 e2 hp => ⟨v, by rw [List.append_nil]; exact hr vs H2 (e.trans e2) hp, fun H3 e3 => q H3 (e2.trans e3)⟩
theorem eu_callP {R : List V → Hp → List V → Prop} (h : EvAP tA σ H P) (hr : ∀ vs H', Ex H H' → P vs H' → R vs H' xs) : EvU (tCall (spU R) [] E tA) σ H xs := fun H1 e Q q =>
  h H1 e _ fun vs H2 e2 hp => ⟨xs, by rw [List.append_nil]; exact hr vs H2 (e.trans e2) hp, fun p H3 hn e3 hx => q p H3 (fresh_back e2 hn) (e2.trans e3) hx⟩
end
/-- bool - bool -/
def rSubB : R2 := fun x y H Q => ∃ p q : Bool, x = .bl p ∧ y = .bl q ∧ Q (.int (b2i p - b2i q)) H
theorem op_subB {X : Cx} : OpR X (binaryOp .Sub) rSubB := by
  intro pins s σ H x y v u Q I rx ry h
  obtain ⟨p, q, rfl, rfl, k⟩ := h
  cases rx
  cases ry
  exact sub_bool ⟨.int (b2i p - b2i q), H, I.tok _, ⟨_, rfl⟩, k⟩
theorem rv_subB {H : Hp} {p q : Bool} : RV rSubB (.bl p) (.bl q) H (.int (b2i p - b2i q)) := fun H1 _ _ k => ⟨p, q, rfl, rfl, k H1 (Ex.refl H1)⟩
/-- what the operators ask of numbers -/
theorem cmul_l {i j : Int} (h : -1000000000000000000 ≤ i ∧ i ≤ 1000000000000000000) : CMul i j := .inl ⟨by omega, by omega⟩
theorem cmul_r {i j : Int} (h : -1000000000000000000 ≤ j ∧ j ≤ 1000000000000000000) : CMul i j := .inr ⟨by omega, by omega⟩
theorem cdiv {i j : Int} (h : 0 < j ∧ j ≤ 1000000000000000000) : CDivW i j := wide_div h.1 (b := 64) (by omega) (by decide) (by decide)

/-! ### points and ratios in the heap -/
def P3 (a : Pt) : List V := [.int a.x, .int a.y, .int a.w]
def P2 (q : Int × Int) : List V := [.int q.1, .int q.2]
/-- at p there is the point a: in lowest terms, not great -/
structure At (H : Hp) (p : Addr) (a : Pt) : Prop where
  h : H p = some (.tup (P3 a))
  ok : Ok a
  b : (-20000000 ≤ a.x ∧ a.x ≤ 20000000) ∧ (-20000000 ≤ a.y ∧ a.y ≤ 20000000) ∧ a.w ≤ 1000000
theorem At.ex {H H' : Hp} {p : Addr} {a : Pt} (h : At H p a) (e : Ex H H') : At H' p a := ⟨e _ _ h.h, h.ok, h.b⟩
section
variable {K : PySem.W.Frag} {σ : L2.St} {H : Hp} {i : Nat} {p : Addr} {a : Pt} {q : Int × Int}
theorem ev_0 (hs : σ[i]? = some (some (.ref p))) (h : At H p a) : Ev (tOp (rIxT K) (tVar i) (tC (.int 0))) σ H (.int a.x) := ev_op (ev_var hs) ev_c (rv_ixT (st_of h.h) (atI_nat (j := 0) rfl))
theorem ev_1 (hs : σ[i]? = some (some (.ref p))) (h : At H p a) : Ev (tOp (rIxT K) (tVar i) (tC (.int 1))) σ H (.int a.y) := ev_op (ev_var hs) ev_c (rv_ixT (st_of h.h) (atI_nat (j := 1) rfl))
theorem ev_2 (hs : σ[i]? = some (some (.ref p))) (h : At H p a) : Ev (tOp (rIxT K) (tVar i) (tC (.int 2))) σ H (.int a.w) := ev_op (ev_var hs) ev_c (rv_ixT (st_of h.h) (atI_nat (j := 2) rfl))
theorem er_0 (hs : σ[i]? = some (some (.ref p))) (h : H p = some (.tup (P2 q))) : Ev (tOp (rIxT K) (tVar i) (tC (.int 0))) σ H (.int q.1) := ev_op (ev_var hs) ev_c (rv_ixT (st_of h) (atI_nat (j := 0) rfl))
theorem er_1 (hs : σ[i]? = some (some (.ref p))) (h : H p = some (.tup (P2 q))) : Ev (tOp (rIxT K) (tVar i) (tC (.int 1))) σ H (.int q.2) := ev_op (ev_var hs) ev_c (rv_ixT (st_of h) (atI_nat (j := 1) rfl))
end
end K1

set_option maxHeartbeats 4000000
/-! The defs upon ints: is_in, gcd, sign, reduced and the law's own. -/
namespace K1
open PySem PySem.Spec PyProof.Rows L2 Evl
def spIsIn : Sp := spV fun vs _ v => ∃ a l m : Int, vs = [.int a, .int l, .int m] ∧ v = .bl (decide (l ≤ a) && decide (a ≤ m))
def spGcd : Sp := spV fun vs _ v => ∃ a b : Int, vs = [.int a, .int b] ∧ v = .int (G a b)
def spSign : Sp := spV fun vs _ v => ∃ n : Int, vs = [.int n] ∧ v = .int (sgn n)
def spRed : Sp := spU fun vs _ xs => ∃ n d : Int, vs = [.int n, .int d] ∧ (0 < d ∧ d ≤ 1000000000000000000) ∧ xs = P2 (red n d)
def spLow : Sp := spU fun vs _ xs => ∃ x y w : Int, vs = [.int x, .int y, .int w] ∧ (0 < w ∧ w ≤ 1000000000000000000) ∧ xs = P3 (low x y w)
section
variable {P : Program} {w : World} {K : PySem.W.Frag} {mg : Str → Option Value} {base : Heap}
theorem ok_isin (T : Tx K mg) : FnOk P w K mg base CX0 1 (T.ad 1) (T.fd 1) pIsIn spIsIn := by
  refine T.dIsIn.F.ok scIsIn (fun vs H Q E h => ?_) (fun cdv A outer s H vs Q E hr h => ?_)
  · obtain ⟨_, ⟨a, l, m, rfl, _⟩, _⟩ := h
    rfl
  · obtain ⟨_, ⟨a, l, m, rfl, rfl⟩, q⟩ := h
    refine ⟨_, (pss_one (ps_ret (pe_and (pe_callB call_isi (by rfl) T.zisinstance (by decide +kernel) (pa_cons (pv 0) (pa_cons (pe_bltn (v := .ty "int") (by rfl) T.zint (by decide +kernel) rfl) pa_nil))) (pe_and (pe_not (pe_callB call_isi (by rfl) T.zisinstance (by decide +kernel) (pa_cons (pv 0) (pa_cons (pe_bltn (v := .ty "bool") (by rfl) T.zbool (by decide +kernel) rfl) pa_nil)))) (pe_one (pe_chain op_le op_le (pv 1) (pv 0) (pv 2))))))), ?_⟩
    have i1 : ∀ H1 : Hp, TyX K H1 (.int a) (.type "int") := fun _ => .base (.int a)
    have e := ev_andV (ev_isi (σ := start nIsIn [.int a, .int l, .int m]) (H := H) (i := 0) (K := K) (c := "int") rfl (fun H1 _ => i1 H1) (kit_ty (b := "int") (r := true) (by decide +kernel)))
      (fun _ => ev_andV (ev_notV (ev_isi (i := 0) (K := K) (c := "bool") rfl (fun H1 _ => i1 H1) (kit_ty (b := "bool") (r := false) (by decide +kernel))))
        (fun _ => ev_chain (ev_var (i := 1) rfl) (ev_var (i := 0) rfl) (rv_I0 (g := fun i j => .bl (decide (i ≤ j)))) (fun _ => ev_var (i := 2) rfl) (fun _ => rv_I0 (g := fun i j => .bl (decide (i ≤ j))))))
    exact s_ret e q
theorem ok_gcd (T : Tx K mg) : FnOk P w K mg base CX0 1 (T.ad 2) (T.fd 2) pGcd spGcd := by
  refine T.dGcd.F.ok scGcd (fun vs H Q E h => ?_) (fun cdv A outer s H vs Q E hr h => ?_)
  · obtain ⟨_, ⟨a, b, rfl, _⟩, _⟩ := h
    rfl
  · obtain ⟨_, ⟨a, b, rfl, rfl⟩, q⟩ := h
    refine ⟨_, (pss_cons (ps_par (i := 0) (j := 1) (by rfl) scGcd.nd rfl rfl (by decide) rfl rfl (pa_cons (pe_callB call_abs (by rfl) T.zabs (by decide +kernel) (pa_cons (pv 0) pa_nil)) (pa_cons (pe_callB call_abs (by rfl) T.zabs (by decide +kernel) (pa_cons (pv 1) pa_nil)) pa_nil)) (by rfl))
      (pss_cons (ps_while PassesOwn.never (pt_cmpR op_ne (pv 1) pe_int (nomark _)) (pss_one (ps_par (i := 0) (j := 1) (by rfl) scGcd.nd rfl rfl (by decide) rfl rfl (pa_cons (pv 1) (pa_cons (pe_op op_mod (pv 0) (pv 1)) pa_nil)) (by rfl))))
      (pss_one (ps_ret (pv 0))))), ?_⟩
    refine q_par (ea_cons (ev_abs (ev_var rfl)) (ea_cons (ev_abs (ev_var rfl)) ea_nil)) fun H1 e1 => ?_
    refine q_while (fun m σ' H' => ∃ x y : Int, σ' = [some (.int x), some (.int y)] ∧ 0 ≤ x ∧ 0 ≤ y ∧ m = y.toNat ∧ G x y = G a b ∧ Ex H H') (if b < 0 then -b else b).toNat
      ⟨_, _, rfl, (by split <;> omega), (by split <;> omega), rfl, G_abs a b, e1⟩ fun m σ' H' hw => ?_
    obtain ⟨x, y, rfl, hx, hy, rfl, hg, e2⟩ := hw
    refine ⟨!decide (V.int y = V.int 0), et_test (ev_op (ev_var rfl) ev_c (rv_ne rfl)), fun hb H2 e3 => ?_, fun hb H2 e3 => ?_⟩
    · have hy0 : y ≠ 0 := fun z => by
        rw [z] at hb
        simp at hb
      refine ⟨fun σ2 H2 => ∃ m', m' < y.toNat ∧ ∃ x y : Int, σ2 = [some (.int x), some (.int y)] ∧ 0 ≤ x ∧ 0 ≤ y ∧ m' = y.toNat ∧ G x y = G a b ∧ Ex H H2, fun σ2 H2 h => h, ?_⟩
      refine s_par (ea_cons (ev_var rfl) (ea_cons (ev_I (ev_var rfl) (ev_var rfl) (by omega)) ea_nil)) fun H3 e4 => ?_
      have l1 := Int.emod_nonneg x hy0
      have l2 := Int.emod_lt_of_pos x (show 0 < y by omega)
      exact ⟨(x % y).toNat, by omega, y, x % y, rfl, hy, l1, rfl, (G_step hx (by omega)).trans hg, (e2.trans e3).trans e4⟩
    · have hy0 : y = 0 := by
        apply Classical.byContradiction
        intro z
        rw [show decide (V.int y = V.int 0) = false from decide_eq_false fun e => z (V.int.inj e)] at hb
        cases hb
      subst hy0
      rw [G_zero hx] at hg
      subst hg
      exact s_ret (ev_var rfl) fun H3 e4 => q H3 ((e2.trans e3).trans e4)
theorem ok_sign (T : Tx K mg) : FnOk P w K mg base CX0 1 (T.ad 4) (T.fd 4) pSign spSign := by
  refine T.dSign.F.ok scSign (fun vs H Q E h => ?_) (fun cdv A outer s H vs Q E hr h => ?_)
  · obtain ⟨_, ⟨n, rfl, _⟩, _⟩ := h
    rfl
  · obtain ⟨_, ⟨n, rfl, rfl⟩, q⟩ := h
    refine ⟨_, (pss_one (ps_ret (pe_op op_subB (pe_cmpR op_gt (pv 0) pe_int (nomark _)) (pe_cmpR op_lt (pv 0) pe_int (nomark _))))), ?_⟩
    have e := ev_op (ev_I0 (σ := start nSign [.int n]) (H := H) (g := fun i j => .bl (decide (j < i))) (ev_var (i := 0) rfl) (ev_c (v := .int 0))) (ev_I0 (g := fun i j => .bl (decide (i < j))) (ev_var (i := 0) rfl) (ev_c (v := .int 0))) rv_subB
    refine s_ret (ev_is e ?_) q
    rcases sgn_cases n with ⟨h, z⟩ | ⟨h, z⟩ | ⟨h, z⟩
    · rw [z, decide_eq_true h, decide_eq_false (show ¬ n < 0 by omega)]
      rfl
    · rw [z, decide_eq_true h, decide_eq_false (show ¬ 0 < n by omega)]
      rfl
    · rw [z, decide_eq_false (show ¬ n < 0 by omega), decide_eq_false (show ¬ 0 < n by omega)]
      rfl
theorem ok_lgcd (T : Tx K mg) : FnOk P w K mg base CX0 1 (T.ad 25) (T.fd 25) pLGcd spGcd := by
  refine T.dLGcd.F.ok scLGcd (fun vs H Q E h => ?_) (fun cdv A outer s H vs Q E hr h => ?_)
  · obtain ⟨_, ⟨a, b, rfl, _⟩, _⟩ := h
    rfl
  · obtain ⟨_, ⟨a, b, rfl, rfl⟩, q⟩ := h
    refine ⟨_, (pss_cons (ps_par (i := 0) (j := 1) (by rfl) scLGcd.nd rfl rfl (by decide) rfl rfl (pa_cons (pe_callB call_abs (by rfl) T.zabs (by decide +kernel) (pa_cons (pv 0) pa_nil)) (pa_cons (pe_callB call_abs (by rfl) T.zabs (by decide +kernel) (pa_cons (pv 1) pa_nil)) pa_nil)) (by rfl))
      (pss_cons (ps_while PassesOwn.never (pt_cmpR op_ne (pv 1) pe_int (nomark _)) (pss_one (ps_par (i := 0) (j := 1) (by rfl) scLGcd.nd rfl rfl (by decide) rfl rfl (pa_cons (pv 1) (pa_cons (pe_op op_mod (pe_callTy call_int1 (by rfl) T.zint (by decide +kernel) (pa_cons (pv 0) pa_nil)) (pv 1)) pa_nil)) (by rfl))))
      (pss_one (ps_ret (pv 0))))), ?_⟩
    refine q_par (ea_cons (ev_abs (ev_var rfl)) (ea_cons (ev_abs (ev_var rfl)) ea_nil)) fun H1 e1 => ?_
    refine q_while (fun m σ' H' => ∃ x y : Int, σ' = [some (.int x), some (.int y)] ∧ 0 ≤ x ∧ 0 ≤ y ∧ m = y.toNat ∧ G x y = G a b ∧ Ex H H') (if b < 0 then -b else b).toNat
      ⟨_, _, rfl, (by split <;> omega), (by split <;> omega), rfl, G_abs a b, e1⟩ fun m σ' H' hw => ?_
    obtain ⟨x, y, rfl, hx, hy, rfl, hg, e2⟩ := hw
    refine ⟨!decide (V.int y = V.int 0), et_test (ev_op (ev_var rfl) ev_c (rv_ne rfl)), fun hb H2 e3 => ?_, fun hb H2 e3 => ?_⟩
    · have hy0 : y ≠ 0 := fun z => by
        rw [z] at hb
        simp at hb
      refine ⟨fun σ2 H2 => ∃ m', m' < y.toNat ∧ ∃ x y : Int, σ2 = [some (.int x), some (.int y)] ∧ 0 ≤ x ∧ 0 ≤ y ∧ m' = y.toNat ∧ G x y = G a b ∧ Ex H H2, fun σ2 H2 h => h, ?_⟩
      refine s_par (ea_cons (ev_var rfl) (ea_cons (ev_I (ev_int (ev_var rfl)) (ev_var rfl) (by omega)) ea_nil)) fun H3 e4 => ?_
      have l1 := Int.emod_nonneg x hy0
      have l2 := Int.emod_lt_of_pos x (show 0 < y by omega)
      exact ⟨(x % y).toNat, by omega, y, x % y, rfl, hy, l1, rfl, (G_step hx (by omega)).trans hg, (e2.trans e3).trans e4⟩
    · have hy0 : y = 0 := by
        apply Classical.byContradiction
        intro z
        rw [show decide (V.int y = V.int 0) = false from decide_eq_false fun e => z (V.int.inj e)] at hb
        cases hb
      subst hy0
      rw [G_zero hx] at hg
      subst hg
      exact s_ret (ev_var rfl) fun H3 e4 => q H3 ((e2.trans e3).trans e4)
theorem ok_lsign (T : Tx K mg) : FnOk P w K mg base CX0 1 (T.ad 33) (T.fd 33) pLSign spSign := by
  refine T.dLSign.F.ok scLSign (fun vs H Q E h => ?_) (fun cdv A outer s H vs Q E hr h => ?_)
  · obtain ⟨_, ⟨n, rfl, _⟩, _⟩ := h
    rfl
  · obtain ⟨_, ⟨n, rfl, rfl⟩, q⟩ := h
    refine ⟨_, (pss_one (ps_ret (pe_ifExp (pt_cmpR op_gt (pv 0) pe_int (nomark _)) pe_int (pe_ifExp (pt_cmpR op_lt (pv 0) pe_int (nomark _)) (pe_un un_neg pe_int) pe_int)))), ?_⟩
    refine s_ret (v := .int (sgn n)) (ev_if (et_test (ev_I0 (g := fun i j => .bl (decide (j < i))) (ev_var rfl) ev_c)) (fun hb => ?_) (fun hb => ev_if (et_test (ev_I0 (g := fun i j => .bl (decide (i < j))) (ev_var rfl) ev_c)) (fun hb2 => ?_) (fun hb2 => ?_))) q
    · rw [sgn_pos (of_decide_eq_true hb)]
      exact ev_c
    · rw [sgn_neg (of_decide_eq_true hb2)]
      exact ev_un ev_c ru_neg
    · have h1 := of_decide_eq_false hb
      have h2 := of_decide_eq_false hb2
      rw [show n = 0 by omega]
      exact ev_c
theorem ok_red (T : Tx K mg) : FnOk P w K mg base CX0 2 (T.ad 3) (T.fd 3) pReduced spRed := by
  have GGcd : FnOk P w K mg base CX0 1 (T.ad 2) (T.fd 2) pGcd spGcd := ok_gcd T
  refine T.dReduced.F.ok scReduced (fun vs H Q E h => ?_) (fun cdv A outer s H vs Q E hr h => ?_)
  · obtain ⟨_, ⟨n, d, rfl, _⟩, _⟩ := h
    rfl
  · obtain ⟨_, ⟨n, d, rfl, hd, rfl⟩, q⟩ := h
    refine ⟨_, (pss_cons (ps_set (i := 2) scReduced.nd rfl (.inl rfl) (pe_call GGcd (hr.mono (by decide)) (by rfl) T.dGcd.m T.dGcd.F.kp T.dGcd.b .nil pass0 (pa_cons (pv 0) (pa_cons (pv 1) pa_nil))))
      (pss_cons (ps_if (pt_cmpR op_lt (pv 1) pe_int (nomark _)) (pss_one (ps_set (i := 2) scReduced.nd rfl (.inl rfl) (pe_un un_neg (pv 2)))) pss_nil)
      (pss_one (ps_ret (pe_tup (pa_cons (pe_op op_fdivW (pv 0) (pv 2)) (pa_cons (pe_op op_fdivW (pv 1) (pv 2)) pa_nil))))))), ?_⟩
    have g0 := G_pos (x := n) hd.1
    have g1 := G_le (x := n) hd.1
    refine q_asg (ev_callV (ea_cons (ev_var rfl) (ea_cons (ev_var rfl) ea_nil)) fun H' _ => ⟨n, d, rfl, rfl⟩) fun H1 e1 => ?_
    refine q_when (et_test (ev_I0 (g := fun i j => .bl (decide (i < j))) (ev_var rfl) ev_c)) (fun hb H2 e2 => ?_) (fun hb H2 e2 => ?_)
    · have := of_decide_eq_true hb
      omega
    · refine s_retU (eu_tup (ea_cons (ev_I (ev_var rfl) (ev_var rfl) (cdiv ⟨g0, by omega⟩)) (ea_cons (ev_I (ev_var rfl) (ev_var rfl) (cdiv ⟨g0, by omega⟩)) ea_nil)) (by show 2 ≤ 100000; decide)) fun p H3 hn e3 hp => ?_
      exact q p H3 (fresh_back (e1.trans e2) hn) ((e1.trans e2).trans e3) hp
theorem ok_lred (T : Tx K mg) : FnOk P w K mg base CX0 2 (T.ad 29) (T.fd 29) pLRatio spRed := by
  have GLGcd : FnOk P w K mg base CX0 1 (T.ad 25) (T.fd 25) pLGcd spGcd := ok_lgcd T
  refine T.dLRatio.F.ok scLRatio (fun vs H Q E h => ?_) (fun cdv A outer s H vs Q E hr h => ?_)
  · obtain ⟨_, ⟨n, d, rfl, _⟩, _⟩ := h
    rfl
  · obtain ⟨_, ⟨n, d, rfl, hd, rfl⟩, q⟩ := h
    refine ⟨_, (pss_cons (ps_set (i := 2) scLRatio.nd rfl (.inl rfl) (pe_call GLGcd (hr.mono (by decide)) (by rfl) T.dLGcd.m T.dLGcd.F.kp T.dLGcd.b .nil pass0 (pa_cons (pv 0) (pa_cons (pv 1) pa_nil))))
      (pss_cons (ps_set (i := 2) scLRatio.nd rfl (.inl rfl) (pe_ifExp (pt_cmpR op_lt (pv 1) pe_int (nomark _)) (pe_op op_sub pe_int (pv 2)) (pv 2)))
      (pss_one (ps_ret (pe_tup (pa_cons (pe_op op_fdivW (pv 0) (pv 2)) (pa_cons (pe_op op_fdivW (pv 1) (pv 2)) pa_nil))))))), ?_⟩
    have g0 := G_pos (x := n) hd.1
    have g1 := G_le (x := n) hd.1
    refine q_asg (ev_callV (ea_cons (ev_var rfl) (ea_cons (ev_var rfl) ea_nil)) fun H' _ => ⟨n, d, rfl, rfl⟩) fun H1 e1 => ?_
    refine q_asg (v := .int (G n d)) (ev_if (et_test (ev_I0 (g := fun i j => .bl (decide (i < j))) (ev_var rfl) ev_c)) (fun hb => ?_) (fun hb => ev_var rfl)) fun H2 e2 => ?_
    · have := of_decide_eq_true hb
      omega
    · refine s_retU (eu_tup (ea_cons (ev_I (ev_var rfl) (ev_var rfl) (cdiv ⟨g0, by omega⟩)) (ea_cons (ev_I (ev_var rfl) (ev_var rfl) (cdiv ⟨g0, by omega⟩)) ea_nil)) (by show 2 ≤ 100000; decide)) fun p H3 hn e3 hp => ?_
      exact q p H3 (fresh_back (e1.trans e2) hn) ((e1.trans e2).trans e3) hp
theorem ok_llow (T : Tx K mg) : FnOk P w K mg base CX0 2 (T.ad 26) (T.fd 26) pLLowest spLow := by
  have GLGcd : FnOk P w K mg base CX0 1 (T.ad 25) (T.fd 25) pLGcd spGcd := ok_lgcd T
  refine T.dLLowest.F.ok scLLowest (fun vs H Q E h => ?_) (fun cdv A outer s H vs Q E hr h => ?_)
  · obtain ⟨_, ⟨x, y, z, rfl, _⟩, _⟩ := h
    rfl
  · obtain ⟨_, ⟨x, y, z, rfl, hd, rfl⟩, q⟩ := h
    refine ⟨_, (pss_cons (ps_set (i := 3) scLLowest.nd rfl (.inl rfl) (pe_call GLGcd (hr.mono (by decide)) (by rfl) T.dLGcd.m T.dLGcd.F.kp T.dLGcd.b .nil pass0 (pa_cons (pe_call GLGcd (hr.mono (by decide)) (by rfl) T.dLGcd.m T.dLGcd.F.kp T.dLGcd.b .nil pass0 (pa_cons (pv 0) (pa_cons (pv 1) pa_nil))) (pa_cons (pv 2) pa_nil))))
      (pss_cons (ps_set (i := 3) scLLowest.nd rfl (.inl rfl) (pe_ifExp (pt_cmpR op_lt (pv 2) pe_int (nomark _)) (pe_op op_sub pe_int (pv 3)) (pv 3)))
      (pss_one (ps_ret (pe_tup (pa_cons (pe_op op_fdivW (pv 0) (pv 3)) (pa_cons (pe_op op_fdivW (pv 1) (pv 3)) (pa_cons (pe_op op_fdivW (pv 2) (pv 3)) pa_nil)))))))), ?_⟩
    have g0 := G_pos (x := G x y) hd.1
    have g1 := G_le (x := G x y) hd.1
    refine q_asg (ev_callV (ea_cons (ev_callV (ea_cons (ev_var rfl) (ea_cons (ev_var rfl) ea_nil)) fun H' _ => ⟨x, y, rfl, rfl⟩) (ea_cons (ev_var rfl) ea_nil)) fun H' _ => ⟨G x y, z, rfl, rfl⟩) fun H1 e1 => ?_
    refine q_asg (v := .int (G (G x y) z)) (ev_if (et_test (ev_I0 (g := fun i j => .bl (decide (i < j))) (ev_var rfl) ev_c)) (fun hb => ?_) (fun hb => ev_var rfl)) fun H2 e2 => ?_
    · have := of_decide_eq_true hb
      omega
    · have cd : ∀ i : Int, CDivW i (G (G x y) z) := fun i => cdiv ⟨g0, by omega⟩
      refine s_retU (eu_tup (ea_cons (ev_I (ev_var rfl) (ev_var rfl) (cd _)) (ea_cons (ev_I (ev_var rfl) (ev_var rfl) (cd _)) (ea_cons (ev_I (ev_var rfl) (ev_var rfl) (cd _)) ea_nil))) (by show 3 ≤ 100000; decide)) fun p H3 hn e3 hp => ?_
      exact q p H3 (fresh_back (e1.trans e2) hn) ((e1.trans e2).trans e3) hp
end
end K1

set_option maxHeartbeats 4000000
/-! The defs upon points: the program's and the law's own. -/
namespace K1
open PySem PySem.Spec PyProof.Rows L2 Evl
/-! ### promises upon two and three points -/
def R2p (f : Pt → Pt → V) : List V → Hp → V → Prop := fun vs H v => ∃ (p q : Addr) (a b : Pt), vs = [.ref p, .ref q] ∧ At H p a ∧ At H q b ∧ v = f a b
def R3p (f : Pt → Pt → Pt → V) : List V → Hp → V → Prop := fun vs H v => ∃ (p q r : Addr) (a b c : Pt), vs = [.ref p, .ref q, .ref r] ∧ At H p a ∧ At H q b ∧ At H r c ∧ v = f a b c
def U3p (f : Pt → Pt → Pt → List V) : List V → Hp → List V → Prop := fun vs H xs => ∃ (p q r : Addr) (a b c : Pt), vs = [.ref p, .ref q, .ref r] ∧ At H p a ∧ At H q b ∧ At H r c ∧ xs = f a b c
def spIsPoint : Sp := spV fun vs H v => ∃ (p : Addr) (a : Pt), vs = [.ref p] ∧ At H p a ∧ v = .bl true
def spNeedPoint : Sp := spV fun vs H v => ∃ (p : Addr) (a : Pt), vs = [.ref p] ∧ At H p a ∧ v = .non
def spNeedAll : Sp := spV fun vs H v => ∃ (l p q r : Addr) (a b c : Pt), vs = [.ref l] ∧ H l = some (.lst [.ref p, .ref q, .ref r]) ∧ At H p a ∧ At H q b ∧ At H r c ∧ v = .non
def spOrd : Sp := spV (R2p fun a b => .int (ord a b))
def spD : Sp := spV (R3p fun a b c => .int (D a b c))
def spTurn : Sp := spV (R3p fun a b c => .int (sgn (D a b c)))
def spArea : Sp := spU (U3p fun a b c => P2 (area a b c))
def spBtw : Sp := spV (R3p fun a b c => .bl (btw a b c))
section
variable {K : PySem.W.Frag} {σ : L2.St} {H : Hp} {tA : TA} {E : XK} {p q r : Addr} {a b c : Pt}
theorem ev_2p {f : Pt → Pt → V} {i j : Nat} (h1 : σ[i]? = some (some (.ref p))) (h2 : σ[j]? = some (some (.ref q))) (ha : At H p a) (hb : At H q b) : Ev (tCall (spV (R2p f)) [] E (tCons (tVar i) (tCons (tVar j) tNil))) σ H (f a b) :=
  ev_callV (ea_cons (ev_var h1) (ea_cons (ev_var h2) ea_nil)) fun H' e => ⟨p, q, a, b, rfl, ha.ex e, hb.ex e, rfl⟩
theorem ev_3p {f : Pt → Pt → Pt → V} {i j k : Nat} (h1 : σ[i]? = some (some (.ref p))) (h2 : σ[j]? = some (some (.ref q))) (h3 : σ[k]? = some (some (.ref r))) (ha : At H p a) (hb : At H q b) (hc : At H r c) :
    Ev (tCall (spV (R3p f)) [] E (tCons (tVar i) (tCons (tVar j) (tCons (tVar k) tNil)))) σ H (f a b c) :=
  ev_callV (ea_cons (ev_var h1) (ea_cons (ev_var h2) (ea_cons (ev_var h3) ea_nil))) fun H' e => ⟨p, q, r, a, b, c, rfl, ha.ex e, hb.ex e, hc.ex e, rfl⟩
theorem eu_3p {f : Pt → Pt → Pt → List V} {i j k : Nat} (h1 : σ[i]? = some (some (.ref p))) (h2 : σ[j]? = some (some (.ref q))) (h3 : σ[k]? = some (some (.ref r))) (ha : At H p a) (hb : At H q b) (hc : At H r c) :
    EvU (tCall (spU (U3p f)) [] E (tCons (tVar i) (tCons (tVar j) (tCons (tVar k) tNil)))) σ H (f a b c) :=
  eu_callU (ea_cons (ev_var h1) (ea_cons (ev_var h2) (ea_cons (ev_var h3) ea_nil))) fun H' e => ⟨p, q, r, a, b, c, rfl, ha.ex e, hb.ex e, hc.ex e, rfl⟩
/-- need_all([a, b, c]) -/
theorem ev_need {i j k : Nat} (h1 : σ[i]? = some (some (.ref p))) (h2 : σ[j]? = some (some (.ref q))) (h3 : σ[k]? = some (some (.ref r))) (ha : At H p a) (hb : At H q b) (hc : At H r c) :
    Ev (tCall spNeedAll [] E (tCons (tLst (tCons (tVar i) (tCons (tVar j) (tCons (tVar k) tNil)))) tNil)) σ H .non :=
  ev_callP (ap_L (el_lst (ea_cons (ev_var h1) (ea_cons (ev_var h2) (ea_cons (ev_var h3) ea_nil))) (by show 3 ≤ 100000; decide)) ap_nil) fun vs H' e hp => by
    obtain ⟨l, _, rfl, hl, rfl⟩ := hp
    exact ⟨l, p, q, r, a, b, c, rfl, hl, ha.ex e, hb.ex e, hc.ex e, rfl⟩
end
/-- the length of a tuple -/
theorem ev_lenT {K : PySem.W.Frag} {σ : L2.St} {H : Hp} {ta : TE} {p : Addr} {xs : List V} (ha : Ev ta σ H (.ref p)) (h : SqT K H p xs) : Ev (tCB (rLenS K) (tCons ta tNil)) σ H (.int (xs.length : Int)) := fun H1 e Q q =>
  ha H1 e _ fun H2 e2 => ⟨p, xs, rfl, Or.inr (ex_t (e.trans e2) h), q H2 e2⟩
section
variable {P : Program} {w : World} {K : PySem.W.Frag} {mg : Str → Option Value} {base : Heap}
theorem ok_ispoint (T : Tx K mg) : FnOk P w K mg base CX0 2 (T.ad 10) (T.fd 10) pIsPoint spIsPoint := by
  have GIsIn : FnOk P w K mg base CX0 1 (T.ad 1) (T.fd 1) pIsIn spIsIn := ok_isin T
  have GGcd : FnOk P w K mg base CX0 1 (T.ad 2) (T.fd 2) pGcd spGcd := ok_gcd T
  obtain ⟨t, zL⟩ := T.zL
  refine T.dIsPoint.F.ok scIsPoint (fun vs H Q E h => ?_) (fun cdv A outer s H vs Q E hr h => ?_)
  · obtain ⟨_, ⟨p, a, rfl, _⟩, _⟩ := h
    rfl
  · obtain ⟨_, ⟨p, a, rfl, ha, rfl⟩, q⟩ := h
    refine ⟨_, (pss_cons (ps_if (PW.pt (pw_or (pt_not (pt_val (pe_callB call_isi (by rfl) T.zisinstance (by decide +kernel) (pa_cons (pv 0) (pa_cons (pe_bltn (v := .ty "tuple") (by rfl) T.ztuple (by decide +kernel) rfl) pa_nil))))) (pw_or1 (pt_cmpR op_ne (pe_callB call_len_seq (by rfl) T.zlen PySem.boot_len (pa_cons (pv 0) pa_nil)) pe_int (nomark _))))) (pss_one (ps_ret pe_bl)) pss_nil)
      (pss_cons (ps_if (PW.pt (pw_or (pt_not (pt_val (pe_call GIsIn (hr.mono (by decide)) (by rfl) T.dIsIn.m T.dIsIn.F.kp T.dIsIn.b .nil pass0 (pa_cons (pe_ix ix_tup (pv 0) pe_int (fun _ _ => rfl)) (pa_cons (pe_un un_neg (pe_glob (v := .int 1000000000000) (by rfl) zL ⟨_, rfl⟩)) (pa_cons (pe_glob (v := .int 1000000000000) (by rfl) zL ⟨_, rfl⟩) pa_nil)))))) (pw_or1 (pt_not (pt_val (pe_call GIsIn (hr.mono (by decide)) (by rfl) T.dIsIn.m T.dIsIn.F.kp T.dIsIn.b .nil pass0 (pa_cons (pe_ix ix_tup (pv 0) pe_int (fun _ _ => rfl)) (pa_cons (pe_un un_neg (pe_glob (v := .int 1000000000000) (by rfl) zL ⟨_, rfl⟩)) (pa_cons (pe_glob (v := .int 1000000000000) (by rfl) zL ⟨_, rfl⟩) pa_nil))))))))) (pss_one (ps_ret pe_bl)) pss_nil)
      (pss_one (ps_ret (pe_and (pe_call GIsIn (hr.mono (by decide)) (by rfl) T.dIsIn.m T.dIsIn.F.kp T.dIsIn.b .nil pass0 (pa_cons (pe_ix ix_tup (pv 0) pe_int (fun _ _ => rfl)) (pa_cons pe_int (pa_cons (pe_glob (v := .int 1000000000000) (by rfl) zL ⟨_, rfl⟩) pa_nil)))) (pe_one (pe_cmpR op_eq (pe_call GGcd (hr.mono (by decide)) (by rfl) T.dGcd.m T.dGcd.F.kp T.dGcd.b .nil pass0 (pa_cons (pe_call GGcd (hr.mono (by decide)) (by rfl) T.dGcd.m T.dGcd.F.kp T.dGcd.b .nil pass0 (pa_cons (pe_ix ix_tup (pv 0) pe_int (fun _ _ => rfl)) (pa_cons (pe_ix ix_tup (pv 0) pe_int (fun _ _ => rfl)) pa_nil))) (pa_cons (pe_ix ix_tup (pv 0) pe_int (fun _ _ => rfl)) pa_nil))) pe_int (nomark _)))))))), ?_⟩
    have hb := ha.b
    have hw := ha.ok.w
    have isT : Ev (tCB (rIsi K) (tCons (tVar 0) (tCons (tC (.ty "tuple")) tNil))) (start nIsPoint [.ref p]) H (.bl true) :=
      ev_isi (i := 0) (K := K) (c := "tuple") rfl (fun H1 e => .base (.tup (e _ _ ha.h))) (kit_ty (b := "tuple") (r := true) (by decide +kernel))
    have range : ∀ {H1 : Hp} {x : Int} {te : TE}, Ev te (start nIsPoint [.ref p]) H1 (.int x) → -1000000000000 ≤ x ∧ x ≤ 1000000000000 → ∀ E, Ev (tCall spIsIn [] E (tCons te (tCons (tUn (rU fun i => .int (-i)) (tC (.int 1000000000000))) (tCons (tC (.int 1000000000000)) tNil)))) (start nIsPoint [.ref p]) H1 (.bl true) :=
      fun he hx E => ev_callV (ea_cons he (ea_cons (ev_un ev_c ru_neg) (ea_cons ev_c ea_nil))) fun H' _ => ⟨_, _, _, rfl, by rw [decide_eq_true hx.1, decide_eq_true hx.2]; rfl⟩
    -- a tuple of three
    refine q_when (b := false) (et_is (et_or (et_not (et_B isT)) (fun _ => et_test (ev_op (ev_lenT (ev_var rfl) (st_of ha.h)) ev_c (rv_ne rfl)))) rfl) (fun hb => nomatch hb) fun _ H1 e1 => ?_
    refine q_when (b := false) (et_is (et_or (et_not (et_B (range (ev_0 rfl (ha.ex e1)) (by omega) _))) (fun _ => et_not (et_B (range (ev_1 rfl (ha.ex e1)) (by omega) _)))) (by decide)) (fun hb => nomatch hb) fun _ H2 e2 => ?_
    have ha2 := ha.ex (e1.trans e2)
    refine s_ret (ev_is (ev_andV (a := true) (b := true) (ev_callV (ea_cons (ev_2 rfl ha2) (ea_cons ev_c (ea_cons ev_c ea_nil))) fun H' _ => ⟨_, _, _, rfl, by rw [decide_eq_true (show 1 ≤ a.w by omega), decide_eq_true (show a.w ≤ 1000000000000 by omega)]; rfl⟩)
      (fun _ => ev_is (ev_op (ev_callV (ea_cons (ev_callV (ea_cons (ev_0 rfl ha2) (ea_cons (ev_1 rfl ha2) ea_nil)) fun H' _ => ⟨a.x, a.y, rfl, rfl⟩) (ea_cons (ev_2 rfl ha2) ea_nil)) fun H' _ => ⟨_, a.w, rfl, rfl⟩) ev_c (rv_eq rfl)) ?_)) rfl) fun H3 e3 => q H3 ((e1.trans e2).trans e3)
    rw [ha2.ok.g, decide_eq_true rfl]
theorem ok_needpoint (T : Tx K mg) : FnOk P w K mg base CX0 3 (T.ad 11) (T.fd 11) pNeedPoint spNeedPoint := by
  have GIsPoint : FnOk P w K mg base CX0 2 (T.ad 10) (T.fd 10) pIsPoint spIsPoint := ok_ispoint T
  refine T.dNeedPoint.F.ok scNeedPoint (fun vs H Q E h => ?_) (fun cdv A outer s H vs Q E hr h => ?_)
  · obtain ⟨_, ⟨p, a, rfl, _⟩, _⟩ := h
    rfl
  · obtain ⟨_, ⟨p, a, rfl, ha, rfl⟩, q⟩ := h
    refine ⟨_, (pss_one (ps_if (pt_not (pt_val (pe_call GIsPoint (hr.mono (by decide)) (by rfl) T.dIsPoint.m T.dIsPoint.F.kp T.dIsPoint.b .nil pass0 (pa_cons (pv 0) pa_nil)))) (pss_one ps_never) pss_nil)), ?_⟩
    exact s_when (b := false) (et_not (et_B (ev_callV (v := .bl true) (ea_cons (ev_var rfl) ea_nil) fun H' e => ⟨p, a, rfl, ha.ex e, rfl⟩))) (fun hb => nomatch hb) fun _ H1 e1 => q H1 e1
theorem ok_needall (T : Tx K mg) : FnOk P w K mg base CX0 4 (T.ad 12) (T.fd 12) pNeedAll spNeedAll := by
  have GNeedPoint : FnOk P w K mg base CX0 3 (T.ad 11) (T.fd 11) pNeedPoint spNeedPoint := ok_needpoint T
  refine T.dNeedAll.F.ok scNeedAll (fun vs H Q E h => ?_) (fun cdv A outer s H vs Q E hr h => ?_)
  · obtain ⟨_, ⟨l, p, q, r, a, b, c, rfl, _⟩, _⟩ := h
    rfl
  · obtain ⟨_, ⟨l, p, q, r, a, b, c, rfl, hl, ha, hb, hc, rfl⟩, k⟩ := h
    refine ⟨_, (pss_one (ps_for PassesOwn.never rfl (pi_list (pv 0)) (pg_name (i := 1) scNeedAll.nd rfl (.inl rfl)) (pss_one (ps_expr (pe_call GNeedPoint (hr.mono (by decide)) (by rfl) T.dNeedPoint.m T.dNeedPoint.F.kp T.dNeedPoint.b .nil pass0 (pa_cons (pv 1) pa_nil)))))), ?_⟩
    refine s_forLn (ev_var rfl) (sq_of hl) (fun i σ' H' => (∃ y, σ' = [some (.ref l), y]) ∧ Ex H H') (fun H1 e1 => ⟨⟨_, rfl⟩, e1⟩) (fun i σ' H' _ h => sq_of (h.2 _ _ hl)) (fun i x σ' H' hi h => ?_) fun σ' H' h => k H' h.2
    obtain ⟨⟨y, rfl⟩, e⟩ := h
    obtain ⟨u, d, rfl, hd⟩ : ∃ (u : Addr) (d : Pt), x = .ref u ∧ At H u d := by
      match i, hi with
      | 0, hi => cases hi; exact ⟨_, _, rfl, ha⟩
      | 1, hi => cases hi; exact ⟨_, _, rfl, hb⟩
      | 2, hi => cases hi; exact ⟨_, _, rfl, hc⟩
      | n + 3, hi => simp at hi
    exact s_drop (v := .non) (ev_callV (ea_cons (ev_var rfl) ea_nil) fun H1 e1 => ⟨u, d, rfl, (hd.ex e).ex e1, rfl⟩) fun H1 e1 => ⟨⟨_, rfl⟩, e.trans e1⟩
end
end K1

set_option maxHeartbeats 4000000
/-! Order, turns, areas, between: the program's and the law's own. -/
namespace K1
open PySem PySem.Spec PyProof.Rows L2 Evl
theorem int_ne {x : Int} (h : (!decide (V.int x = V.int 0)) = true) : x ≠ 0 := fun z => by
  rw [z, decide_eq_true rfl] at h
  cases h
theorem int_eq {x : Int} (h : (!decide (V.int x = V.int 0)) = false) : x = 0 := by
  apply Classical.byContradiction
  intro z
  rw [decide_eq_false (fun e => z (V.int.inj e))] at h
  cases h
theorem dec_z {x : Int} : decide (V.int x = V.int 0) = decide (x = 0) := decide_eq_decide.mpr ⟨fun e => V.int.inj e, fun e => by rw [e]⟩
/-- sizes of differences of products -/
theorem abs_mul {x y a b : Int} (ha : -a ≤ x ∧ x ≤ a) (hb : -b ≤ y ∧ y ≤ b) (h0 : 0 ≤ a) (h1 : 0 ≤ b) : -(a * b) ≤ x * y ∧ x * y ≤ a * b := by
  have h := Nat.mul_le_mul (show x.natAbs ≤ a.natAbs by omega) (show y.natAbs ≤ b.natAbs by omega)
  rw [← Int.natAbs_mul, ← Int.natAbs_mul] at h
  have := Int.mul_nonneg h0 h1
  omega
section
variable {P : Program} {w : World} {K : PySem.W.Frag} {mg : Str → Option Value} {base : Heap}
theorem ok_order (T : Tx K mg) : FnOk P w K mg base CX0 2 (T.ad 13) (T.fd 13) pOrderOf spOrd := by
  have GSign : FnOk P w K mg base CX0 1 (T.ad 4) (T.fd 4) pSign spSign := ok_sign T
  refine T.dOrderOf.F.ok scOrderOf (fun vs H Q E h => ?_) (fun cdv A outer s H vs Q E hr h => ?_)
  · obtain ⟨_, ⟨p, q, a, b, rfl, _⟩, _⟩ := h
    rfl
  · obtain ⟨_, ⟨p, q, a, b, rfl, ha, hb, rfl⟩, k⟩ := h
    refine ⟨_, (pss_cons (ps_set (i := 2) scOrderOf.nd rfl (.inl rfl) (pe_call GSign (hr.mono (by decide)) (by rfl) T.dSign.m T.dSign.F.kp T.dSign.b .nil pass0 (pa_cons (pe_op op_sub (pe_op op_mul (pe_ix ix_tup (pv 0) pe_int (fun _ _ => rfl)) (pe_ix ix_tup (pv 1) pe_int (fun _ _ => rfl))) (pe_op op_mul (pe_ix ix_tup (pv 1) pe_int (fun _ _ => rfl)) (pe_ix ix_tup (pv 0) pe_int (fun _ _ => rfl)))) pa_nil)))
      (pss_one (ps_ret (pe_ifExp (pt_cmpR op_ne (pv 2) pe_int (nomark _)) (pv 2) (pe_call GSign (hr.mono (by decide)) (by rfl) T.dSign.m T.dSign.F.kp T.dSign.b .nil pass0 (pa_cons (pe_op op_sub (pe_op op_mul (pe_ix ix_tup (pv 0) pe_int (fun _ _ => rfl)) (pe_ix ix_tup (pv 1) pe_int (fun _ _ => rfl))) (pe_op op_mul (pe_ix ix_tup (pv 1) pe_int (fun _ _ => rfl)) (pe_ix ix_tup (pv 0) pe_int (fun _ _ => rfl)))) pa_nil)))))), ?_⟩
    have ba := ha.b
    have bb := hb.b
    refine q_asg (ev_callV (ea_cons (ev_I0 (ev_I (ev_0 rfl ha) (ev_2 rfl hb) (cmul_l (by omega))) (ev_I (ev_0 rfl hb) (ev_2 rfl ha) (cmul_l (by omega)))) ea_nil) fun H' _ => ⟨_, rfl, rfl⟩) fun H1 e1 => ?_
    refine s_ret (v := .int (ord a b)) (ev_if (et_test (ev_op (ev_var rfl) ev_c (rv_ne rfl))) (fun hc => ?_) (fun hc => ?_)) fun H2 e2 => k H2 (e1.trans e2)
    · have z := int_ne hc
      unfold ord
      rw [if_pos z]
      exact ev_var rfl
    · have z := int_eq hc
      unfold ord
      rw [if_neg (fun y => y z)]
      exact ev_callV (ea_cons (ev_I0 (ev_I (ev_1 rfl (ha.ex e1)) (ev_2 rfl (hb.ex e1)) (cmul_l (by omega))) (ev_I (ev_1 rfl (hb.ex e1)) (ev_2 rfl (ha.ex e1)) (cmul_l (by omega)))) ea_nil) fun H' _ => ⟨_, rfl, rfl⟩
theorem ok_lorder (T : Tx K mg) : FnOk P w K mg base CX0 2 (T.ad 37) (T.fd 37) pLOrder spOrd := by
  have GLSign : FnOk P w K mg base CX0 1 (T.ad 33) (T.fd 33) pLSign spSign := ok_lsign T
  refine T.dLOrder.F.ok scLOrder (fun vs H Q E h => ?_) (fun cdv A outer s H vs Q E hr h => ?_)
  · obtain ⟨_, ⟨p, q, a, b, rfl, _⟩, _⟩ := h
    rfl
  · obtain ⟨_, ⟨p, q, a, b, rfl, ha, hb, rfl⟩, k⟩ := h
    refine ⟨_, (pss_cons (ps_set (i := 2) scLOrder.nd rfl (.inl rfl) (pe_call GLSign (hr.mono (by decide)) (by rfl) T.dLSign.m T.dLSign.F.kp T.dLSign.b .nil pass0 (pa_cons (pe_op op_sub (pe_op op_mul (pe_ix ix_tup (pv 0) pe_int (fun _ _ => rfl)) (pe_ix ix_tup (pv 1) pe_int (fun _ _ => rfl))) (pe_op op_mul (pe_ix ix_tup (pv 1) pe_int (fun _ _ => rfl)) (pe_ix ix_tup (pv 0) pe_int (fun _ _ => rfl)))) pa_nil)))
      (pss_one (ps_ret (pe_ifExp (pt_cmpR op_ne (pv 2) pe_int (nomark _)) (pv 2) (pe_call GLSign (hr.mono (by decide)) (by rfl) T.dLSign.m T.dLSign.F.kp T.dLSign.b .nil pass0 (pa_cons (pe_op op_sub (pe_op op_mul (pe_ix ix_tup (pv 0) pe_int (fun _ _ => rfl)) (pe_ix ix_tup (pv 1) pe_int (fun _ _ => rfl))) (pe_op op_mul (pe_ix ix_tup (pv 1) pe_int (fun _ _ => rfl)) (pe_ix ix_tup (pv 0) pe_int (fun _ _ => rfl)))) pa_nil)))))), ?_⟩
    have ba := ha.b
    have bb := hb.b
    refine q_asg (ev_callV (ea_cons (ev_I0 (ev_I (ev_0 rfl ha) (ev_2 rfl hb) (cmul_l (by omega))) (ev_I (ev_0 rfl hb) (ev_2 rfl ha) (cmul_l (by omega)))) ea_nil) fun H' _ => ⟨_, rfl, rfl⟩) fun H1 e1 => ?_
    refine s_ret (v := .int (ord a b)) (ev_if (et_test (ev_op (ev_var rfl) ev_c (rv_ne rfl))) (fun hc => ?_) (fun hc => ?_)) fun H2 e2 => k H2 (e1.trans e2)
    · have z := int_ne hc
      unfold ord
      rw [if_pos z]
      exact ev_var rfl
    · have z := int_eq hc
      unfold ord
      rw [if_neg (fun y => y z)]
      exact ev_callV (ea_cons (ev_I0 (ev_I (ev_1 rfl (ha.ex e1)) (ev_2 rfl (hb.ex e1)) (cmul_l (by omega))) (ev_I (ev_1 rfl (hb.ex e1)) (ev_2 rfl (ha.ex e1)) (cmul_l (by omega)))) ea_nil) fun H' _ => ⟨_, rfl, rfl⟩
theorem ok_doubled (T : Tx K mg) : FnOk P w K mg base CX0 1 (T.ad 15) (T.fd 15) pDoubled spD := by
  refine T.dDoubled.F.ok scDoubled (fun vs H Q E h => ?_) (fun cdv A outer s H vs Q E hr h => ?_)
  · obtain ⟨_, ⟨p, q, r, a, b, c, rfl, _⟩, _⟩ := h
    rfl
  · obtain ⟨_, ⟨p, q, r, a, b, c, rfl, ha, hb, hc, rfl⟩, k⟩ := h
    refine ⟨_, (pss_cons (ps_set (i := 3) scDoubled.nd rfl (.inl rfl) (pe_op op_mul (pe_ix ix_tup (pv 0) pe_int (fun _ _ => rfl)) (pe_op op_sub (pe_op op_mul (pe_ix ix_tup (pv 1) pe_int (fun _ _ => rfl)) (pe_ix ix_tup (pv 2) pe_int (fun _ _ => rfl))) (pe_op op_mul (pe_ix ix_tup (pv 2) pe_int (fun _ _ => rfl)) (pe_ix ix_tup (pv 1) pe_int (fun _ _ => rfl))))))
      (pss_cons (ps_set (i := 4) scDoubled.nd rfl (.inl rfl) (pe_op op_mul (pe_ix ix_tup (pv 0) pe_int (fun _ _ => rfl)) (pe_op op_sub (pe_op op_mul (pe_ix ix_tup (pv 1) pe_int (fun _ _ => rfl)) (pe_ix ix_tup (pv 2) pe_int (fun _ _ => rfl))) (pe_op op_mul (pe_ix ix_tup (pv 2) pe_int (fun _ _ => rfl)) (pe_ix ix_tup (pv 1) pe_int (fun _ _ => rfl))))))
      (pss_one (ps_ret (pe_op op_add (pe_op op_sub (pv 3) (pv 4)) (pe_op op_mul (pe_ix ix_tup (pv 0) pe_int (fun _ _ => rfl)) (pe_op op_sub (pe_op op_mul (pe_ix ix_tup (pv 1) pe_int (fun _ _ => rfl)) (pe_ix ix_tup (pv 2) pe_int (fun _ _ => rfl))) (pe_op op_mul (pe_ix ix_tup (pv 2) pe_int (fun _ _ => rfl)) (pe_ix ix_tup (pv 1) pe_int (fun _ _ => rfl)))))))))), ?_⟩
    have ba := ha.b
    have bb := hb.b
    have bc := hc.b
    have wa := ha.ok.w
    refine q_asg (ev_I (ev_0 rfl ha) (ev_I0 (ev_I (ev_1 rfl hb) (ev_2 rfl hc) (cmul_l (by omega))) (ev_I (ev_1 rfl hc) (ev_2 rfl hb) (cmul_l (by omega)))) (cmul_l (by omega))) fun H1 e1 => ?_
    have ha1 := ha.ex e1
    have hb1 := hb.ex e1
    have hc1 := hc.ex e1
    refine q_asg (ev_I (ev_1 rfl ha1) (ev_I0 (ev_I (ev_0 rfl hb1) (ev_2 rfl hc1) (cmul_l (by omega))) (ev_I (ev_0 rfl hc1) (ev_2 rfl hb1) (cmul_l (by omega)))) (cmul_l (by omega))) fun H2 e2 => ?_
    have ha2 := ha1.ex e2
    have hb2 := hb1.ex e2
    have hc2 := hc1.ex e2
    exact s_ret (ev_I0 (ev_I0 (ev_var rfl) (ev_var rfl)) (ev_I (ev_2 rfl ha2) (ev_I0 (ev_I (ev_0 rfl hb2) (ev_1 rfl hc2) (cmul_l (by omega))) (ev_I (ev_0 rfl hc2) (ev_1 rfl hb2) (cmul_l (by omega)))) (cmul_l (by omega)))) fun H3 e3 => k H3 ((e1.trans e2).trans e3)
theorem ok_ldoubled (T : Tx K mg) : FnOk P w K mg base CX0 1 (T.ad 34) (T.fd 34) pLDoubled spD := by
  refine T.dLDoubled.F.ok scLDoubled (fun vs H Q E h => ?_) (fun cdv A outer s H vs Q E hr h => ?_)
  · obtain ⟨_, ⟨p, q, r, a, b, c, rfl, _⟩, _⟩ := h
    rfl
  · obtain ⟨_, ⟨p, q, r, a, b, c, rfl, ha, hb, hc, rfl⟩, k⟩ := h
    refine ⟨_, (pss_cons (ps_par (i := 3) (j := 4) (by rfl) scLDoubled.nd rfl rfl (by decide) rfl rfl (pa_cons (pe_op op_sub (pe_op op_mul (pe_ix ix_tup (pv 1) pe_int (fun _ _ => rfl)) (pe_ix ix_tup (pv 0) pe_int (fun _ _ => rfl))) (pe_op op_mul (pe_ix ix_tup (pv 0) pe_int (fun _ _ => rfl)) (pe_ix ix_tup (pv 1) pe_int (fun _ _ => rfl)))) (pa_cons (pe_op op_sub (pe_op op_mul (pe_ix ix_tup (pv 1) pe_int (fun _ _ => rfl)) (pe_ix ix_tup (pv 0) pe_int (fun _ _ => rfl))) (pe_op op_mul (pe_ix ix_tup (pv 0) pe_int (fun _ _ => rfl)) (pe_ix ix_tup (pv 1) pe_int (fun _ _ => rfl)))) pa_nil)) (by rfl))
      (pss_cons (ps_par (i := 5) (j := 6) (by rfl) scLDoubled.nd rfl rfl (by decide) rfl rfl (pa_cons (pe_op op_sub (pe_op op_mul (pe_ix ix_tup (pv 2) pe_int (fun _ _ => rfl)) (pe_ix ix_tup (pv 0) pe_int (fun _ _ => rfl))) (pe_op op_mul (pe_ix ix_tup (pv 0) pe_int (fun _ _ => rfl)) (pe_ix ix_tup (pv 2) pe_int (fun _ _ => rfl)))) (pa_cons (pe_op op_sub (pe_op op_mul (pe_ix ix_tup (pv 2) pe_int (fun _ _ => rfl)) (pe_ix ix_tup (pv 0) pe_int (fun _ _ => rfl))) (pe_op op_mul (pe_ix ix_tup (pv 0) pe_int (fun _ _ => rfl)) (pe_ix ix_tup (pv 2) pe_int (fun _ _ => rfl)))) pa_nil)) (by rfl))
      (pss_one (ps_ret (pe_op op_fdivW (pe_op op_sub (pe_op op_mul (pv 3) (pv 6)) (pe_op op_mul (pv 5) (pv 4))) (pe_ix ix_tup (pv 0) pe_int (fun _ _ => rfl))))))), ?_⟩
    have ba := ha.b
    have bb := hb.b
    have bc := hc.b
    have wa := ha.ok.w
    have wb := hb.ok.w
    have wc := hc.ok.w
    have m1 := abs_mul (x := b.x) (y := a.w) (a := 20000000) (b := 1000000) (by omega) (by omega) (by decide) (by decide)
    have m2 := abs_mul (x := a.x) (y := b.w) (a := 20000000) (b := 1000000) (by omega) (by omega) (by decide) (by decide)
    have m3 := abs_mul (x := c.x) (y := a.w) (a := 20000000) (b := 1000000) (by omega) (by omega) (by decide) (by decide)
    have m4 := abs_mul (x := a.x) (y := c.w) (a := 20000000) (b := 1000000) (by omega) (by omega) (by decide) (by decide)
    refine q_par (ea_cons (ev_I0 (ev_I (ev_0 rfl hb) (ev_2 rfl ha) (cmul_l (by omega))) (ev_I (ev_0 rfl ha) (ev_2 rfl hb) (cmul_l (by omega)))) (ea_cons (ev_I0 (ev_I (ev_1 rfl hb) (ev_2 rfl ha) (cmul_l (by omega))) (ev_I (ev_1 rfl ha) (ev_2 rfl hb) (cmul_l (by omega)))) ea_nil)) fun H1 e1 => ?_
    have ha1 := ha.ex e1
    have hc1 := hc.ex e1
    refine q_par (ea_cons (ev_I0 (ev_I (ev_0 rfl hc1) (ev_2 rfl ha1) (cmul_l (by omega))) (ev_I (ev_0 rfl ha1) (ev_2 rfl hc1) (cmul_l (by omega)))) (ea_cons (ev_I0 (ev_I (ev_1 rfl hc1) (ev_2 rfl ha1) (cmul_l (by omega))) (ev_I (ev_1 rfl ha1) (ev_2 rfl hc1) (cmul_l (by omega)))) ea_nil)) fun H2 e2 => ?_
    have ha2 := ha1.ex e2
    refine s_ret (ev_is (ev_I (ev_I0 (ev_I (ev_var rfl) (ev_var rfl) (cmul_l (by omega))) (ev_I (ev_var rfl) (ev_var rfl) (cmul_l (by omega)))) (ev_2 rfl ha2) (cdiv (by omega))) ?_) fun H3 e3 => k H3 ((e1.trans e2).trans e3)
    exact congrArg V.int (LD_eq wa)
theorem ok_turnof (T : Tx K mg) : FnOk P w K mg base CX0 2 (T.ad 16) (T.fd 16) pTurnOf spTurn := by
  have GSign : FnOk P w K mg base CX0 1 (T.ad 4) (T.fd 4) pSign spSign := ok_sign T
  have GDoubled : FnOk P w K mg base CX0 1 (T.ad 15) (T.fd 15) pDoubled spD := ok_doubled T
  refine T.dTurnOf.F.ok scTurnOf (fun vs H Q E h => ?_) (fun cdv A outer s H vs Q E hr h => ?_)
  · obtain ⟨_, ⟨p, q, r, a, b, c, rfl, _⟩, _⟩ := h
    rfl
  · obtain ⟨_, ⟨p, q, r, a, b, c, rfl, ha, hb, hc, rfl⟩, k⟩ := h
    refine ⟨_, (pss_one (ps_ret (pe_call GSign (hr.mono (by decide)) (by rfl) T.dSign.m T.dSign.F.kp T.dSign.b .nil pass0 (pa_cons (pe_call GDoubled (hr.mono (by decide)) (by rfl) T.dDoubled.m T.dDoubled.F.kp T.dDoubled.b .nil pass0 (pa_cons (pv 0) (pa_cons (pv 1) (pa_cons (pv 2) pa_nil)))) pa_nil)))), ?_⟩
    exact s_ret (ev_callV (ea_cons (ev_3p rfl rfl rfl ha hb hc) ea_nil) fun H' _ => ⟨_, rfl, rfl⟩) k
theorem ok_lturn (T : Tx K mg) : FnOk P w K mg base CX0 2 (T.ad 35) (T.fd 35) pLTurn spTurn := by
  have GLSign : FnOk P w K mg base CX0 1 (T.ad 33) (T.fd 33) pLSign spSign := ok_lsign T
  have GLDoubled : FnOk P w K mg base CX0 1 (T.ad 34) (T.fd 34) pLDoubled spD := ok_ldoubled T
  refine T.dLTurn.F.ok scLTurn (fun vs H Q E h => ?_) (fun cdv A outer s H vs Q E hr h => ?_)
  · obtain ⟨_, ⟨p, q, r, a, b, c, rfl, _⟩, _⟩ := h
    rfl
  · obtain ⟨_, ⟨p, q, r, a, b, c, rfl, ha, hb, hc, rfl⟩, k⟩ := h
    refine ⟨_, (pss_one (ps_ret (pe_call GLSign (hr.mono (by decide)) (by rfl) T.dLSign.m T.dLSign.F.kp T.dLSign.b .nil pass0 (pa_cons (pe_call GLDoubled (hr.mono (by decide)) (by rfl) T.dLDoubled.m T.dLDoubled.F.kp T.dLDoubled.b .nil pass0 (pa_cons (pv 0) (pa_cons (pv 1) (pa_cons (pv 2) pa_nil)))) pa_nil)))), ?_⟩
    exact s_ret (ev_callV (ea_cons (ev_3p rfl rfl rfl ha hb hc) ea_nil) fun H' _ => ⟨_, rfl, rfl⟩) k
theorem www {a b c : Pt} (ha : 0 < a.w ∧ a.w ≤ 1000000) (hb : 0 < b.w ∧ b.w ≤ 1000000) (hc : 0 < c.w ∧ c.w ≤ 1000000) : (0 < a.w * b.w ∧ a.w * b.w ≤ 1000000000000) ∧ 0 < a.w * b.w * c.w ∧ a.w * b.w * c.w ≤ 1000000000000000000 := by
  have h1 := Int.mul_pos ha.1 hb.1
  have m1 := abs_mul (x := a.w) (y := b.w) (a := 1000000) (b := 1000000) (by omega) (by omega) (by decide) (by decide)
  have m2 := abs_mul (x := a.w * b.w) (y := c.w) (a := 1000000000000) (b := 1000000) (by omega) (by omega) (by decide) (by decide)
  exact ⟨⟨h1, by omega⟩, Int.mul_pos h1 hc.1, by omega⟩
theorem ok_twice (T : Tx K mg) : FnOk P w K mg base CX0 3 (T.ad 18) (T.fd 18) pTwice spArea := by
  have GReduced : FnOk P w K mg base CX0 2 (T.ad 3) (T.fd 3) pReduced spRed := ok_red T
  have GDoubled : FnOk P w K mg base CX0 1 (T.ad 15) (T.fd 15) pDoubled spD := ok_doubled T
  refine T.dTwice.F.ok scTwice (fun vs H Q E h => ?_) (fun cdv A outer s H vs Q E hr h => ?_)
  · obtain ⟨_, ⟨p, q, r, a, b, c, rfl, _⟩, _⟩ := h
    rfl
  · obtain ⟨_, ⟨p, q, r, a, b, c, rfl, ha, hb, hc, rfl⟩, k⟩ := h
    refine ⟨_, (pss_one (ps_ret (pe_call GReduced (hr.mono (by decide)) (by rfl) T.dReduced.m T.dReduced.F.kp T.dReduced.b .nil pass0 (pa_cons (pe_call GDoubled (hr.mono (by decide)) (by rfl) T.dDoubled.m T.dDoubled.F.kp T.dDoubled.b .nil pass0 (pa_cons (pv 0) (pa_cons (pv 1) (pa_cons (pv 2) pa_nil)))) (pa_cons (pe_op op_mul (pe_op op_mul (pe_ix ix_tup (pv 0) pe_int (fun _ _ => rfl)) (pe_ix ix_tup (pv 1) pe_int (fun _ _ => rfl))) (pe_ix ix_tup (pv 2) pe_int (fun _ _ => rfl))) pa_nil))))), ?_⟩
    have m := www ⟨ha.ok.w, ha.b.2.2⟩ ⟨hb.ok.w, hb.b.2.2⟩ ⟨hc.ok.w, hc.b.2.2⟩
    have ba := ha.b
    have wa := ha.ok.w
    exact s_retU (eu_callU (ea_cons (ev_3p rfl rfl rfl ha hb hc) (ea_cons (ev_I (ev_I (ev_2 rfl ha) (ev_2 rfl hb) (cmul_l (by omega))) (ev_2 rfl hc) (cmul_l (by omega))) ea_nil)) fun H' _ => ⟨_, _, rfl, m.2, rfl⟩) k
theorem ok_larea2 (T : Tx K mg) : FnOk P w K mg base CX0 3 (T.ad 36) (T.fd 36) pLArea2 spArea := by
  have GLRatio : FnOk P w K mg base CX0 2 (T.ad 29) (T.fd 29) pLRatio spRed := ok_lred T
  have GLDoubled : FnOk P w K mg base CX0 1 (T.ad 34) (T.fd 34) pLDoubled spD := ok_ldoubled T
  refine T.dLArea2.F.ok scLArea2 (fun vs H Q E h => ?_) (fun cdv A outer s H vs Q E hr h => ?_)
  · obtain ⟨_, ⟨p, q, r, a, b, c, rfl, _⟩, _⟩ := h
    rfl
  · obtain ⟨_, ⟨p, q, r, a, b, c, rfl, ha, hb, hc, rfl⟩, k⟩ := h
    refine ⟨_, (pss_one (ps_ret (pe_call GLRatio (hr.mono (by decide)) (by rfl) T.dLRatio.m T.dLRatio.F.kp T.dLRatio.b .nil pass0 (pa_cons (pe_call GLDoubled (hr.mono (by decide)) (by rfl) T.dLDoubled.m T.dLDoubled.F.kp T.dLDoubled.b .nil pass0 (pa_cons (pv 0) (pa_cons (pv 1) (pa_cons (pv 2) pa_nil)))) (pa_cons (pe_op op_mul (pe_op op_mul (pe_ix ix_tup (pv 0) pe_int (fun _ _ => rfl)) (pe_ix ix_tup (pv 1) pe_int (fun _ _ => rfl))) (pe_ix ix_tup (pv 2) pe_int (fun _ _ => rfl))) pa_nil))))), ?_⟩
    have m := www ⟨ha.ok.w, ha.b.2.2⟩ ⟨hb.ok.w, hb.b.2.2⟩ ⟨hc.ok.w, hc.b.2.2⟩
    have ba := ha.b
    have wa := ha.ok.w
    exact s_retU (eu_callU (ea_cons (ev_3p rfl rfl rfl ha hb hc) (ea_cons (ev_I (ev_I (ev_2 rfl ha) (ev_2 rfl hb) (cmul_l (by omega))) (ev_2 rfl hc) (cmul_l (by omega))) ea_nil)) fun H' _ => ⟨_, _, rfl, m.2, rfl⟩) k
theorem ok_isbetween (T : Tx K mg) : FnOk P w K mg base CX0 3 (T.ad 20) (T.fd 20) pIsBetween spBtw := by
  have GOrderOf : FnOk P w K mg base CX0 2 (T.ad 13) (T.fd 13) pOrderOf spOrd := ok_order T
  have GTurnOf : FnOk P w K mg base CX0 2 (T.ad 16) (T.fd 16) pTurnOf spTurn := ok_turnof T
  refine T.dIsBetween.F.ok scIsBetween (fun vs H Q E h => ?_) (fun cdv A outer s H vs Q E hr h => ?_)
  · obtain ⟨_, ⟨p, q, r, a, b, c, rfl, _⟩, _⟩ := h
    rfl
  · obtain ⟨_, ⟨p, q, r, a, b, c, rfl, ha, hb, hc, rfl⟩, k⟩ := h
    refine ⟨_, (pss_cons (ps_if (pt_cmpR op_eq (pe_call GOrderOf (hr.mono (by decide)) (by rfl) T.dOrderOf.m T.dOrderOf.F.kp T.dOrderOf.b .nil pass0 (pa_cons (pv 0) (pa_cons (pv 1) pa_nil))) pe_int (nomark _)) (pss_one (ps_ret (pe_cmpR op_eq (pe_call GOrderOf (hr.mono (by decide)) (by rfl) T.dOrderOf.m T.dOrderOf.F.kp T.dOrderOf.b .nil pass0 (pa_cons (pv 0) (pa_cons (pv 2) pa_nil))) pe_int (nomark _)))) pss_nil)
      (pss_one (ps_ret (pe_and (pe_cmpR op_eq (pe_call GTurnOf (hr.mono (by decide)) (by rfl) T.dTurnOf.m T.dTurnOf.F.kp T.dTurnOf.b .nil pass0 (pa_cons (pv 0) (pa_cons (pv 1) (pa_cons (pv 2) pa_nil)))) pe_int (nomark _)) (pe_one (pe_cmpR op_ge (pe_op op_mul (pe_call GOrderOf (hr.mono (by decide)) (by rfl) T.dOrderOf.m T.dOrderOf.F.kp T.dOrderOf.b .nil pass0 (pa_cons (pv 0) (pa_cons (pv 2) pa_nil))) (pe_call GOrderOf (hr.mono (by decide)) (by rfl) T.dOrderOf.m T.dOrderOf.F.kp T.dOrderOf.b .nil pass0 (pa_cons (pv 2) (pa_cons (pv 1) pa_nil)))) pe_int (nomark _))))))), ?_⟩
    refine q_when (b := decide (ord a b = 0)) (et_is (et_test (ev_op (ev_2p rfl rfl ha hb) ev_c (rv_eq rfl))) dec_z) (fun hd H1 e1 => ?_) (fun hd H1 e1 => ?_)
    · have e : btw a b c = decide (V.int (ord a c) = V.int 0) := by
        unfold btw
        rw [if_pos (of_decide_eq_true hd), dec_z]
      replace k : ∀ H2, Ex H H2 → Q (V.bl (btw a b c)) H2 := k
      rw [e] at k
      exact s_ret (ev_op (ev_2p rfl rfl (ha.ex e1) (hc.ex e1)) ev_c (rv_eq rfl)) fun H2 e2 => k H2 (e1.trans e2)
    · have e : btw a b c = (decide (V.int (sgn (D a b c)) = V.int 0) && decide (0 ≤ ord a c * ord c b)) := by
        unfold btw
        rw [if_neg (of_decide_eq_false hd), dec_z]
      replace k : ∀ H2, Ex H H2 → Q (V.bl (btw a b c)) H2 := k
      rw [e] at k
      have v := ord_vals a c
      exact s_ret (ev_andV (ev_op (ev_3p rfl rfl rfl (ha.ex e1) (hb.ex e1) (hc.ex e1)) ev_c (rv_eq rfl)) fun _ => ev_I0 (g := fun i j => .bl (decide (j ≤ i))) (ev_I (ev_2p rfl rfl (ha.ex e1) (hc.ex e1)) (ev_2p rfl rfl (hc.ex e1) (hb.ex e1)) (cmul_l (by omega))) ev_c) fun H2 e2 => k H2 (e1.trans e2)
theorem ok_turn (T : Tx K mg) : FnOk P w K mg base CX0 5 (T.ad 17) (T.fd 17) pTurn spTurn := by
  have GNeedAll : FnOk P w K mg base CX0 4 (T.ad 12) (T.fd 12) pNeedAll spNeedAll := ok_needall T
  have GTurnOf : FnOk P w K mg base CX0 2 (T.ad 16) (T.fd 16) pTurnOf spTurn := ok_turnof T
  refine T.dTurn.F.ok scTurn (fun vs H Q E h => ?_) (fun cdv A outer s H vs Q E hr h => ?_)
  · obtain ⟨_, ⟨p, q, r, a, b, c, rfl, _⟩, _⟩ := h
    rfl
  · obtain ⟨_, ⟨p, q, r, a, b, c, rfl, ha, hb, hc, rfl⟩, k⟩ := h
    refine ⟨_, (pss_cons (ps_expr (pe_call GNeedAll (hr.mono (by decide)) (by rfl) T.dNeedAll.m T.dNeedAll.F.kp T.dNeedAll.b .nil pass0 (pa_cons (pe_lst (pa_cons (pv 0) (pa_cons (pv 1) (pa_cons (pv 2) pa_nil)))) pa_nil)))
      (pss_one (ps_ret (pe_call GTurnOf (hr.mono (by decide)) (by rfl) T.dTurnOf.m T.dTurnOf.F.kp T.dTurnOf.b .nil pass0 (pa_cons (pv 0) (pa_cons (pv 1) (pa_cons (pv 2) pa_nil))))))), ?_⟩
    exact q_drop (ev_need rfl rfl rfl ha hb hc) fun H1 e1 => s_ret (ev_3p rfl rfl rfl (ha.ex e1) (hb.ex e1) (hc.ex e1)) fun H2 e2 => k H2 (e1.trans e2)
theorem ok_between (T : Tx K mg) : FnOk P w K mg base CX0 5 (T.ad 21) (T.fd 21) pBetween spBtw := by
  have GNeedAll : FnOk P w K mg base CX0 4 (T.ad 12) (T.fd 12) pNeedAll spNeedAll := ok_needall T
  have GIsBetween : FnOk P w K mg base CX0 3 (T.ad 20) (T.fd 20) pIsBetween spBtw := ok_isbetween T
  refine T.dBetween.F.ok scBetween (fun vs H Q E h => ?_) (fun cdv A outer s H vs Q E hr h => ?_)
  · obtain ⟨_, ⟨p, q, r, a, b, c, rfl, _⟩, _⟩ := h
    rfl
  · obtain ⟨_, ⟨p, q, r, a, b, c, rfl, ha, hb, hc, rfl⟩, k⟩ := h
    refine ⟨_, (pss_cons (ps_expr (pe_call GNeedAll (hr.mono (by decide)) (by rfl) T.dNeedAll.m T.dNeedAll.F.kp T.dNeedAll.b .nil pass0 (pa_cons (pe_lst (pa_cons (pv 0) (pa_cons (pv 1) (pa_cons (pv 2) pa_nil)))) pa_nil)))
      (pss_one (ps_ret (pe_call GIsBetween (hr.mono (by decide)) (by rfl) T.dIsBetween.m T.dIsBetween.F.kp T.dIsBetween.b .nil pass0 (pa_cons (pv 0) (pa_cons (pv 1) (pa_cons (pv 2) pa_nil))))))), ?_⟩
    exact q_drop (ev_need rfl rfl rfl ha hb hc) fun H1 e1 => s_ret (ev_3p rfl rfl rfl (ha.ex e1) (hb.ex e1) (hc.ex e1)) fun H2 e2 => k H2 (e1.trans e2)
theorem ok_area2 (T : Tx K mg) : FnOk P w K mg base CX0 5 (T.ad 19) (T.fd 19) pArea2 spArea := by
  have GNeedAll : FnOk P w K mg base CX0 4 (T.ad 12) (T.fd 12) pNeedAll spNeedAll := ok_needall T
  have GTwice : FnOk P w K mg base CX0 3 (T.ad 18) (T.fd 18) pTwice spArea := ok_twice T
  refine T.dArea2.F.ok scArea2 (fun vs H Q E h => ?_) (fun cdv A outer s H vs Q E hr h => ?_)
  · obtain ⟨_, ⟨p, q, r, a, b, c, rfl, _⟩, _⟩ := h
    rfl
  · obtain ⟨_, ⟨p, q, r, a, b, c, rfl, ha, hb, hc, rfl⟩, k⟩ := h
    refine ⟨_, (pss_cons (ps_expr (pe_call GNeedAll (hr.mono (by decide)) (by rfl) T.dNeedAll.m T.dNeedAll.F.kp T.dNeedAll.b .nil pass0 (pa_cons (pe_lst (pa_cons (pv 0) (pa_cons (pv 1) (pa_cons (pv 2) pa_nil)))) pa_nil)))
      (pss_one (ps_ret (pe_call GTwice (hr.mono (by decide)) (by rfl) T.dTwice.m T.dTwice.F.kp T.dTwice.b .nil pass0 (pa_cons (pv 0) (pa_cons (pv 1) (pa_cons (pv 2) pa_nil))))))), ?_⟩
    exact q_drop (ev_need rfl rfl rfl ha hb hc) fun H1 e1 => s_retU (eu_3p rfl rfl rfl (ha.ex e1) (hb.ex e1) (hc.ex e1)) fun u H2 hn e2 hu => k u H2 (fresh_back e1 hn) (e1.trans e2) hu
end
/-! ### == of points -/
theorem eqv_pt (a b : Pt) : PyData.eqv (.tuple [.int a.x, .int a.y, .int a.w]) (.tuple [.int b.x, .int b.y, .int b.w]) = decide (a = b) := by
  obtain ⟨x, y, z⟩ := a
  obtain ⟨x', y', z'⟩ := b
  simp [PyData.eqv, PyData.eqvAll, Bool.beq_eq_decide_eq]
theorem dp_pt {K : PySem.W.Frag} {H : Hp} {p : Addr} {a : Pt} (h : H p = some (.tup (P3 a))) : Dp K H (.ref p) (.tuple [.int a.x, .int a.y, .int a.w]) := .tup (st_of h) (.cons (.int _) (.cons (.int _) (.cons (.int _) .nil)))
theorem rv_pt {K : PySem.W.Frag} {H : Hp} {p q : Addr} {a b : Pt} (ha : At H p a) (hb : At H q b) : RV (rEqD K) (.ref p) (.ref q) H (.bl (decide (a = b))) := fun H1 e Q k =>
  ⟨_, _, dp_pt (e _ _ ha.h), dp_pt (e _ _ hb.h), rfl, rfl, by rw [eqv_pt]; exact k H1 (Ex.refl H1)⟩
theorem eu_if {σ : L2.St} {H : Hp} {t : TT} {ta tb : TE} {xs : List V} {b : Bool} (h : EvT t σ H b) (h1 : b = true → EvU ta σ H xs) (h2 : b = false → EvU tb σ H xs) : EvU (tIf t ta tb) σ H xs := fun H1 e Q q => h H1 e _ fun H2 e2 => by
  cases b with
  | true =>
    refine iteT ?_
    exact h1 rfl H2 (e.trans e2) Q fun p H3 hn e3 hp => q p H3 (fresh_back e2 hn) (e2.trans e3) hp
  | false =>
    refine iteF ?_
    exact h2 rfl H2 (e.trans e2) Q fun p H3 hn e3 hp => q p H3 (fresh_back e2 hn) (e2.trans e3) hp
/-- x, y = a new tuple -/
theorem q_unp {K : PySem.W.Frag} {σ : L2.St} {H : Hp} {te : TE} {tz : TS} {D : Ends} {v w : V} {i j : Nat} (h : EvU te σ H [v, w]) (k : ∀ H1, Ex H H1 → tz D ((σ.set i (some v)).set j (some w)) H1) :
    tSeq (tAsg te (gTup K 2 (gCons (gName i) (gCons (gName j) gNil)))) tz D σ H := h H (Ex.refl H) _ fun p H1 hn e hp => ⟨p, [v, w], rfl, st_of hp, rfl, v, [w], rfl, w, [], rfl, rfl, k H1 e⟩
section
variable {P : Program} {w : World} {K : PySem.W.Frag} {mg : Str → Option Value} {base : Heap}
theorem ok_lbetween (T : Tx K mg) : FnOk P w K mg base CX0 3 (T.ad 38) (T.fd 38) pLBetween spBtw := by
  have GLOrder : FnOk P w K mg base CX0 2 (T.ad 37) (T.fd 37) pLOrder spOrd := ok_lorder T
  have GLTurn : FnOk P w K mg base CX0 2 (T.ad 35) (T.fd 35) pLTurn spTurn := ok_lturn T
  refine T.dLBetween.F.ok scLBetween (fun vs H Q E h => ?_) (fun cdv A outer s H vs Q E hr h => ?_)
  · obtain ⟨_, ⟨p, q, r, a, b, c, rfl, _⟩, _⟩ := h
    rfl
  · obtain ⟨_, ⟨p, q, r, a, b, c, rfl, ha, hb, hc, rfl⟩, k⟩ := h
    refine ⟨_, (pss_cons (ps_if (PW.pt (pw_or (pt_cmpR op_ne (pe_call GLTurn (hr.mono (by decide)) (by rfl) T.dLTurn.m T.dLTurn.F.kp T.dLTurn.b .nil pass0 (pa_cons (pv 0) (pa_cons (pv 1) (pa_cons (pv 2) pa_nil)))) pe_int (nomark _)) (pw_or1 (pt_cmpR (op_eqD hr.units) (pv 0) (pv 1) (nomark _))))) (pss_one (ps_ret (pe_cmpR (op_eqD hr.units) (pv 2) (pv 0) (nomark _)))) pss_nil)
      (pss_cons (ps_asg (pe_ifExp (pt_cmpR op_lt (pe_call GLOrder (hr.mono (by decide)) (by rfl) T.dLOrder.m T.dLOrder.F.kp T.dLOrder.b .nil pass0 (pa_cons (pv 0) (pa_cons (pv 1) pa_nil))) pe_int (nomark _)) (pe_tup (pa_cons (pv 0) (pa_cons (pv 1) pa_nil))) (pe_tup (pa_cons (pv 1) (pa_cons (pv 0) pa_nil)))) (pg_tup (by rfl) (pgs_cons (pg_name (i := 3) scLBetween.nd rfl (.inl rfl)) (pgs_cons (pg_name (i := 4) scLBetween.nd rfl (.inl rfl)) pgs_nil))))
      (pss_one (ps_ret (pe_and (pe_cmpR op_le (pe_call GLOrder (hr.mono (by decide)) (by rfl) T.dLOrder.m T.dLOrder.F.kp T.dLOrder.b .nil pass0 (pa_cons (pv 3) (pa_cons (pv 2) pa_nil))) pe_int (nomark _)) (pe_one (pe_cmpR op_le (pe_call GLOrder (hr.mono (by decide)) (by rfl) T.dLOrder.m T.dLOrder.F.kp T.dLOrder.b .nil pass0 (pa_cons (pv 2) (pa_cons (pv 4) pa_nil))) pe_int (nomark _)))))))), ?_⟩
    replace k : ∀ H2, Ex H H2 → Q (V.bl (btw a b c)) H2 := k
    rw [btw_eq ha.ok hb.ok hc.ok] at k
    refine q_when (b := (!decide (V.int (sgn (D a b c)) = V.int 0)) || decide (a = b)) (et_or (et_test (ev_op (ev_3p rfl rfl rfl ha hb hc) ev_c (rv_ne rfl))) (fun _ => et_test (ev_op (ev_var rfl) (ev_var rfl) (rv_pt ha hb)))) (fun hd H1 e1 => ?_) (fun hd H1 e1 => ?_)
    · have z : sgn (D a b c) ≠ 0 ∨ a = b := by
        rcases (Bool.or_eq_true _ _).mp hd with y | y
        · exact .inl (int_ne y)
        · exact .inr (of_decide_eq_true y)
      have e : lbtw a b c = decide (c = a) := by
        unfold lbtw
        rw [if_pos z]
      rw [e] at k
      exact s_ret (ev_op (ev_var rfl) (ev_var rfl) (rv_pt (hc.ex e1) (ha.ex e1))) fun H2 e2 => k H2 (e1.trans e2)
    · have z : ¬ (sgn (D a b c) ≠ 0 ∨ a = b) := by
        obtain ⟨y1, y2⟩ := (Bool.or_eq_false_iff).mp hd
        rintro (y | y)
        · exact y (int_eq y1)
        · exact of_decide_eq_false y2 y
      have ha1 := ha.ex e1
      have hb1 := hb.ex e1
      have hc1 := hc.ex e1
      by_cases hl : ord a b < 0
      · have e : lbtw a b c = (decide (ord a c ≤ 0) && decide (ord c b ≤ 0)) := by
          unfold lbtw
          rw [if_neg z, if_pos hl]
        rw [e] at k
        refine q_unp (v := .ref p) (w := .ref q) (eu_if (b := true) (et_is (et_test (ev_I0 (g := fun i j => .bl (decide (i < j))) (ev_2p rfl rfl ha1 hb1) ev_c)) (decide_eq_true hl)) (fun _ => eu_tup (ea_cons (ev_var rfl) (ea_cons (ev_var rfl) ea_nil)) (by show 2 ≤ 100000; decide)) (fun y => nomatch y)) fun H2 e2 => ?_
        exact s_ret (ev_andV (ev_I0 (g := fun i j => .bl (decide (i ≤ j))) (ev_2p rfl rfl (ha1.ex e2) (hc1.ex e2)) ev_c) fun _ => ev_I0 (g := fun i j => .bl (decide (i ≤ j))) (ev_2p rfl rfl (hc1.ex e2) (hb1.ex e2)) ev_c) fun H3 e3 => k H3 ((e1.trans e2).trans e3)
      · have e : lbtw a b c = (decide (ord b c ≤ 0) && decide (ord c a ≤ 0)) := by
          unfold lbtw
          rw [if_neg z, if_neg hl]
        rw [e] at k
        refine q_unp (v := .ref q) (w := .ref p) (eu_if (b := false) (et_is (et_test (ev_I0 (g := fun i j => .bl (decide (i < j))) (ev_2p rfl rfl ha1 hb1) ev_c)) (decide_eq_false hl)) (fun y => nomatch y) (fun _ => eu_tup (ea_cons (ev_var rfl) (ea_cons (ev_var rfl) ea_nil)) (by show 2 ≤ 100000; decide))) fun H2 e2 => ?_
        exact s_ret (ev_andV (ev_I0 (g := fun i j => .bl (decide (i ≤ j))) (ev_2p rfl rfl (hb1.ex e2) (hc1.ex e2)) ev_c) fun _ => ev_I0 (g := fun i j => .bl (decide (i ≤ j))) (ev_2p rfl rfl (hc1.ex e2) (ha1.ex e2)) ev_c) fun H3 e3 => k H3 ((e1.trans e2).trans e3)
end
end K1

set_option maxHeartbeats 4000000
/-! The draws: the row that they change, a number, one of some things, a point. -/
namespace K1
open PySem PySem.Spec PyProof.Rows L2 Evl
/-! ### the row -/
def R4 (sa : Addr) (i s r : Int) : List V := [.ref sa, .int i, .int s, .int r]
/-- the script's list at sa, the row at ra -/
structure RowAt (K : PySem.W.Frag) (ns : List Int) (sa ra : Addr) (H : Hp) : Prop where
  sq : SqL K H sa (ns.map V.int)
  row : ∃ i s r : Int, 0 ≤ i ∧ H ra = some (.lst (R4 sa i s r))
/-- all but the object at ra is as it was -/
def ExR (ra : Addr) (H H' : Hp) : Prop := ∀ b o, b ≠ ra → H b = some o → H' b = some o
theorem ExR.of {ra : Addr} {H H' : Hp} (e : Ex H H') : ExR ra H H' := fun b o _ h => e b o h
theorem ExR.upd {ra : Addr} {H H' : Hp} {o : HO} (e : ExR ra H H') : ExR ra H (upd H' ra o) := fun b u n h => by
  rw [upd_ne n]
  exact e b u n h
theorem ExR.trans {ra : Addr} {H H1 H2 : Hp} (e : ExR ra H H1) (e2 : ExR ra H1 H2) : ExR ra H H2 := fun b o n h => e2 b o n (e b o n h)
theorem ExR.ex {ra : Addr} {H H1 H2 : Hp} (e : ExR ra H H1) (e2 : Ex H1 H2) : ExR ra H H2 := e.trans (.of e2)
theorem seq_upd {K : PySem.W.Frag} {H : Hp} {sa ra z : Addr} {l : List V} {o : HO} {ns : List Int} (h : SqL K H sa (ns.map V.int)) (hr : H ra = some (.lst (.ref z :: l))) : SqL K (upd H ra o) sa (ns.map V.int) := by
  rcases h with (h | ⟨u, h⟩) | h
  · have n : sa ≠ ra := by
      rintro rfl
      rw [h] at hr
      have e := HO.lst.inj (Option.some.inj hr)
      cases ns with
      | nil => cases e
      | cons a r => cases e
    exact .inl (.inl (by rw [upd_ne n]; exact h))
  · have n : sa ≠ ra := by
      rintro rfl
      rw [h] at hr
      cases hr
    exact .inl (.inr ⟨u, by rw [upd_ne n]; exact h⟩)
  · exact .inr h
theorem RowAt.ex {K : PySem.W.Frag} {ns : List Int} {sa ra : Addr} {H H' : Hp} (h : RowAt K ns sa ra H) (e : Ex H H') : RowAt K ns sa ra H' := by
  obtain ⟨i, s, r, h0, h1⟩ := h.row
  exact ⟨ex_l e h.sq, i, s, r, h0, e _ _ h1⟩
theorem At.exR {H H' : Hp} {p ra : Addr} {a : Pt} {xs : List V} (h : At H p a) (e : ExR ra H H') (hr : H ra = some (.lst xs)) : At H' p a :=
  ⟨e p _ (ne_of h.h hr (by intro z; cases z)) h.h, h.ok, h.b⟩
theorem RowAt.pt {K : PySem.W.Frag} {ns : List Int} {sa ra p : Addr} {H H' : Hp} {a : Pt} (hr : RowAt K ns sa ra H) (h : At H p a) (e : ExR ra H H') : At H' p a := by
  obtain ⟨i, s, r, _, h1⟩ := hr.row
  exact h.exR e h1
/-! ### the promises -/
def spTaken (K : PySem.W.Frag) : Sp := fun vs H Q _ => ∃ (ra sa : Addr) (ns : List Int) (m : Int), vs = [.ref ra, .int m] ∧ RowAt K ns sa ra H ∧ (0 < m ∧ m ≤ 1000000) ∧
  ∀ (v : Int) (H' : Hp), 0 ≤ v ∧ v < m → ExR ra H H' → RowAt K ns sa ra H' → Q (.int v) H'
def spPick (K : PySem.W.Frag) : Sp := fun vs H Q _ => ∃ (ra sa tb : Addr) (ns : List Int) (xs : List V), vs = [.ref ra, .ref tb] ∧ RowAt K ns sa ra H ∧ tb ≠ ra ∧ H tb = some (.lst xs) ∧ (0 < xs.length ∧ xs.length ≤ 1000) ∧
  ∀ (v : V) (H' : Hp), v ∈ xs → ExR ra H H' → RowAt K ns sa ra H' → Q v H'
def spSigned (K : PySem.W.Frag) : Sp := fun vs H Q _ => ∃ (ra sa : Addr) (ns : List Int) (m : Int), vs = [.ref ra, .int m] ∧ RowAt K ns sa ra H ∧ (0 ≤ m ∧ m ≤ 1000) ∧
  ∀ (v : Int) (H' : Hp), -m ≤ v ∧ v ≤ m → ExR ra H H' → RowAt K ns sa ra H' → Q (.int v) H'
/-- small points: those that are drawn -/
structure Sm (a : Pt) : Prop where
  ok : Ok a
  b : (-45 ≤ a.x ∧ a.x ≤ 45) ∧ (-45 ≤ a.y ∧ a.y ≤ 45) ∧ a.w ≤ 9
def spPoint (K : PySem.W.Frag) : Sp := fun vs H Q _ => ∃ (ra sa : Addr) (ns : List Int), vs = [.ref ra, .int 5] ∧ RowAt K ns sa ra H ∧
  ∀ (p : Addr) (a : Pt) (H' : Hp), Sm a → H' p = some (.tup (P3 a)) → ExR ra H H' → RowAt K ns sa ra H' → Q (.ref p) H'
theorem Sm.at {H : Hp} {p : Addr} {a : Pt} (s : Sm a) (h : H p = some (.tup (P3 a))) : At H p a := ⟨h, s.ok, by have := s.b; omega⟩
section
variable {K : PySem.W.Frag} {σ : L2.St} {H : Hp} {k : Nat} {sa ra : Addr} {i s r : Int}
theorem er0 (hs : σ[k]? = some (some (.ref ra))) (h : H ra = some (.lst (R4 sa i s r))) : Ev (tOp (rIxL K) (tVar k) (tC (.int 0))) σ H (.ref sa) := ev_op (ev_var hs) ev_c (rv_ixL (sq_of h) (atI_nat (j := 0) rfl))
theorem er1 (hs : σ[k]? = some (some (.ref ra))) (h : H ra = some (.lst (R4 sa i s r))) : Ev (tOp (rIxL K) (tVar k) (tC (.int 1))) σ H (.int i) := ev_op (ev_var hs) ev_c (rv_ixL (sq_of h) (atI_nat (j := 1) rfl))
theorem er2 (hs : σ[k]? = some (some (.ref ra))) (h : H ra = some (.lst (R4 sa i s r))) : Ev (tOp (rIxL K) (tVar k) (tC (.int 2))) σ H (.int s) := ev_op (ev_var hs) ev_c (rv_ixL (sq_of h) (atI_nat (j := 2) rfl))
theorem er3 (hs : σ[k]? = some (some (.ref ra))) (h : H ra = some (.lst (R4 sa i s r))) : Ev (tOp (rIxL K) (tVar k) (tC (.int 3))) σ H (.int r) := ev_op (ev_var hs) ev_c (rv_ixL (sq_of h) (atI_nat (j := 3) rfl))
end
section
variable {P : Program} {w : World} {K : PySem.W.Frag} {mg : Str → Option Value} {base : Heap}
theorem ok_taken (T : Tx K mg) : FnOk P w K mg base CX0 1 (T.ad 23) (T.fd 23) pLTaken (spTaken K) := by
  refine T.dLTaken.F.ok scLTaken (fun vs H Q E h => ?_) (fun cdv A outer s H vs Q E hr h => ?_)
  · obtain ⟨ra, sa, ns, m, rfl, _⟩ := h
    rfl
  · obtain ⟨ra, sa, ns, m, rfl, hrow, hm, k⟩ := h
    refine ⟨_, (pss_cons (ps_if (pt_cmpR op_gt (pe_ix ix_list (pv 0) pe_int (fun _ _ => rfl)) pe_int (nomark _)) (pss_cons (ps_set (i := 2) scLTaken.nd rfl (.inl rfl) (pe_op op_mod (pe_callTy call_int1 (by rfl) T.zint (by decide +kernel) (pa_cons (pe_ix ix_list (pv 0) pe_int (fun _ _ => rfl)) pa_nil)) (pv 1)))
      (pss_cons (ps_asg (pe_op op_fdivW (pe_ix ix_list (pv 0) pe_int (fun _ _ => rfl)) (pv 1)) (pg_sub (pv 0) pe_int set_list))
      (pss_one (ps_ret (pv 2))))) pss_nil)
      (pss_cons (ps_asg (pe_op op_add (pe_ix ix_list (pv 0) pe_int (fun _ _ => rfl)) pe_int) (pg_sub (pv 0) pe_int set_list))
      (pss_cons (ps_if (pt_cmpR op_gt (pe_ix ix_list (pv 0) pe_int (fun _ _ => rfl)) (pe_callB call_len_seq (by rfl) T.zlen PySem.boot_len (pa_cons (pe_ix ix_list (pv 0) pe_int (fun _ _ => rfl)) pa_nil)) (nomark _)) (pss_cons (ps_asg (pe_op op_mod (pe_callTy call_int1 (by rfl) T.zint (by decide +kernel) (pa_cons (pe_op op_add (pe_op op_mul (pe_ix ix_list (pv 0) pe_int (fun _ _ => rfl)) pe_int) pe_int) pa_nil)) pe_int) (pg_sub (pv 0) pe_int set_list))
      (pss_one (ps_ret (pe_op op_mod (pe_callTy call_int1 (by rfl) T.zint (by decide +kernel) (pa_cons (pe_op op_fdivW (pe_ix ix_list (pv 0) pe_int (fun _ _ => rfl)) pe_int) pa_nil)) (pv 1))))) pss_nil)
      (pss_cons (ps_set (i := 3) scLTaken.nd rfl (.inl rfl) (pe_ix ix_list (pe_ix ix_list (pv 0) pe_int (fun _ _ => rfl)) (pe_op op_sub (pe_ix ix_list (pv 0) pe_int (fun _ _ => rfl)) pe_int) (fun _ _ => rfl)))
      (pss_cons (ps_asg (pe_op op_mod (pe_callTy call_int1 (by rfl) T.zint (by decide +kernel) (pa_cons (pe_op op_add (pe_op op_add (pe_op op_mul (pe_ix ix_list (pv 0) pe_int (fun _ _ => rfl)) pe_int) (pv 3)) pe_int) pa_nil)) pe_int) (pg_sub (pv 0) pe_int set_list))
      (pss_cons (ps_if (pt_cmpR op_ge (pv 3) (pe_op op_pow pe_int pe_int) (nomark _)) (pss_one (ps_asg (pe_op op_fdivW (pv 3) (pv 1)) (pg_sub (pv 0) pe_int set_list))) pss_nil)
      (pss_one (ps_ret (pe_op op_mod (pe_callTy call_int1 (by rfl) T.zint (by decide +kernel) (pa_cons (pv 3) pa_nil)) (pv 1)))))))))), ?_⟩
    obtain ⟨hS, i, s, r, hi, h0⟩ := hrow
    have rest : ∀ x : Int, 0 ≤ x % m ∧ x % m < m := fun x => ⟨Int.emod_nonneg x (by omega), Int.emod_lt_of_pos x hm.1⟩
    refine q_when (et_test (ev_I0 (g := fun i j => .bl (decide (j < i))) (er3 rfl h0) ev_c)) (fun _ H1 e1 => ?_) (fun _ H1 e1 => ?_)
    · -- the rest of a great cell
      refine q_asg (ev_I (ev_int (er3 rfl (e1 _ _ h0))) (ev_var rfl) hm.1) fun H2 e2 => ?_
      have h2 := e2 _ _ (e1 _ _ h0)
      refine q_setL h2 (ev_I (er3 rfl h2) (ev_var rfl) (cdiv ⟨hm.1, by omega⟩)) (ev_var rfl) (j := 3) ev_c (by show 3 < 4; decide) fun H3 e3 => ?_
      refine s_ret (ev_var rfl) fun H4 e4 => ?_
      have h3 := e3 _ _ h2
      exact k _ H4 (rest r) (((ExR.of ((e1.trans e2).trans e3)).upd).ex e4) ((⟨seq_upd (ex_l ((e1.trans e2).trans e3) hS) h3, _, _, _, hi, upd_same⟩ : RowAt K ns sa ra _).ex e4)
    · -- the next cell
      have h1 := e1 _ _ h0
      refine q_setL h1 (ev_I0 (er1 rfl h1) ev_c) (ev_var rfl) (j := 1) ev_c (by show 1 < 4; decide) fun H2 e2 => ?_
      have h2 : (upd H2 ra (.lst ((R4 sa i s r).set 1 (.int (i + 1))))) ra = some (.lst (R4 sa (i + 1) s r)) := upd_same
      have S2 : SqL K (upd H2 ra (.lst ((R4 sa i s r).set 1 (.int (i + 1))))) sa (ns.map V.int) := seq_upd (ex_l (e1.trans e2) hS) (e2 _ _ h1)
      have x2 : ExR ra H (upd H2 ra (.lst ((R4 sa i s r).set 1 (.int (i + 1))))) := (ExR.of (e1.trans e2)).upd
      generalize upd H2 ra (.lst ((R4 sa i s r).set 1 (.int (i + 1)))) = H3 at *
      refine q_when (et_test (ev_I0 (g := fun i j => .bl (decide (j < i))) (er1 rfl h2) (ev_len (er0 rfl h2) S2))) (fun _ H4 e4 => ?_) (fun hb H4 e4 => ?_)
      · have h4 := e4 _ _ h2
        refine q_setL h4 (ev_I (ev_int (ev_I0 (ev_I (er2 rfl h4) ev_c (cmul_r (by decide))) ev_c)) ev_c (by decide)) (ev_var rfl) (j := 2) ev_c (by show 2 < 4; decide) fun H5 e5 => ?_
        have h5 : (upd H5 ra (.lst ((R4 sa (i + 1) s r).set 2 (.int ((s * 48271 + 11) % 2147483647))))) ra = some (.lst (R4 sa (i + 1) ((s * 48271 + 11) % 2147483647) r)) := upd_same
        have S5 : SqL K (upd H5 ra (.lst ((R4 sa (i + 1) s r).set 2 (.int ((s * 48271 + 11) % 2147483647))))) sa (ns.map V.int) := seq_upd (ex_l (e4.trans e5) S2) (e5 _ _ h4)
        refine s_ret (ev_I (ev_int (ev_I (er2 rfl h5) ev_c (cdiv (by decide)))) (ev_var rfl) hm.1) fun H6 e6 => ?_
        exact k _ H6 (rest _) ((((x2.ex e4).ex e5).upd).ex e6) ((⟨S5, _, _, _, by omega, h5⟩ : RowAt K ns sa ra _).ex e6)
      · have hlen : i + 1 ≤ ((ns.map V.int).length : Int) := by
          have := of_decide_eq_false hb
          omega
        rw [List.length_map] at hlen
        have hj : i.toNat < ns.length := by omega
        have hat : atI (ns.map V.int) (i + 1 - 1) = some (.int ns[i.toNat]) := at_of (j := i.toNat) (by omega) (by rw [List.getElem?_map, List.getElem?_eq_getElem hj]; rfl)
        generalize ns[i.toNat] = c at hat
        have h4 := e4 _ _ h2
        have S4 := ex_l e4 S2
        refine q_asg (ev_op (er0 rfl h4) (ev_I0 (er1 rfl h4) ev_c) (rv_ixL S4 hat)) fun H5 e5 => ?_
        have h5 := e5 _ _ h4
        refine q_setL h5 (ev_I (ev_int (ev_I0 (ev_I0 (ev_I (er2 rfl h5) ev_c (cmul_r (by decide))) (ev_var rfl)) ev_c)) ev_c (by decide)) (ev_var rfl) (j := 2) ev_c (by show 2 < 4; decide) fun H6 e6 => ?_
        have h6 : (upd H6 ra (.lst ((R4 sa (i + 1) s r).set 2 (.int ((s * 48271 + c + 11) % 2147483647))))) ra = some (.lst (R4 sa (i + 1) ((s * 48271 + c + 11) % 2147483647) r)) := upd_same
        have S6 : SqL K (upd H6 ra (.lst ((R4 sa (i + 1) s r).set 2 (.int ((s * 48271 + c + 11) % 2147483647))))) sa (ns.map V.int) := seq_upd (ex_l (e5.trans e6) S4) (e6 _ _ h5)
        have x6 : ExR ra H (upd H6 ra (.lst ((R4 sa (i + 1) s r).set 2 (.int ((s * 48271 + c + 11) % 2147483647))))) := (((x2.ex e4).ex e5).ex e6).upd
        generalize upd H6 ra (.lst ((R4 sa (i + 1) s r).set 2 (.int ((s * 48271 + c + 11) % 2147483647)))) = H7 at *
        generalize (s * 48271 + c + 11) % 2147483647 = s' at *
        refine q_when (et_test (ev_I0 (g := fun i j => .bl (decide (j ≤ i))) (ev_var rfl) (ev_I ev_c ev_c (C := CPow) (g := fun i j => .int (i ^ j.toNat)) ⟨by decide, by decide, by decide⟩))) (fun _ H8 e8 => ?_) (fun _ H8 e8 => ?_)
        · have h8 := e8 _ _ h6
          refine s_setL h8 (ev_I (ev_var rfl) (ev_var rfl) (cdiv ⟨hm.1, by omega⟩)) (ev_var rfl) (j := 3) ev_c (by show 3 < 4; decide) fun H9 e9 => ?_
          dsimp only
          refine s_ret (ev_I (ev_int (ev_var rfl)) (ev_var rfl) hm.1) fun H10 e10 => ?_
          exact k _ H10 (rest _) ((((x6.ex e8).ex e9).upd).ex e10) ((⟨seq_upd (ex_l (e8.trans e9) S6) (e9 _ _ h8), _, _, _, by omega, upd_same⟩ : RowAt K ns sa ra _).ex e10)
        · refine s_ret (ev_I (ev_int (ev_var rfl)) (ev_var rfl) hm.1) fun H10 e10 => ?_
          exact k _ H10 (rest _) ((x6.ex e8).ex e10) ((⟨S6, _, _, _, by omega, h6⟩ : RowAt K ns sa ra _).ex (e8.trans e10))
theorem ok_pick (T : Tx K mg) : FnOk P w K mg base CX0 2 (T.ad 24) (T.fd 24) pLPick (spPick K) := by
  have GLTaken : FnOk P w K mg base CX0 1 (T.ad 23) (T.fd 23) pLTaken (spTaken K) := ok_taken T
  refine T.dLPick.F.ok scLPick (fun vs H Q E h => ?_) (fun cdv A outer s H vs Q E hr h => ?_)
  · obtain ⟨ra, sa, tb, ns, xs, rfl, _⟩ := h
    rfl
  · obtain ⟨ra, sa, tb, ns, xs, rfl, hrow, hne, hb, hl, k⟩ := h
    refine ⟨_, (pss_one (ps_ret (pe_ix ix_list (pv 1) (pe_call GLTaken (hr.mono (by decide)) (by rfl) T.dLTaken.m T.dLTaken.F.kp T.dLTaken.b .nil pass0 (pa_cons (pv 0) (pa_cons (pe_callB call_len_seq (by rfl) T.zlen PySem.boot_len (pa_cons (pv 1) pa_nil)) pa_nil))) (fun _ _ => rfl)))), ?_⟩
    refine ⟨.ref tb, rfl, .ref ra, rfl, .ref tb, rfl, tb, xs, rfl, .inl (sq_of hb), ra, sa, ns, (xs.length : Int), rfl, hrow, by omega, fun v H' hv e hrow' => ?_⟩
    have hj : v.toNat < xs.length := by omega
    exact ⟨tb, xs, v, xs[v.toNat], rfl, rfl, sq_of (e _ _ hne hb), at_of (j := v.toNat) (by omega) (List.getElem?_eq_getElem hj), k _ H' (List.getElem_mem hj) e hrow'⟩
theorem ok_signed (T : Tx K mg) : FnOk P w K mg base CX0 2 (T.ad 27) (T.fd 27) pLSigned (spSigned K) := by
  have GLTaken : FnOk P w K mg base CX0 1 (T.ad 23) (T.fd 23) pLTaken (spTaken K) := ok_taken T
  refine T.dLSigned.F.ok scLSigned (fun vs H Q E h => ?_) (fun cdv A outer s H vs Q E hr h => ?_)
  · obtain ⟨ra, sa, ns, m, rfl, _⟩ := h
    rfl
  · obtain ⟨ra, sa, ns, m, rfl, hrow, hm, k⟩ := h
    refine ⟨_, (pss_one (ps_ret (pe_op op_sub (pe_call GLTaken (hr.mono (by decide)) (by rfl) T.dLTaken.m T.dLTaken.F.kp T.dLTaken.b .nil pass0 (pa_cons (pv 0) (pa_cons (pe_op op_add (pe_op op_mul pe_int (pv 1)) pe_int) pa_nil))) (pv 1)))), ?_⟩
    exact ⟨.ref ra, rfl, .int m, rfl, 2, m, rfl, rfl, cmul_l (by decide), 2 * m, 1, rfl, rfl, ra, sa, ns, 2 * m + 1, rfl, hrow, by omega, fun v H' hv e hrow' => ⟨.int m, rfl, v, m, rfl, rfl, k (v - m) H' (by omega) e hrow'⟩⟩
theorem ok_point (T : Tx K mg) : FnOk P w K mg base CX0 3 (T.ad 28) (T.fd 28) pLPoint (spPoint K) := by
  have GLTaken : FnOk P w K mg base CX0 1 (T.ad 23) (T.fd 23) pLTaken (spTaken K) := ok_taken T
  have GLPick : FnOk P w K mg base CX0 2 (T.ad 24) (T.fd 24) pLPick (spPick K) := ok_pick T
  have GLSigned : FnOk P w K mg base CX0 2 (T.ad 27) (T.fd 27) pLSigned (spSigned K) := ok_signed T
  have GLLowest : FnOk P w K mg base CX0 2 (T.ad 26) (T.fd 26) pLLowest spLow := ok_llow T
  refine T.dLPoint.F.ok scLPoint (fun vs H Q E h => ?_) (fun cdv A outer s H vs Q E hr h => ?_)
  · obtain ⟨ra, sa, ns, rfl, _⟩ := h
    rfl
  · obtain ⟨ra, sa, ns, rfl, hrow, k⟩ := h
    refine ⟨_, (pss_cons (ps_set (i := 2) scLPoint.nd rfl (.inl rfl) (pe_call GLPick (hr.mono (by decide)) (by rfl) T.dLPick.m T.dLPick.F.kp T.dLPick.b .nil pass0 (pa_cons (pv 0) (pa_cons (pe_lst (pa_cons pe_int (pa_cons pe_int (pa_cons pe_int (pa_cons pe_int (pa_cons pe_int (pa_cons (pe_op op_add pe_int (pe_call GLTaken (hr.mono (by decide)) (by rfl) T.dLTaken.m T.dLTaken.F.kp T.dLTaken.b .nil pass0 (pa_cons (pv 0) (pa_cons pe_int pa_nil)))) pa_nil))))))) pa_nil))))
      (pss_one (ps_ret (pe_call GLLowest (hr.mono (by decide)) (by rfl) T.dLLowest.m T.dLLowest.F.kp T.dLLowest.b .nil pass0 (pa_cons (pe_call GLSigned (hr.mono (by decide)) (by rfl) T.dLSigned.m T.dLSigned.F.kp T.dLSigned.b .nil pass0 (pa_cons (pv 0) (pa_cons (pe_op op_mul (pv 1) (pv 2)) pa_nil))) (pa_cons (pe_call GLSigned (hr.mono (by decide)) (by rfl) T.dLSigned.m T.dLSigned.F.kp T.dLSigned.b .nil pass0 (pa_cons (pv 0) (pa_cons (pe_op op_mul (pv 1) (pv 2)) pa_nil))) (pa_cons (pv 2) pa_nil))))))), ?_⟩
    -- w = one of 1, 1, 1, 2, 3, 1 + a draw
    refine ⟨.ref ra, rfl, .ref ra, rfl, ra, sa, ns, 9, rfl, hrow, by decide, fun t H1 ht e1 hr1 => ?_⟩
    refine ⟨1, t, rfl, rfl, (by show 6 ≤ sizeLine; decide), fun l hl => ?_⟩
    have hne : l ≠ ra := by
      obtain ⟨i, s, r, _, h1⟩ := hr1.row
      rintro rfl
      rw [h1] at hl
      cases hl
    refine ⟨ra, sa, l, ns, _, rfl, hr1.ex (Ex.new hl), hne, upd_same, (by show 0 < 6 ∧ 6 ≤ 1000; decide), fun v H2 hv e2 hr2 => ?_⟩
    obtain ⟨z, rfl, hz⟩ : ∃ z : Int, v = .int z ∧ 1 ≤ z ∧ z ≤ 9 := by
      simp only [List.mem_cons, List.not_mem_nil, or_false] at hv
      rcases hv with h | h | h | h | h | h
      · exact ⟨1, h, by decide⟩
      · exact ⟨1, h, by decide⟩
      · exact ⟨1, h, by decide⟩
      · exact ⟨2, h, by decide⟩
      · exact ⟨3, h, by decide⟩
      · exact ⟨1 + t, h, by omega⟩
    have e02 : ExR ra H H2 := (e1.ex (Ex.new hl)).trans e2
    -- two numbers, then the point in lowest terms
    refine ⟨.ref ra, rfl, .int 5, rfl, .int z, rfl, 5, z, rfl, rfl, cmul_l (by decide), ra, sa, ns, 5 * z, rfl, hr2, by omega, fun x H3 hx e3 hr3 => ?_⟩
    refine ⟨.ref ra, rfl, .int 5, rfl, .int z, rfl, 5, z, rfl, rfl, cmul_l (by decide), ra, sa, ns, 5 * z, rfl, hr3, by omega, fun y H4 hy e4 hr4 => ?_⟩
    refine ⟨.int z, rfl, _, ⟨x, y, z, rfl, by omega, rfl⟩, fun p H5 hn e5 hp => ?_⟩
    have lo := low_ok (x := x) (y := y) (w := z) (by omega)
    have le := low_le (x := x) (y := y) (w := z) (by omega)
    exact k p _ H5 ⟨lo, by omega⟩ hp (((e02.trans e3).trans e4).ex e5) (hr4.ex e5)
end
/-! ### ratios as the law reckons them -/
/-- numerator and denominator bounded -/
structure Rb (q : Int × Int) (n d : Int) : Prop where
  n : -n ≤ q.1 ∧ q.1 ≤ n
  d : 0 < q.2 ∧ q.2 ≤ d
theorem Rb.red {n d a b : Int} (h : -a ≤ n ∧ n ≤ a) (hd : 0 < d ∧ d ≤ b) : Rb (red n d) a b := by
  have := red_le (n := n) hd.1
  exact ⟨by omega, by omega⟩
theorem Rb.times {u v : Int × Int} {a b a' b' : Int} (hu : Rb u a b) (hv : Rb v a' b') (h : 0 ≤ a ∧ 0 ≤ a') : Rb (times u v) (a * a') (b * b') := by
  have hn := hu.n
  have hn' := hv.n
  have hd := hu.d
  have hd' := hv.d
  have m1 := abs_mul hn hn' h.1 h.2
  have m2 := abs_mul (x := u.2) (y := v.2) (a := b) (b := b') (by omega) (by omega) (by omega) (by omega)
  exact Rb.red m1 ⟨Int.mul_pos hd.1 hd'.1, m2.2⟩
theorem Rb.plus {u v : Int × Int} {a b a' b' : Int} (hu : Rb u a b) (hv : Rb v a' b') (h : 0 ≤ a ∧ 0 ≤ a') : Rb (plus u v) (a * b' + a' * b) (b * b') := by
  have hn := hu.n
  have hn' := hv.n
  have hd := hu.d
  have hd' := hv.d
  have m1 := abs_mul (x := u.1) (y := v.2) (a := a) (b := b') hn (by omega) h.1 (by omega)
  have m2 := abs_mul (x := v.1) (y := u.2) (a := a') (b := b) hn' (by omega) h.2 (by omega)
  have m3 := abs_mul (x := u.2) (y := v.2) (a := b) (b := b') (by omega) (by omega) (by omega) (by omega)
  exact Rb.red (by omega) ⟨Int.mul_pos hd.1 hd'.1, m3.2⟩
/-- two ratios at two places -/
def R2q (f : Int × Int → Int × Int → Int × Int) : List V → Hp → List V → Prop := fun vs H xs => ∃ (p q : Addr) (u v : Int × Int), vs = [.ref p, .ref q] ∧ H p = some (.tup (P2 u)) ∧ H q = some (.tup (P2 v)) ∧
  (Rb u 1000000000000000000 1000000000000000000 ∧ Rb v 1000000000000000000 1000000000000000000 ∧ u.2 * v.2 ≤ 1000000000000000000) ∧ xs = P2 (f u v)
section
variable {P : Program} {w : World} {K : PySem.W.Frag} {mg : Str → Option Value} {base : Heap}
theorem ok_times (T : Tx K mg) : FnOk P w K mg base CX0 3 (T.ad 31) (T.fd 31) pLTimes (spU (R2q times)) := by
  have GLRatio : FnOk P w K mg base CX0 2 (T.ad 29) (T.fd 29) pLRatio spRed := ok_lred T
  refine T.dLTimes.F.ok scLTimes (fun vs H Q E h => ?_) (fun cdv A outer s H vs Q E hr h => ?_)
  · obtain ⟨_, ⟨p, q, u, v, rfl, _⟩, _⟩ := h
    rfl
  · obtain ⟨_, ⟨p, q, u, v, rfl, hu, hv, ⟨bu, bv, bd⟩, rfl⟩, k⟩ := h
    refine ⟨_, (pss_one (ps_ret (pe_call GLRatio (hr.mono (by decide)) (by rfl) T.dLRatio.m T.dLRatio.F.kp T.dLRatio.b .nil pass0 (pa_cons (pe_op op_mul (pe_ix ix_tup (pv 0) pe_int (fun _ _ => rfl)) (pe_ix ix_tup (pv 1) pe_int (fun _ _ => rfl))) (pa_cons (pe_op op_mul (pe_ix ix_tup (pv 0) pe_int (fun _ _ => rfl)) (pe_ix ix_tup (pv 1) pe_int (fun _ _ => rfl))) pa_nil))))), ?_⟩
    have nu := bu.n
    have du := bu.d
    exact s_retU (eu_callU (ea_cons (ev_I (er_0 rfl hu) (er_0 rfl hv) (cmul_l nu)) (ea_cons (ev_I (er_1 rfl hu) (er_1 rfl hv) (cmul_l (by omega))) ea_nil)) fun H' _ => ⟨_, _, rfl, ⟨Int.mul_pos du.1 bv.d.1, bd⟩, rfl⟩) k
theorem ok_plus (T : Tx K mg) : FnOk P w K mg base CX0 3 (T.ad 30) (T.fd 30) pLPlus (spU (R2q plus)) := by
  have GLRatio : FnOk P w K mg base CX0 2 (T.ad 29) (T.fd 29) pLRatio spRed := ok_lred T
  refine T.dLPlus.F.ok scLPlus (fun vs H Q E h => ?_) (fun cdv A outer s H vs Q E hr h => ?_)
  · obtain ⟨_, ⟨p, q, u, v, rfl, _⟩, _⟩ := h
    rfl
  · obtain ⟨_, ⟨p, q, u, v, rfl, hu, hv, ⟨bu, bv, bd⟩, rfl⟩, k⟩ := h
    refine ⟨_, (pss_one (ps_ret (pe_call GLRatio (hr.mono (by decide)) (by rfl) T.dLRatio.m T.dLRatio.F.kp T.dLRatio.b .nil pass0 (pa_cons (pe_op op_add (pe_op op_mul (pe_ix ix_tup (pv 0) pe_int (fun _ _ => rfl)) (pe_ix ix_tup (pv 1) pe_int (fun _ _ => rfl))) (pe_op op_mul (pe_ix ix_tup (pv 1) pe_int (fun _ _ => rfl)) (pe_ix ix_tup (pv 0) pe_int (fun _ _ => rfl)))) (pa_cons (pe_op op_mul (pe_ix ix_tup (pv 0) pe_int (fun _ _ => rfl)) (pe_ix ix_tup (pv 1) pe_int (fun _ _ => rfl))) pa_nil))))), ?_⟩
    have nu := bu.n
    have nv := bv.n
    have du := bu.d
    exact s_retU (eu_callU (ea_cons (ev_I0 (ev_I (er_0 rfl hu) (er_1 rfl hv) (cmul_l nu)) (ev_I (er_0 rfl hv) (er_1 rfl hu) (cmul_l nv))) (ea_cons (ev_I (er_1 rfl hu) (er_1 rfl hv) (cmul_l (by omega))) ea_nil)) fun H' _ => ⟨_, _, rfl, ⟨Int.mul_pos du.1 bv.d.1, bd⟩, rfl⟩) k
end
end K1

set_option maxHeartbeats 4000000
/-! The law's comparison of two values: a value with itself, two equal pairs. -/
namespace K1
open PySem PySem.Spec PyProof.Rows L2 Evl
section
variable {K : PySem.W.Frag} {σ : L2.St} {H : Hp} {ta : TE} {x : V} {t : Value} {i : Nat} {b : Bool}
theorem ev_isN (h : Ev ta σ H x) : Ev (tIsN ta) σ H (.bl (decide (x = .non))) := fun H1 e _ q => h H1 e _ q
theorem ev_isiT {c d : String} (hx : σ[i]? = some (some x)) (ht : ∀ H1, Ex H H1 → TyX K H1 x t) (hk : PySem.W.kitAny K t [.type c, .type d] = some b) :
    Ev (tCB (rIsiT K) (tCons (tVar i) (tCons (tTup (tCons (tC (.ty c)) (tCons (tC (.ty d)) tNil))) tNil))) σ H (.bl b) := fun H1 e Q q =>
  ap_V (ev_var hx) (ap_U (eu_tup (ea_cons ev_c (ea_cons ev_c ea_nil)) (by show 2 ≤ 100000; decide)) ap_nil) H1 e _ fun vs H2 e2 hp => by
    obtain ⟨_, rfl, p, _, rfl, hp, rfl⟩ := hp
    exact ⟨x, p, [.ty c, .ty d], t, [.type c, .type d], b, rfl, hp, .cons (.ty _) (.cons (.ty _) .nil), ht H2 (e.trans e2), hk, q H2 e2⟩
end
theorem given_nil (n : Nat) (v : Nat → V) : given n (fun _ => false) v = [] := by
  unfold given
  rw [show (List.range n).filter (fun _ => false) = [] from List.filter_eq_nil_iff.mpr (fun _ _ h => nomatch h)]
  rfl
/-- an int or a bool -/
def Fl (x : V) : Prop := (∃ i, x = .int i) ∨ ∃ b, x = .bl b
def spFlat : Sp := spV fun vs _ v => ∃ x, Fl x ∧ vs = [x, x] ∧ v = .bl true
def spPairs : Sp := spV fun vs H v => ∃ (p q : Addr) (u : Int × Int), vs = [.ref p, .ref q] ∧ H p = some (.tup (P2 u)) ∧ H q = some (.tup (P2 u)) ∧ v = .bl true
section
variable {P : Program} {w : World} {K : PySem.W.Frag} {mg : Str → Option Value} {base : Heap}
theorem ok_flat (T : Tx K mg) : FnOk P w K mg base CX0 1 (T.ad 32) (T.fd 32) pLAlike spFlat := by
  refine T.dLAlike.F.ok scLAlike (fun vs H Q E h => ?_) (fun cdv A outer s H vs Q E hr h => ?_)
  · obtain ⟨_, ⟨x, _, rfl, _⟩, _⟩ := h
    rfl
  · obtain ⟨_, ⟨x, hx, rfl, rfl⟩, k⟩ := h
    refine ⟨_, pss_cons (ps_if (pt_val (pe_callB call_isiT (by rfl) T.zisinstance (by decide +kernel) (pa_cons (pv 1) (pa_cons (pe_tup (pa_cons (pe_bltn (v := .ty "tuple") (by rfl) T.ztuple (by decide +kernel) rfl) (pa_cons (pe_bltn (v := .ty "list") (by rfl) T.zlist (by decide +kernel) rfl) pa_nil))) pa_nil)))) pss_never pss_nil) (pss_cons (ps_if (PW.pt (pw_or (pt_cmp (pc_isN (pv 1))) (pw_or1 (pt_val (pe_callB call_isi (by rfl) T.zisinstance (by decide +kernel) (pa_cons (pv 1) (pa_cons (pe_bltn (v := .ty "str") (by rfl) T.zstr (by decide +kernel) rfl) pa_nil))))))) pss_never pss_nil) (pss_one (ps_ret (pe_and (pe_callB call_isi (by rfl) T.zisinstance (by decide +kernel) (pa_cons (pv 0) (pa_cons (pe_bltn (v := .ty "int") (by rfl) T.zint (by decide +kernel) rfl) pa_nil))) (pe_and (pe_cmpR op_eq (pe_callB call_isi (by rfl) T.zisinstance (by decide +kernel) (pa_cons (pv 0) (pa_cons (pe_bltn (v := .ty "bool") (by rfl) T.zbool (by decide +kernel) rfl) pa_nil))) (pe_callB call_isi (by rfl) T.zisinstance (by decide +kernel) (pa_cons (pv 1) (pa_cons (pe_bltn (v := .ty "bool") (by rfl) T.zbool (by decide +kernel) rfl) pa_nil))) (nomark _)) (pe_one (pe_cmpR op_eq (pv 0) (pv 1) (nomark _)))))))), ?_⟩
    obtain ⟨t, ht, a1, a2, a3, a4, a5, a6⟩ : ∃ t : String, (∀ H1 : Hp, TyX K H1 x (.type t)) ∧ kitB t "tuple" = some false ∧ kitB t "list" = some false ∧ kitB t "str" = some false ∧ kitB t "int" = some true ∧ (∃ b, kitB t "bool" = some b) ∧ decide (x = .non) = false := by
      rcases hx with ⟨i, rfl⟩ | ⟨i, rfl⟩
      · exact ⟨"int", fun _ => .base (.int _), by decide +kernel, by decide +kernel, by decide +kernel, by decide +kernel, ⟨false, by decide +kernel⟩, rfl⟩
      · exact ⟨"bool", fun _ => .base (.bl _), by decide +kernel, by decide +kernel, by decide +kernel, by decide +kernel, ⟨true, by decide +kernel⟩, rfl⟩
    obtain ⟨b, a5⟩ := a5
    have sc : scal x x = true := by
      rcases hx with ⟨i, rfl⟩ | ⟨i, rfl⟩ <;> rfl
    refine q_when (b := false) (et_B (ev_isiT (i := 1) rfl (fun H1 _ => ht H1) (kitAny_cons (kit_ty a1) (fun _ => kitAny_cons (kit_ty a2) (fun _ => kitAny_nil) (fun z => nomatch z)) (fun z => nomatch z)))) (fun z => nomatch z) fun _ H1 e1 => ?_
    refine q_when (b := false) (et_or (a := false) (b := false) (et_B (ev_is (ev_isN (ev_var (i := 1) rfl)) (by rw [a6]))) (fun _ => et_B (ev_isi (i := 1) rfl (fun H1 _ => ht H1) (kit_ty a3)))) (fun z => nomatch z) fun _ H2 e2 => ?_
    refine s_ret (ev_is (ev_andV (a := true) (b := true) (ev_isi (i := 0) rfl (fun H1 _ => ht H1) (kit_ty a4)) (fun _ => ev_is (ev_andV (a := true) (b := true)
      (ev_is (ev_op (ev_isi (i := 0) rfl (fun H1 _ => ht H1) (kit_ty a5)) (ev_isi (i := 1) rfl (fun H1 _ => ht H1) (kit_ty a5)) (rv_eq rfl)) (by rw [decide_eq_true rfl]))
      (fun _ => ev_is (ev_op (ev_var (i := 0) rfl) (ev_var (i := 1) rfl) (rv_eq sc)) (by rw [decide_eq_true rfl]))) rfl)) rfl) fun H3 e3 => k H3 ((e1.trans e2).trans e3)
theorem ok_pairs (T : Tx K mg) : FnOk P w K mg base CX0 2 (T.ad 32) (T.fd 32) pLAlike spPairs := by
  have GLAlike : FnOk P w K mg base CX0 1 (T.ad 32) (T.fd 32) pLAlike spFlat := ok_flat T
  refine T.dLAlike.F.ok scLAlike (fun vs H Q E h => ?_) (fun cdv A outer s H vs Q E hr h => ?_)
  · obtain ⟨_, ⟨p, q, u, rfl, _⟩, _⟩ := h
    rfl
  · obtain ⟨_, ⟨p, q, u, rfl, hp, hq, rfl⟩, k⟩ := h
    refine ⟨_, pss_cons (ps_if (pt_val (pe_callB call_isiT (by rfl) T.zisinstance (by decide +kernel) (pa_cons (pv 1) (pa_cons (pe_tup (pa_cons (pe_bltn (v := .ty "tuple") (by rfl) T.ztuple (by decide +kernel) rfl) (pa_cons (pe_bltn (v := .ty "list") (by rfl) T.zlist (by decide +kernel) rfl) pa_nil))) pa_nil)))) (pss_cons (ps_if (PW.pt (pw_or (pt_not (pt_val (pe_callB call_isiT (by rfl) T.zisinstance (by decide +kernel) (pa_cons (pv 0) (pa_cons (pe_tup (pa_cons (pe_bltn (v := .ty "tuple") (by rfl) T.ztuple (by decide +kernel) rfl) (pa_cons (pe_bltn (v := .ty "list") (by rfl) T.zlist (by decide +kernel) rfl) pa_nil))) pa_nil))))) (pw_or1 (pt_cmpR op_ne (pe_callB call_isi (by rfl) T.zisinstance (by decide +kernel) (pa_cons (pv 0) (pa_cons (pe_bltn (v := .ty "list") (by rfl) T.zlist (by decide +kernel) rfl) pa_nil))) (pe_callB call_isi (by rfl) T.zisinstance (by decide +kernel) (pa_cons (pv 1) (pa_cons (pe_bltn (v := .ty "list") (by rfl) T.zlist (by decide +kernel) rfl) pa_nil))) (nomark _))))) (pss_one (ps_ret pe_bl)) pss_nil)
      (pss_cons (ps_if (pt_cmpR op_ne (pe_callB call_len_seq (by rfl) T.zlen PySem.boot_len (pa_cons (pv 0) pa_nil)) (pe_callB call_len_seq (by rfl) T.zlen PySem.boot_len (pa_cons (pv 1) pa_nil)) (nomark _)) (pss_one (ps_ret pe_bl)) pss_nil)
      (pss_one (ps_ret (pe_cmpR (op_eqD hr.units) (pe_lc (own := [("_law_k", 2)]) (g := gName 2) (by rfl) scLAlike.nd (pi_range1 (by rfl) T.zrange (pa_cons (pe_callB call_len_seq (by rfl) T.zlen PySem.boot_len (pa_cons (pv 1) pa_nil)) pa_nil)) (blkOk_by (N := nLAlike) (sc := defScope sLAlike) (by decide +kernel)) (fun _ _ _ _ _ => pg_name (i := 2) scLAlike.nd rfl (Or.inl rfl)) (fun _ _ _ _ _ => pts_one (pt_not (pt_val (pe_call GLAlike (hr.mono (by decide)) (by rfl) T.dLAlike.m T.dLAlike.F.kp T.dLAlike.b .nil pass0 (pa_cons (pe_ix (show IxR _ (rIxT K) from ix_tup) (pv 0) (pv 2) (fun _ _ => rfl)) (pa_cons (pe_ix (show IxR _ (rIxT K) from ix_tup) (pv 1) (pv 2) (fun _ _ => rfl)) pa_nil)))))) (fun _ _ _ _ _ => (pv 2))) (pe_lst pa_nil) (nomark _)))))) pss_nil) pss_never, ?_⟩
    have tp : ∀ H1, Ex H H1 → TyX K H1 (.ref p) (.type "tuple") := fun H1 e => .base (.tup (e _ _ hp))
    have tq : ∀ H1, Ex H H1 → TyX K H1 (.ref q) (.type "tuple") := fun H1 e => .base (.tup (e _ _ hq))
    have yes : PySem.W.kitAny K (.type "tuple") [.type "tuple", .type "list"] = some true := kitAny_cons (b := true) (kit_ty (by decide +kernel)) (fun z => nomatch z) (fun _ => rfl)
    have no : PySem.W.kitOne K (.type "tuple") (.type "list") = some false := kit_ty (by decide +kernel)
    refine q_when (b := true) (et_B (ev_isiT (i := 1) rfl tq yes)) (fun _ H1 e1 => ?_) (fun z => nomatch z)
    have tp1 : ∀ H2, Ex H1 H2 → TyX K H2 (.ref p) (.type "tuple") := fun H2 e => tp H2 (e1.trans e)
    have tq1 : ∀ H2, Ex H1 H2 → TyX K H2 (.ref q) (.type "tuple") := fun H2 e => tq H2 (e1.trans e)
    refine q_when (b := false) (et_or (a := false) (b := false) (et_not (a := true) (et_B (ev_isiT (i := 0) rfl tp1 yes))) (fun _ => et_test (ev_is (ev_op (ev_isi (i := 0) rfl tp1 no) (ev_isi (i := 1) rfl tq1 no) (rv_ne rfl)) rfl))) (fun z => nomatch z) fun _ H2 e2 => ?_
    have hp2 := e2 _ _ (e1 _ _ hp)
    have hq2 := e2 _ _ (e1 _ _ hq)
    refine q_when (b := false) (et_test (ev_is (ev_op (ev_lenT (ev_var (i := 0) rfl) (st_of hp2)) (ev_lenT (ev_var (i := 1) rfl) (st_of hq2)) (rv_ne rfl)) rfl)) (fun z => nomatch z) fun _ H3 e3 => ?_
    have hp3 := e3 _ _ hp2
    have hq3 := e3 _ _ hq2
    refine s_ret (v := .bl true) (ev_opLL (xs := []) (ys := []) ?_ (el_lst ea_nil (by show 0 ≤ 100000; decide)) (fun a b H4 ha hb _ => rv_val fun H5 e5 Q z => ⟨.list [], .list [], .lst (sq_of (e5 _ _ ha)) .nil, .lst (sq_of (e5 _ _ hb)) .nil, rfl, rfl, z⟩)) fun H4 e4 => k H4 (((e1.trans e2).trans e3).trans e4)
    rw [← given_nil (2 : Int).toNat (fun _ => V.non)]
    refine el_lcR1 (n := 2) (fun _ => false) (fun _ => V.non) (ea_cons (ev_lenT (ev_var (i := 1) rfl) (st_of hq3)) ea_nil) (by decide) (fun x => rfl) (fun i H4 e4 hi => ?_) (fun _ _ _ _ z => nomatch z)
    obtain ⟨z, hz⟩ : ∃ z : Int, (P2 u)[i]? = some (.int z) := by
      match i, hi with
      | 0, _ => exact ⟨u.1, rfl⟩
      | 1, _ => exact ⟨u.2, rfl⟩
      | n + 2, hi => omega
    exact et_not (a := true) (et_B (ev_callV (ea_cons (ev_op (ev_var (i := 0) rfl) (ev_var (i := 2) rfl) (rv_ixT (st_of (e4 _ _ hp3)) (atI_nat hz))) (ea_cons (ev_op (ev_var (i := 1) rfl) (ev_var (i := 2) rfl) (rv_ixT (st_of (e4 _ _ hq3)) (atI_nat hz))) ea_nil)) fun H' _ => ⟨.int z, .inl ⟨z, rfl⟩, rfl, rfl⟩))
end
end K1

set_option maxHeartbeats 8000000
/-! The law's own def: three turns over drawn points. -/
namespace K1
open PySem PySem.Spec PyProof.Rows L2 Evl
/-! ### sizes -/
theorem Rb.mono {q : Int × Int} {n d n' d' : Int} (h : Rb q n d) (hn : n ≤ n') (hd : d ≤ d') : Rb q n' d' := by
  have h1 := h.n
  have h2 := h.d
  exact ⟨by omega, by omega⟩
/-- what plus and times ask -/
abbrev B3 (u v : Int × Int) : Prop := Rb u 1000000000000000000 1000000000000000000 ∧ Rb v 1000000000000000000 1000000000000000000 ∧ u.2 * v.2 ≤ 1000000000000000000
theorem b3 {u v : Int × Int} {a b a' b' : Int} (hu : Rb u a b) (hv : Rb v a' b') (h : a ≤ 1000000000000000000 ∧ b ≤ 1000000000000000000 ∧ a' ≤ 1000000000000000000 ∧ b' ≤ 1000000000000000000 ∧ b * b' ≤ 1000000000000000000) : B3 u v := by
  have d1 := hu.d
  have d2 := hv.d
  have m := abs_mul (x := u.2) (y := v.2) (a := b) (b := b') (by omega) (by omega) (by omega) (by omega)
  exact ⟨hu.mono h.1 h.2.1, hv.mono h.2.2.1 h.2.2.2.1, by omega⟩
theorem area_b {a b c : Pt} (ha : Sm a) (hb : Sm b) (hc : Sm c) : Rb (area a b c) 109350 729 := by
  have x1 := ha.b
  have x2 := hb.b
  have x3 := hc.b
  have w1 := ha.ok.w
  have w2 := hb.ok.w
  have w3 := hc.ok.w
  have p1 := abs_mul (x := b.y) (y := c.w) (a := 45) (b := 9) (by omega) (by omega) (by decide) (by decide)
  have p2 := abs_mul (x := c.y) (y := b.w) (a := 45) (b := 9) (by omega) (by omega) (by decide) (by decide)
  have p3 := abs_mul (x := b.x) (y := c.w) (a := 45) (b := 9) (by omega) (by omega) (by decide) (by decide)
  have p4 := abs_mul (x := c.x) (y := b.w) (a := 45) (b := 9) (by omega) (by omega) (by decide) (by decide)
  have p5 := abs_mul (x := b.x) (y := c.y) (a := 45) (b := 45) (by omega) (by omega) (by decide) (by decide)
  have p6 := abs_mul (x := c.x) (y := b.y) (a := 45) (b := 45) (by omega) (by omega) (by decide) (by decide)
  have q1 := abs_mul (x := a.x) (y := b.y * c.w - c.y * b.w) (a := 45) (b := 810) (by omega) (by omega) (by decide) (by decide)
  have q2 := abs_mul (x := a.y) (y := b.x * c.w - c.x * b.w) (a := 45) (b := 810) (by omega) (by omega) (by decide) (by decide)
  have q3 := abs_mul (x := a.w) (y := b.x * c.y - c.x * b.y) (a := 9) (b := 4050) (by omega) (by omega) (by decide) (by decide)
  have r1 := abs_mul (x := a.w) (y := b.w) (a := 9) (b := 9) (by omega) (by omega) (by decide) (by decide)
  have r2 := abs_mul (x := a.w * b.w) (y := c.w) (a := 81) (b := 9) (by omega) (by omega) (by decide) (by decide)
  refine Rb.red ?_ ⟨Int.mul_pos (Int.mul_pos w1 w2) w3, by omega⟩
  unfold D
  omega
/-! ### the point on the line -/
def first (a b : Pt) (k m : Int) : Int × Int := plus (times (a.x, a.w) (m - k, m)) (times (b.x, b.w) (k, m))
def second (a b : Pt) (k m : Int) : Int × Int := plus (times (a.y, a.w) (m - k, m)) (times (b.y, b.w) (k, m))
def on (a b : Pt) (k m : Int) : Pt := low ((first a b k m).1 * (second a b k m).2) ((second a b k m).1 * (first a b k m).2) ((first a b k m).2 * (second a b k m).2)
theorem mix_b {x y z t k m : Int} (hx : -45 ≤ x ∧ x ≤ 45) (hz : 0 < z ∧ z ≤ 9) (hy : -45 ≤ y ∧ y ≤ 45) (ht : 0 < t ∧ t ≤ 9) (hk : -4 ≤ k ∧ k ≤ 4) (hm : 0 < m ∧ m ≤ 3) :
    Rb (times (x, z) (m - k, m)) 315 27 ∧ Rb (times (y, t) (k, m)) 180 27 ∧ Rb (plus (times (x, z) (m - k, m)) (times (y, t) (k, m))) 13365 729 := by
  have r1 : Rb (x, z) 45 9 := ⟨hx, hz⟩
  have r2 : Rb (y, t) 45 9 := ⟨hy, ht⟩
  have r3 : Rb (m - k, m) 7 3 := ⟨(show -7 ≤ m - k ∧ m - k ≤ 7 by omega), hm⟩
  have r4 : Rb (k, m) 4 3 := ⟨hk, hm⟩
  have t1 := r1.times r3 (by decide)
  have t2 := r2.times r4 (by decide)
  exact ⟨t1, t2, (t1.plus t2 (by decide)).mono (by decide) (by decide)⟩
theorem mix_rt {x y z t k m : Int} (hz : 0 < z) (ht : 0 < t) (hm : 0 < m) : Rt (plus (times (x, z) (m - k, m)) (times (y, t) (k, m))) (x * t * (m - k) + y * z * k) (z * t * m) := by
  have r1 : Rt (x, z) x z := ⟨rfl, hz⟩
  have r2 : Rt (y, t) y t := ⟨rfl, ht⟩
  have r3 : Rt (m - k, m) (m - k) m := ⟨rfl, hm⟩
  have r4 : Rt (k, m) k m := ⟨rfl, hm⟩
  have r := (r1.times r3).plus (r2.times r4)
  refine r.same (Int.mul_pos (Int.mul_pos hz hm) (Int.mul_pos ht hm)) ?_
  grind
theorem on_on {a b : Pt} {k m : Int} (ha : 0 < a.w) (hb : 0 < b.w) (hm : 0 < m) : On a b (on a b k m) k m := by
  have r1 := mix_rt (x := a.x) (y := b.x) (k := k) ha hb hm
  have r2 := mix_rt (x := a.y) (y := b.y) (k := k) ha hb hm
  have l := low_rt (x := (first a b k m).1 * (second a b k m).2) (y := (second a b k m).1 * (first a b k m).2) (w := (first a b k m).2 * (second a b k m).2) (Int.mul_pos r1.2 r2.2)
  have z : (first a b k m).2 * (second a b k m).2 ≠ 0 := Int.ne_of_gt (Int.mul_pos r1.2 r2.2)
  obtain ⟨h1, p1⟩ := r1
  obtain ⟨h2, p2⟩ := r2
  obtain ⟨l1, l2⟩ := l
  change (first a b k m).1 * _ = _ * (first a b k m).2 at h1
  change (second a b k m).1 * _ = _ * (second a b k m).2 at h2
  change (on a b k m).x * _ = _ * (on a b k m).w at l1
  change (on a b k m).y * _ = _ * (on a b k m).w at l2
  generalize on a b k m = o at *
  generalize first a b k m = f at *
  generalize second a b k m = g at *
  refine ⟨?_, ?_⟩
  · apply Int.eq_of_mul_eq_mul_right z
    have : o.x * (a.w * b.w * m) * (f.2 * g.2) = (o.x * (f.2 * g.2)) * (a.w * b.w * m) := by grind
    rw [this, l1]
    have : f.1 * g.2 * o.w * (a.w * b.w * m) = (f.1 * (a.w * b.w * m)) * (g.2 * o.w) := by grind
    rw [this, h1]
    grind
  · apply Int.eq_of_mul_eq_mul_right z
    have : o.y * (a.w * b.w * m) * (f.2 * g.2) = (o.y * (f.2 * g.2)) * (a.w * b.w * m) := by grind
    rw [this, l2]
    have : g.1 * f.2 * o.w * (a.w * b.w * m) = (g.1 * (a.w * b.w * m)) * (f.2 * o.w) := by grind
    rw [this, h2]
    grind
/-! ### readings -/
section
variable {K : PySem.W.Frag} {σ : L2.St} {H : Hp} {tA ta tb te : TA} {tx ty : TE} {E : XK} {D : Ends} {tz : TS}
theorem eu_2q {f : Int × Int → Int × Int → Int × Int} {u v : Int × Int} (h1 : EvU tx σ H (P2 u)) (h2 : EvU ty σ H (P2 v)) (hb : B3 u v) : EvU (tCall (spU (R2q f)) [] E (tCons tx (tCons ty tNil))) σ H (P2 (f u v)) :=
  eu_callP (ap_U h1 (ap_U h2 ap_nil)) fun vs H' e hp => by
    obtain ⟨p, _, rfl, h3, q, _, rfl, h4, rfl⟩ := hp
    exact ⟨p, q, u, v, rfl, h3, h4, hb, rfl⟩
/-- two names that hold ratios -/
theorem ap_name {p : Addr} {xs : List V} {i : Nat} {tr : TA} {P : List V → Hp → Prop} (hs : σ[i]? = some (some (.ref p))) (h : H p = some (.tup xs)) (hr : EvAP tr σ H P) : EvAP (tCons (tVar i) tr) σ H (fun vs H' => ∃ p r, vs = .ref p :: r ∧ H' p = some (.tup xs) ∧ P r H') := fun H1 e _ q =>
  ev_var hs H1 e _ fun H2 e2 => hr H2 (e.trans e2) _ fun r H3 e3 hp => q _ H3 (e2.trans e3) ⟨p, r, rfl, e3 _ _ (e2 _ _ (e _ _ h)), hp⟩
theorem eu_2n {f : Int × Int → Int × Int → Int × Int} {u v : Int × Int} {p q : Addr} {i j : Nat} (s1 : σ[i]? = some (some (.ref p))) (s2 : σ[j]? = some (some (.ref q))) (h1 : H p = some (.tup (P2 u))) (h2 : H q = some (.tup (P2 v))) (hb : B3 u v) :
    EvU (tCall (spU (R2q f)) [] E (tCons (tVar i) (tCons (tVar j) tNil))) σ H (P2 (f u v)) :=
  eu_callP (ap_name s1 h1 (ap_name s2 h2 ap_nil)) fun vs H' e hp => by
    obtain ⟨p, _, rfl, h3, q, _, rfl, h4, rfl⟩ := hp
    exact ⟨p, q, u, v, rfl, h3, h4, hb, rfl⟩
theorem q_par3 {i j l : Nat} (h : tA σ H fun vs H1 => ∃ u v w, vs = [u, v, w] ∧ tz D (((σ.set i (some u)).set j (some v)).set l (some w)) H1) : tSeq (tPar3 i j l tA) tz D σ H := h
theorem q_par2 {i j : Nat} (h : tA σ H fun vs H1 => ∃ v w, vs = [v, w] ∧ tz D ((σ.set i (some v)).set j (some w)) H1) : tSeq (tPar i j tA) tz D σ H := h
theorem q_name {i : Nat} (h : tx σ H fun v H1 => tz D (σ.set i (some v)) H1) : tSeq (tAsg tx (gName i)) tz D σ H := h
theorem rv_nePair {p q : Addr} {u : Int × Int} (h1 : H p = some (.tup (P2 u))) (h2 : H q = some (.tup (P2 u))) : RV (rNeD K) (.ref p) (.ref q) H (.bl false) := fun H1 e Q k =>
  ⟨.tuple [.int u.1, .int u.2], .tuple [.int u.1, .int u.2], .tup (st_of (e _ _ h1)) (.cons (.int _) (.cons (.int _) .nil)), .tup (st_of (e _ _ h2)) (.cons (.int _) (.cons (.int _) .nil)), rfl, rfl, by
    rw [show PyData.eqv (.tuple [.int u.1, .int u.2]) (.tuple [.int u.1, .int u.2]) = true by simp [PyData.eqv, PyData.eqvAll]]
    exact k H1 (Ex.refl H1)⟩
end
theorem ne_same {x : V} : (!decide (x = x)) = false := by rw [decide_eq_true rfl]; rfl
end K1

set_option maxHeartbeats 16000000
/-! The law's own def: the loop over range(3), one turn for all. -/
namespace K1
open PySem PySem.Spec PyProof.Rows L2 Evl
def spLaw (K : PySem.W.Frag) : Sp := fun vs H Q _ => ∃ (a : Addr) (ns : List Int), vs = [.ref a] ∧ SqL K H a (ns.map V.int) ∧ ∀ H', Q (.bl true) H'
/-- what holds between two turns: the script and the row in their slots, the rest whatever it be -/
def Turn0 (K : PySem.W.Frag) (ns : List Int) (sa ra : Addr) (σ : L2.St) (H : Hp) : Prop :=
  (∃ y2 y3 y4 y5 y6 y7 y8 y9 y10 y11 y12 y13 y14 y15 y16, σ = [some (.ref sa), some (.ref ra), y2, y3, y4, y5, y6, y7, y8, y9, y10, y11, y12, y13, y14, y15, y16]) ∧ RowAt K ns sa ra H
section
variable {P : Program} {w : World} {K : PySem.W.Frag} {mg : Str → Option Value} {base : Heap}
theorem ok_law {f : Addr} {fd : FuncData} (F : Fun K "law" "law" sLaw f fd) (T : Tx K mg) : FnOk P w K mg base CX0 6 f fd pLaw (spLaw K) := by
  have GLPoint : FnOk P w K mg base CX0 3 (T.ad 28) (T.fd 28) pLPoint (spPoint K) := ok_point T
  have GLSigned : FnOk P w K mg base CX0 2 (T.ad 27) (T.fd 27) pLSigned (spSigned K) := ok_signed T
  have GLTaken : FnOk P w K mg base CX0 1 (T.ad 23) (T.fd 23) pLTaken (spTaken K) := ok_taken T
  have GLPick : FnOk P w K mg base CX0 2 (T.ad 24) (T.fd 24) pLPick (spPick K) := ok_pick T
  have GLPlus : FnOk P w K mg base CX0 3 (T.ad 30) (T.fd 30) pLPlus (spU (R2q plus)) := ok_plus T
  have GLTimes : FnOk P w K mg base CX0 3 (T.ad 31) (T.fd 31) pLTimes (spU (R2q times)) := ok_times T
  have GLLowest : FnOk P w K mg base CX0 2 (T.ad 26) (T.fd 26) pLLowest spLow := ok_llow T
  have GTurn : FnOk P w K mg base CX0 5 (T.ad 17) (T.fd 17) pTurn spTurn := ok_turn T
  have GArea2 : FnOk P w K mg base CX0 5 (T.ad 19) (T.fd 19) pArea2 spArea := ok_area2 T
  have GBetween : FnOk P w K mg base CX0 5 (T.ad 21) (T.fd 21) pBetween spBtw := ok_between T
  have GLTurn : FnOk P w K mg base CX0 2 (T.ad 35) (T.fd 35) pLTurn spTurn := ok_lturn T
  have GLArea2 : FnOk P w K mg base CX0 3 (T.ad 36) (T.fd 36) pLArea2 spArea := ok_larea2 T
  have GLBetween : FnOk P w K mg base CX0 3 (T.ad 38) (T.fd 38) pLBetween spBtw := ok_lbetween T
  have GFlat : FnOk P w K mg base CX0 1 (T.ad 32) (T.fd 32) pLAlike spFlat := ok_flat T
  have GPairs : FnOk P w K mg base CX0 2 (T.ad 32) (T.fd 32) pLAlike spPairs := ok_pairs T
  refine F.ok scLaw (fun vs H Q E h => ?_) (fun cdv A outer s H vs Q E hr h => ?_)
  · obtain ⟨a, ns, rfl, _⟩ := h
    rfl
  · obtain ⟨sa, ns, rfl, hS, k⟩ := h
    refine ⟨_, (pss_cons (ps_set (i := 1) scLaw.nd rfl (.inl rfl) (pe_lst (pa_cons (pv 0) (pa_cons pe_int (pa_cons pe_int (pa_cons pe_int pa_nil))))))
      (pss_cons (ps_for PassesOwn.never rfl (pi_range1 (by rfl) T.zrange (pa_cons pe_int pa_nil)) (pg_name (i := 2) scLaw.nd rfl (.inl rfl)) (pss_cons (ps_par3 (i := 3) (j := 4) (l := 5) (by rfl) scLaw.nd rfl rfl rfl (by decide) (by decide) (by decide) rfl rfl rfl (pa_cons (pe_call GLPoint (hr.mono (by decide)) (by rfl) T.dLPoint.m T.dLPoint.F.kp T.dLPoint.b .nil pass0 (pa_cons (pv 1) (pa_cons pe_int pa_nil))) (pa_cons (pe_call GLPoint (hr.mono (by decide)) (by rfl) T.dLPoint.m T.dLPoint.F.kp T.dLPoint.b .nil pass0 (pa_cons (pv 1) (pa_cons pe_int pa_nil))) (pa_cons (pe_call GLPoint (hr.mono (by decide)) (by rfl) T.dLPoint.m T.dLPoint.F.kp T.dLPoint.b .nil pass0 (pa_cons (pv 1) (pa_cons pe_int pa_nil))) pa_nil))) (by rfl))
      (pss_cons (ps_par (i := 6) (j := 7) (by rfl) scLaw.nd rfl rfl (by decide) rfl rfl (pa_cons (pe_call GLSigned (hr.mono (by decide)) (by rfl) T.dLSigned.m T.dLSigned.F.kp T.dLSigned.b .nil pass0 (pa_cons (pv 1) (pa_cons pe_int pa_nil))) (pa_cons (pe_op op_add pe_int (pe_call GLTaken (hr.mono (by decide)) (by rfl) T.dLTaken.m T.dLTaken.F.kp T.dLTaken.b .nil pass0 (pa_cons (pv 1) (pa_cons pe_int pa_nil)))) pa_nil)) (by rfl))
      (pss_cons (ps_set (i := 8) scLaw.nd rfl (.inl rfl) (pe_call GLPlus (hr.mono (by decide)) (by rfl) T.dLPlus.m T.dLPlus.F.kp T.dLPlus.b .nil pass0 (pa_cons (pe_call GLTimes (hr.mono (by decide)) (by rfl) T.dLTimes.m T.dLTimes.F.kp T.dLTimes.b .nil pass0 (pa_cons (pe_tup (pa_cons (pe_ix ix_tup (pv 3) pe_int (fun _ _ => rfl)) (pa_cons (pe_ix ix_tup (pv 3) pe_int (fun _ _ => rfl)) pa_nil))) (pa_cons (pe_tup (pa_cons (pe_op op_sub (pv 7) (pv 6)) (pa_cons (pv 7) pa_nil))) pa_nil))) (pa_cons (pe_call GLTimes (hr.mono (by decide)) (by rfl) T.dLTimes.m T.dLTimes.F.kp T.dLTimes.b .nil pass0 (pa_cons (pe_tup (pa_cons (pe_ix ix_tup (pv 4) pe_int (fun _ _ => rfl)) (pa_cons (pe_ix ix_tup (pv 4) pe_int (fun _ _ => rfl)) pa_nil))) (pa_cons (pe_tup (pa_cons (pv 6) (pa_cons (pv 7) pa_nil))) pa_nil))) pa_nil))))
      (pss_cons (ps_set (i := 9) scLaw.nd rfl (.inl rfl) (pe_call GLPlus (hr.mono (by decide)) (by rfl) T.dLPlus.m T.dLPlus.F.kp T.dLPlus.b .nil pass0 (pa_cons (pe_call GLTimes (hr.mono (by decide)) (by rfl) T.dLTimes.m T.dLTimes.F.kp T.dLTimes.b .nil pass0 (pa_cons (pe_tup (pa_cons (pe_ix ix_tup (pv 3) pe_int (fun _ _ => rfl)) (pa_cons (pe_ix ix_tup (pv 3) pe_int (fun _ _ => rfl)) pa_nil))) (pa_cons (pe_tup (pa_cons (pe_op op_sub (pv 7) (pv 6)) (pa_cons (pv 7) pa_nil))) pa_nil))) (pa_cons (pe_call GLTimes (hr.mono (by decide)) (by rfl) T.dLTimes.m T.dLTimes.F.kp T.dLTimes.b .nil pass0 (pa_cons (pe_tup (pa_cons (pe_ix ix_tup (pv 4) pe_int (fun _ _ => rfl)) (pa_cons (pe_ix ix_tup (pv 4) pe_int (fun _ _ => rfl)) pa_nil))) (pa_cons (pe_tup (pa_cons (pv 6) (pa_cons (pv 7) pa_nil))) pa_nil))) pa_nil))))
      (pss_cons (ps_set (i := 10) scLaw.nd rfl (.inl rfl) (pe_call GLLowest (hr.mono (by decide)) (by rfl) T.dLLowest.m T.dLLowest.F.kp T.dLLowest.b .nil pass0 (pa_cons (pe_op op_mul (pe_ix ix_tup (pv 8) pe_int (fun _ _ => rfl)) (pe_ix ix_tup (pv 9) pe_int (fun _ _ => rfl))) (pa_cons (pe_op op_mul (pe_ix ix_tup (pv 9) pe_int (fun _ _ => rfl)) (pe_ix ix_tup (pv 8) pe_int (fun _ _ => rfl))) (pa_cons (pe_op op_mul (pe_ix ix_tup (pv 8) pe_int (fun _ _ => rfl)) (pe_ix ix_tup (pv 9) pe_int (fun _ _ => rfl))) pa_nil)))))
      (pss_cons (ps_set (i := 11) scLaw.nd rfl (.inl rfl) (pe_call GLPick (hr.mono (by decide)) (by rfl) T.dLPick.m T.dLPick.F.kp T.dLPick.b .nil pass0 (pa_cons (pv 1) (pa_cons (pe_lst (pa_cons (pv 5) (pa_cons (pv 10) (pa_cons (pv 3) (pa_cons (pv 4) pa_nil))))) pa_nil))))
      (pss_cons (ps_if (pt_not (pt_val (pe_call GFlat (hr.mono (by decide)) (by rfl) T.dLAlike.m T.dLAlike.F.kp T.dLAlike.b .nil pass0 (pa_cons (pe_call GTurn (hr.mono (by decide)) (by rfl) T.dTurn.m T.dTurn.F.kp T.dTurn.b .nil pass0 (pa_cons (pv 3) (pa_cons (pv 4) (pa_cons (pv 11) pa_nil)))) (pa_cons (pe_call GLTurn (hr.mono (by decide)) (by rfl) T.dLTurn.m T.dLTurn.F.kp T.dLTurn.b .nil pass0 (pa_cons (pv 3) (pa_cons (pv 4) (pa_cons (pv 11) pa_nil)))) pa_nil))))) (pss_one (ps_ret pe_bl)) pss_nil)
      (pss_cons (ps_if (pt_not (pt_val (pe_call GPairs (hr.mono (by decide)) (by rfl) T.dLAlike.m T.dLAlike.F.kp T.dLAlike.b .nil pass0 (pa_cons (pe_call GArea2 (hr.mono (by decide)) (by rfl) T.dArea2.m T.dArea2.F.kp T.dArea2.b .nil pass0 (pa_cons (pv 3) (pa_cons (pv 4) (pa_cons (pv 11) pa_nil)))) (pa_cons (pe_call GLArea2 (hr.mono (by decide)) (by rfl) T.dLArea2.m T.dLArea2.F.kp T.dLArea2.b .nil pass0 (pa_cons (pv 3) (pa_cons (pv 4) (pa_cons (pv 11) pa_nil)))) pa_nil))))) (pss_one (ps_ret pe_bl)) pss_nil)
      (pss_cons (ps_if (pt_not (pt_val (pe_call GFlat (hr.mono (by decide)) (by rfl) T.dLAlike.m T.dLAlike.F.kp T.dLAlike.b .nil pass0 (pa_cons (pe_call GBetween (hr.mono (by decide)) (by rfl) T.dBetween.m T.dBetween.F.kp T.dBetween.b .nil pass0 (pa_cons (pv 3) (pa_cons (pv 4) (pa_cons (pv 11) pa_nil)))) (pa_cons (pe_call GLBetween (hr.mono (by decide)) (by rfl) T.dLBetween.m T.dLBetween.F.kp T.dLBetween.b .nil pass0 (pa_cons (pv 3) (pa_cons (pv 4) (pa_cons (pv 11) pa_nil)))) pa_nil))))) (pss_one (ps_ret pe_bl)) pss_nil)
      (pss_cons (ps_if (PW.pt (pw_and (pt_cmpR (op_eqD hr.units) (pv 11) (pv 10) (nomark _)) (pw_and1 (pt_cmpR op_ne (pe_call GBetween (hr.mono (by decide)) (by rfl) T.dBetween.m T.dBetween.F.kp T.dBetween.b .nil pass0 (pa_cons (pv 3) (pa_cons (pv 4) (pa_cons (pv 11) pa_nil)))) (pe_or (pe_chain op_le op_le pe_int (pv 6) (pv 7)) (pe_one (pe_cmpR (op_eqD hr.units) (pv 3) (pv 4) (nomark _)))) (nomark _))))) (pss_one (ps_ret pe_bl)) pss_nil)
      (pss_cons (ps_par (i := 12) (j := 13) (by rfl) scLaw.nd rfl rfl (by decide) rfl rfl (pa_cons (pe_call GLPoint (hr.mono (by decide)) (by rfl) T.dLPoint.m T.dLPoint.F.kp T.dLPoint.b .nil pass0 (pa_cons (pv 1) (pa_cons pe_int pa_nil))) (pa_cons (pe_call GLPoint (hr.mono (by decide)) (by rfl) T.dLPoint.m T.dLPoint.F.kp T.dLPoint.b .nil pass0 (pa_cons (pv 1) (pa_cons pe_int pa_nil))) pa_nil)) (by rfl))
      (pss_cons (ps_set (i := 14) scLaw.nd rfl (.inl rfl) (pe_call GLTimes (hr.mono (by decide)) (by rfl) T.dLTimes.m T.dLTimes.F.kp T.dLTimes.b .nil pass0 (pa_cons (pe_call GArea2 (hr.mono (by decide)) (by rfl) T.dArea2.m T.dArea2.F.kp T.dArea2.b .nil pass0 (pa_cons (pv 3) (pa_cons (pv 4) (pa_cons (pv 5) pa_nil)))) (pa_cons (pe_call GArea2 (hr.mono (by decide)) (by rfl) T.dArea2.m T.dArea2.F.kp T.dArea2.b .nil pass0 (pa_cons (pv 3) (pa_cons (pv 12) (pa_cons (pv 13) pa_nil)))) pa_nil))))
      (pss_cons (ps_set (i := 15) scLaw.nd rfl (.inl rfl) (pe_call GLTimes (hr.mono (by decide)) (by rfl) T.dLTimes.m T.dLTimes.F.kp T.dLTimes.b .nil pass0 (pa_cons (pe_call GArea2 (hr.mono (by decide)) (by rfl) T.dArea2.m T.dArea2.F.kp T.dArea2.b .nil pass0 (pa_cons (pv 3) (pa_cons (pv 4) (pa_cons (pv 12) pa_nil)))) (pa_cons (pe_call GArea2 (hr.mono (by decide)) (by rfl) T.dArea2.m T.dArea2.F.kp T.dArea2.b .nil pass0 (pa_cons (pv 3) (pa_cons (pv 5) (pa_cons (pv 13) pa_nil)))) pa_nil))))
      (pss_cons (ps_set (i := 16) scLaw.nd rfl (.inl rfl) (pe_call GLTimes (hr.mono (by decide)) (by rfl) T.dLTimes.m T.dLTimes.F.kp T.dLTimes.b .nil pass0 (pa_cons (pe_call GArea2 (hr.mono (by decide)) (by rfl) T.dArea2.m T.dArea2.F.kp T.dArea2.b .nil pass0 (pa_cons (pv 3) (pa_cons (pv 4) (pa_cons (pv 13) pa_nil)))) (pa_cons (pe_call GArea2 (hr.mono (by decide)) (by rfl) T.dArea2.m T.dArea2.F.kp T.dArea2.b .nil pass0 (pa_cons (pv 3) (pa_cons (pv 5) (pa_cons (pv 12) pa_nil)))) pa_nil))))
      (pss_cons (ps_if (pt_cmpR (op_neD hr.units) (pe_call GLPlus (hr.mono (by decide)) (by rfl) T.dLPlus.m T.dLPlus.F.kp T.dLPlus.b .nil pass0 (pa_cons (pe_call GLPlus (hr.mono (by decide)) (by rfl) T.dLPlus.m T.dLPlus.F.kp T.dLPlus.b .nil pass0 (pa_cons (pv 14) (pa_cons (pv 16) pa_nil))) (pa_cons (pe_tup (pa_cons (pe_op op_sub pe_int (pe_ix ix_tup (pv 15) pe_int (fun _ _ => rfl))) (pa_cons (pe_ix ix_tup (pv 15) pe_int (fun _ _ => rfl)) pa_nil))) pa_nil))) (pe_tup (pa_cons pe_int (pa_cons pe_int pa_nil))) (nomark _)) (pss_one (ps_ret pe_bl)) pss_nil)
      (pss_one (ps_if (PW.pt (pw_or (pt_cmpR op_ne (pe_call GTurn (hr.mono (by decide)) (by rfl) T.dTurn.m T.dTurn.F.kp T.dTurn.b .nil pass0 (pa_cons (pv 3) (pa_cons (pv 4) (pa_cons (pv 5) pa_nil)))) (pe_call GTurn (hr.mono (by decide)) (by rfl) T.dTurn.m T.dTurn.F.kp T.dTurn.b .nil pass0 (pa_cons (pv 4) (pa_cons (pv 5) (pa_cons (pv 3) pa_nil)))) (nomark _)) (pw_or1 (pt_cmpR op_ne (pe_call GTurn (hr.mono (by decide)) (by rfl) T.dTurn.m T.dTurn.F.kp T.dTurn.b .nil pass0 (pa_cons (pv 3) (pa_cons (pv 4) (pa_cons (pv 5) pa_nil)))) (pe_op op_sub pe_int (pe_call GTurn (hr.mono (by decide)) (by rfl) T.dTurn.m T.dTurn.F.kp T.dTurn.b .nil pass0 (pa_cons (pv 4) (pa_cons (pv 3) (pa_cons (pv 5) pa_nil))))) (nomark _))))) (pss_one (ps_ret pe_bl)) pss_nil))))))))))))))))))
      (pss_one (ps_ret pe_bl)))), ?_⟩
    -- the row
    refine q_asgL (el_lst (ea_cons (ev_var rfl) (ea_cons ev_c (ea_cons ev_c (ea_cons ev_c ea_nil)))) (by show 4 ≤ 100000; decide)) fun ra H0 _ e0 h0 => ?_
    refine q_forR1 (n := 3) (ea_cons ev_c ea_nil) (by decide) (fun _ σ' H' => Turn0 K ns sa ra σ' H') (fun H1 e1 => ⟨⟨_, _, _, _, _, _, _, _, _, _, _, _, _, _, _, rfl⟩, ex_l (e0.trans e1) hS, 0, 3201, 0, by decide, e1 _ _ h0⟩) (fun i σ' H' _ hT => ?_) fun σ' H' _ => s_ret ev_c fun H1 _ => k H1
    obtain ⟨⟨y2, y3, y4, y5, y6, y7, y8, y9, y10, y11, y12, y13, y14, y15, y16, rfl⟩, hr0⟩ := hT
    clear h0 e0 hS
    change tSeq _ _ _ [some (.ref sa), some (.ref ra), some (.int (i : Int)), y3, y4, y5, y6, y7, y8, y9, y10, y11, y12, y13, y14, y15, y16] _
    -- a, b, p
    refine q_par3 ⟨.ref ra, rfl, ra, sa, ns, rfl, hr0, fun pa a H1 ma ha _ hr1 => ⟨.ref ra, rfl, ra, sa, ns, rfl, hr1, fun pb b H2 mb hb e2 hr2 => ⟨.ref ra, rfl, ra, sa, ns, rfl, hr2, fun pp p H3 mp hp e3 hr3 => ⟨_, _, _, rfl, ?_⟩⟩⟩⟩
    have A3 : At H3 pa a := hr2.pt (hr1.pt (ma.at ha) e2) e3
    have B3' : At H3 pb b := hr2.pt (mb.at hb) e3
    have P3' : At H3 pp p := mp.at hp
    clear ha hb hp hr0 hr1 hr2 e2 e3
    change tSeq _ _ _ [some (.ref sa), some (.ref ra), some (.int (i : Int)), some (.ref pa), some (.ref pb), some (.ref pp), y6, y7, y8, y9, y10, y11, y12, y13, y14, y15, y16] _
    have ba := ma.b
    have bb := mb.b
    have bp := mp.b
    have wa := ma.ok.w
    have wb := mb.ok.w
    have wp := mp.ok.w
    -- k, many
    refine q_par2 ⟨.ref ra, rfl, ra, sa, ns, 4, rfl, hr3, by decide, fun kk H4 hk e4 hr4 => ⟨.ref ra, rfl, ra, sa, ns, 3, rfl, hr4, by decide, fun t H5 ht e5 hr5 => ⟨1, t, rfl, rfl, _, _, rfl, ?_⟩⟩⟩
    have A5 := hr4.pt (hr3.pt A3 e4) e5
    have B5 := hr4.pt (hr3.pt B3' e4) e5
    have P5 := hr4.pt (hr3.pt P3' e4) e5
    clear A3 B3' P3' hr3 hr4 e4 e5
    change tSeq _ _ _ [some (.ref sa), some (.ref ra), some (.int (i : Int)), some (.ref pa), some (.ref pb), some (.ref pp), some (.int kk), some (.int (1 + t)), y8, y9, y10, y11, y12, y13, y14, y15, y16] _
    obtain ⟨m, rfl, hm⟩ : ∃ m : Int, m = 1 + t ∧ 0 < m ∧ m ≤ 3 := ⟨1 + t, rfl, by omega⟩
    -- first, second
    have fb := mix_b (x := a.x) (y := b.x) ba.1 ⟨wa, ba.2.2⟩ bb.1 ⟨wb, bb.2.2⟩ hk hm
    have gb := mix_b (x := a.y) (y := b.y) ba.2.1 ⟨wa, ba.2.2⟩ bb.2.1 ⟨wb, bb.2.2⟩ hk hm
    have fin2 : ∀ {x y z : Int}, (-45 ≤ x ∧ x ≤ 45) → (0 < y ∧ y ≤ 9) → (-7 ≤ z ∧ z ≤ 7) → B3 (x, y) (z, 1 + t) := fun h1 h2 h3 => b3 (a := 45) (b := 9) (a' := 7) (b' := 3) ⟨h1, h2⟩ ⟨h3, hm⟩ (by decide)
    refine q_asgU (eu_2q (f := plus) (eu_2q (f := times) (u := (a.x, a.w)) (v := (1 + t - kk, 1 + t)) (eu_tup (ea_cons (ev_0 rfl A5) (ea_cons (ev_2 rfl A5) ea_nil)) (by show 2 ≤ 100000; decide)) (eu_tup (ea_cons (ev_I0 (ev_var rfl) (ev_var rfl)) (ea_cons (ev_var rfl) ea_nil)) (by show 2 ≤ 100000; decide)) (fin2 ba.1 ⟨wa, ba.2.2⟩ (by omega)))
      (eu_2q (f := times) (u := (b.x, b.w)) (v := (kk, 1 + t)) (eu_tup (ea_cons (ev_0 rfl B5) (ea_cons (ev_2 rfl B5) ea_nil)) (by show 2 ≤ 100000; decide)) (eu_tup (ea_cons (ev_var rfl) (ea_cons (ev_var rfl) ea_nil)) (by show 2 ≤ 100000; decide)) (fin2 bb.1 ⟨wb, bb.2.2⟩ (by omega)))
      (b3 fb.1 fb.2.1 (by decide))) fun pf H6 _ e6 hf => ?_
    have A6 := A5.ex e6
    have B6 := B5.ex e6
    change tSeq _ _ _ [some (.ref sa), some (.ref ra), some (.int (i : Int)), some (.ref pa), some (.ref pb), some (.ref pp), some (.int kk), some (.int (1 + t)), some (.ref pf), y9, y10, y11, y12, y13, y14, y15, y16] _
    refine q_asgU (eu_2q (f := plus) (eu_2q (f := times) (u := (a.y, a.w)) (v := (1 + t - kk, 1 + t)) (eu_tup (ea_cons (ev_1 rfl A6) (ea_cons (ev_2 rfl A6) ea_nil)) (by show 2 ≤ 100000; decide)) (eu_tup (ea_cons (ev_I0 (ev_var rfl) (ev_var rfl)) (ea_cons (ev_var rfl) ea_nil)) (by show 2 ≤ 100000; decide)) (fin2 ba.2.1 ⟨wa, ba.2.2⟩ (by omega)))
      (eu_2q (f := times) (u := (b.y, b.w)) (v := (kk, 1 + t)) (eu_tup (ea_cons (ev_1 rfl B6) (ea_cons (ev_2 rfl B6) ea_nil)) (by show 2 ≤ 100000; decide)) (eu_tup (ea_cons (ev_var rfl) (ea_cons (ev_var rfl) ea_nil)) (by show 2 ≤ 100000; decide)) (fin2 bb.2.1 ⟨wb, bb.2.2⟩ (by omega)))
      (b3 gb.1 gb.2.1 (by decide))) fun pg H7 _ e7 hg => ?_
    have hf7 := e7 _ _ hf
    change tSeq _ _ _ [some (.ref sa), some (.ref ra), some (.int (i : Int)), some (.ref pa), some (.ref pb), some (.ref pp), some (.int kk), some (.int (1 + t)), some (.ref pf), some (.ref pg), y10, y11, y12, y13, y14, y15, y16] _
    change H7 pf = some (.tup (P2 (first a b kk (1 + t)))) at hf7
    change H7 pg = some (.tup (P2 (second a b kk (1 + t)))) at hg
    replace fb : Rb (first a b kk (1 + t)) 13365 729 := fb.2.2
    replace gb : Rb (second a b kk (1 + t)) 13365 729 := gb.2.2
    -- on
    have f1 := fb.n
    have f2 := fb.d
    have g1 := gb.n
    have g2 := gb.d
    have n1 := abs_mul (x := (first a b kk (1 + t)).1) (y := (second a b kk (1 + t)).2) (a := 13365) (b := 729) (by omega) (by omega) (by decide) (by decide)
    have n2 := abs_mul (x := (second a b kk (1 + t)).1) (y := (first a b kk (1 + t)).2) (a := 13365) (b := 729) (by omega) (by omega) (by decide) (by decide)
    have n3 := abs_mul (x := (first a b kk (1 + t)).2) (y := (second a b kk (1 + t)).2) (a := 729) (b := 729) (by omega) (by omega) (by decide) (by decide)
    have n4 := Int.mul_pos f2.1 g2.1
    refine q_asgU (eu_callU (ea_cons (ev_I (er_0 rfl hf7) (er_1 rfl hg) (cmul_l (by omega))) (ea_cons (ev_I (er_0 rfl hg) (er_1 rfl hf7) (cmul_l (by omega))) (ea_cons (ev_I (er_1 rfl hf7) (er_1 rfl hg) (cmul_l (by omega))) ea_nil))) fun H' _ => ⟨_, _, _, rfl, ⟨n4, by omega⟩, rfl⟩) fun po H8 _ e8 ho => ?_
    change H8 po = some (.tup (P3 (on a b kk (1 + t)))) at ho
    change tSeq _ _ _ [some (.ref sa), some (.ref ra), some (.int (i : Int)), some (.ref pa), some (.ref pb), some (.ref pp), some (.int kk), some (.int (1 + t)), some (.ref pf), some (.ref pg), some (.ref po), y11, y12, y13, y14, y15, y16] _
    have O8 : At H8 po (on a b kk (1 + t)) := by
      have lo := low_ok (x := (first a b kk (1 + t)).1 * (second a b kk (1 + t)).2) (y := (second a b kk (1 + t)).1 * (first a b kk (1 + t)).2) n4
      have le := low_le (x := (first a b kk (1 + t)).1 * (second a b kk (1 + t)).2) (y := (second a b kk (1 + t)).1 * (first a b kk (1 + t)).2) n4
      change Ok (on a b kk (1 + t)) at lo
      change (on a b kk (1 + t)).x.natAbs ≤ _ ∧ (on a b kk (1 + t)).y.natAbs ≤ _ ∧ (on a b kk (1 + t)).w ≤ _ at le
      exact ⟨ho, lo, by omega⟩
    have A8 := A6.ex (e7.trans e8)
    have B8 := B6.ex (e7.trans e8)
    have P8 := P5.ex ((e6.trans e7).trans e8)
    have hr8 := hr5.ex ((e6.trans e7).trans e8)
    have hon := on_on (a := a) (b := b) (k := kk) wa wb hm.1
    clear A5 A6 B5 B6 P5 hr5 e6 e7 e8 hf hf7 hg ho fb gb f1 f2 g1 g2 n1 n2 n3 n4 fin2
    generalize on a b kk (1 + t) = o at *
    -- c, one of p, on, a, b
    refine q_name ⟨.ref ra, rfl, .ref pp, rfl, .ref po, rfl, .ref pa, rfl, .ref pb, rfl, (by show 4 ≤ sizeLine; decide), fun l hl => ⟨ra, sa, l, ns, _, rfl, hr8.ex (Ex.new hl), ?_, upd_same, (by show 0 < 4 ∧ 4 ≤ 1000; decide), fun v H9 hv e9 hr9 => ?_⟩⟩
    · obtain ⟨_, _, _, _, h1⟩ := hr8.row
      rintro rfl
      rw [h1] at hl
      cases hl
    have nw := hr8.ex (Ex.new (o := .lst [.ref pp, .ref po, .ref pa, .ref pb]) hl)
    have A9 := nw.pt (A8.ex (Ex.new hl)) e9
    have B9 := nw.pt (B8.ex (Ex.new hl)) e9
    have P9 := nw.pt (P8.ex (Ex.new hl)) e9
    have O9 := nw.pt (O8.ex (Ex.new hl)) e9
    obtain ⟨pc, c, rfl, C9⟩ : ∃ (pc : Addr) (c : Pt), v = .ref pc ∧ At H9 pc c := by
      simp only [List.mem_cons, List.not_mem_nil, or_false] at hv
      rcases hv with h | h | h | h
      · exact ⟨_, _, h, P9⟩
      · exact ⟨_, _, h, O9⟩
      · exact ⟨_, _, h, A9⟩
      · exact ⟨_, _, h, B9⟩
    clear A8 B8 P8 O8 hr8 nw e9 hv hl
    change tSeq _ _ _ [some (.ref sa), some (.ref ra), some (.int (i : Int)), some (.ref pa), some (.ref pb), some (.ref pp), some (.int kk), some (.int (1 + t)), some (.ref pf), some (.ref pg), some (.ref po), some (.ref pc), y12, y13, y14, y15, y16] _
    -- turn, area2, between told alike
    refine q_when (b := false) (et_not (a := true) (et_B (ev_callV (ea_cons (ev_3p rfl rfl rfl A9 B9 C9) (ea_cons (ev_3p rfl rfl rfl A9 B9 C9) ea_nil)) fun H' _ => ⟨_, .inl ⟨_, rfl⟩, rfl, rfl⟩))) (fun z => nomatch z) fun _ H10 e10 => ?_
    refine q_when (b := false) (et_not (a := true) (et_B (ev_callP (ap_U (eu_3p rfl rfl rfl (A9.ex e10) (B9.ex e10) (C9.ex e10)) (ap_U (eu_3p rfl rfl rfl (A9.ex e10) (B9.ex e10) (C9.ex e10)) ap_nil)) fun vs H' _ hv => by
      obtain ⟨p1, _, rfl, h1, p2, _, rfl, h2, rfl⟩ := hv
      exact ⟨p1, p2, _, rfl, h1, h2, rfl⟩))) (fun z => nomatch z) fun _ H11 e11 => ?_
    have A11 := A9.ex (e10.trans e11)
    have B11 := B9.ex (e10.trans e11)
    have C11 := C9.ex (e10.trans e11)
    refine q_when (b := false) (et_not (a := true) (et_B (ev_callV (ea_cons (ev_3p rfl rfl rfl A11 B11 C11) (ea_cons (ev_3p rfl rfl rfl A11 B11 C11) ea_nil)) fun H' _ => ⟨_, .inr ⟨_, rfl⟩, rfl, rfl⟩))) (fun z => nomatch z) fun _ H12 e12 => ?_
    have A12 := A11.ex e12
    have B12 := B11.ex e12
    have C12 := C11.ex e12
    have O12 := O9.ex ((e10.trans e11).trans e12)
    have P12 := P9.ex ((e10.trans e11).trans e12)
    have hr12 := hr9.ex ((e10.trans e11).trans e12)
    clear A9 B9 C9 O9 P9 A11 B11 C11 hr9 e10 e11 e12
    -- the point on the line lies between exactly if 0 <= k <= many
    refine q_when (b := false) (et_is (et_and (a := decide (c = o)) (b := false) (et_test (ev_op (ev_var rfl) (ev_var rfl) (rv_pt C12 O12))) (fun hc => et_test (ev_is (ev_op (ev_3p rfl rfl rfl A12 B12 C12)
      (ev_orV (a := decide (0 ≤ kk) && decide (kk ≤ 1 + t)) (b := decide (a = b)) (ev_chain ev_c (ev_var rfl) (rv_I0 (g := fun i j => .bl (decide (i ≤ j)))) (fun _ => ev_var rfl) (fun _ => rv_I0 (g := fun i j => .bl (decide (i ≤ j))))) (fun _ => ev_op (ev_var rfl) (ev_var rfl) (rv_pt A12 B12))) (rv_ne rfl)) ?_))) (Bool.and_false _)) (fun z => nomatch z) fun _ H13 e13 => ?_
    · have e := On.btw A12.ok B12.ok O12.ok.w hm.1 hon
      have e2 : c = o := of_decide_eq_true hc
      subst e2
      show V.bl (!decide (V.bl (btw a b c) = V.bl ((decide (0 ≤ kk) && decide (kk ≤ 1 + t)) || decide (a = b)))) = V.bl false
      rw [e, show decide ((0 ≤ kk ∧ kk ≤ 1 + t) ∨ a = b) = ((decide (0 ≤ kk) && decide (kk ≤ 1 + t)) || decide (a = b)) by rw [Bool.decide_or, Bool.decide_and], decide_eq_true rfl]
      rfl
    have A13 := A12.ex e13
    have B13 := B12.ex e13
    have P13 := P12.ex e13
    have hr13 := hr12.ex e13
    clear A12 B12 C12 O12 P12 hr12 e13 hon
    -- d, e
    refine q_par2 ⟨.ref ra, rfl, ra, sa, ns, rfl, hr13, fun pd d H14 md hd e14 hr14 => ⟨.ref ra, rfl, ra, sa, ns, rfl, hr14, fun pe e H15 me he e15 hr15 => ⟨_, _, rfl, ?_⟩⟩⟩
    have A15 := hr14.pt (hr13.pt A13 e14) e15
    have B15 := hr14.pt (hr13.pt B13 e14) e15
    have P15 := hr14.pt (hr13.pt P13 e14) e15
    have D15 : At H15 pd d := hr14.pt (md.at hd) e15
    have E15 : At H15 pe e := me.at he
    clear A13 B13 P13 hr13 hr14 e14 e15 hd he
    change tSeq _ _ _ [some (.ref sa), some (.ref ra), some (.int (i : Int)), some (.ref pa), some (.ref pb), some (.ref pp), some (.int kk), some (.int (1 + t)), some (.ref pf), some (.ref pg), some (.ref po), some (.ref pc), some (.ref pd), some (.ref pe), y14, y15, y16] _
    have ab : ∀ {x y z : Pt}, Sm x → Sm y → Sm z → Rb (area x y z) 109350 729 := fun h1 h2 h3 => area_b h1 h2 h3
    have b33 : ∀ {x y z x' y' z' : Pt}, Sm x → Sm y → Sm z → Sm x' → Sm y' → Sm z' → B3 (area x y z) (area x' y' z') := fun h1 h2 h3 h4 h5 h6 => b3 (ab h1 h2 h3) (ab h4 h5 h6) (by decide)
    -- one, two, three
    refine q_asgU (eu_2q (f := times) (eu_3p rfl rfl rfl A15 B15 P15) (eu_3p rfl rfl rfl A15 D15 E15) (b33 ma mb mp ma md me)) fun p1 H16 _ e16 h1 => ?_
    change tSeq _ _ _ [some (.ref sa), some (.ref ra), some (.int (i : Int)), some (.ref pa), some (.ref pb), some (.ref pp), some (.int kk), some (.int (1 + t)), some (.ref pf), some (.ref pg), some (.ref po), some (.ref pc), some (.ref pd), some (.ref pe), some (.ref p1), y15, y16] _
    refine q_asgU (eu_2q (f := times) (eu_3p rfl rfl rfl (A15.ex e16) (B15.ex e16) (D15.ex e16)) (eu_3p rfl rfl rfl (A15.ex e16) (P15.ex e16) (E15.ex e16)) (b33 ma mb md ma mp me)) fun p2 H17 _ e17 h2 => ?_
    change tSeq _ _ _ [some (.ref sa), some (.ref ra), some (.int (i : Int)), some (.ref pa), some (.ref pb), some (.ref pp), some (.int kk), some (.int (1 + t)), some (.ref pf), some (.ref pg), some (.ref po), some (.ref pc), some (.ref pd), some (.ref pe), some (.ref p1), some (.ref p2), y16] _
    refine q_asgU (eu_2q (f := times) (eu_3p rfl rfl rfl (A15.ex (e16.trans e17)) (B15.ex (e16.trans e17)) (E15.ex (e16.trans e17))) (eu_3p rfl rfl rfl (A15.ex (e16.trans e17)) (P15.ex (e16.trans e17)) (D15.ex (e16.trans e17))) (b33 ma mb me ma mp md)) fun p3 H18 _ e18 h3 => ?_
    have h1' := e18 _ _ (e17 _ _ h1)
    change tSeq _ _ _ [some (.ref sa), some (.ref ra), some (.int (i : Int)), some (.ref pa), some (.ref pb), some (.ref pp), some (.int kk), some (.int (1 + t)), some (.ref pf), some (.ref pg), some (.ref po), some (.ref pc), some (.ref pd), some (.ref pe), some (.ref p1), some (.ref p2), some (.ref p3)] _
    have h2' := e18 _ _ h2
    have A18 := A15.ex ((e16.trans e17).trans e18)
    have B18 := B15.ex ((e16.trans e17).trans e18)
    have P18 := P15.ex ((e16.trans e17).trans e18)
    have hr18 := hr15.ex ((e16.trans e17).trans e18)
    have t1 := (ab ma mb mp).times (ab ma md me) (by decide)
    have t2 := (ab ma mb md).times (ab ma mp me) (by decide)
    have t3 := (ab ma mb me).times (ab ma mp md) (by decide)
    have s13 := t1.plus t3 (by decide)
    have z := five (a := a) (b := b) (p := p) (d := d) (e := e) wa wb wp md.ok.w me.ok.w
    clear h1 h2 e16 e17 e18 A15 B15 P15 D15 E15 hr15
    generalize times (area a b p) (area a d e) = u1 at *
    generalize times (area a b d) (area a p e) = u2 at *
    generalize times (area a b e) (area a p d) = u3 at *
    have t2' : Rb (0 - u2.1, u2.2) (109350 * 109350) (729 * 729) := ⟨by have := t2.n; exact ⟨(show -(109350 * 109350) ≤ 0 - u2.1 by omega), (show 0 - u2.1 ≤ 109350 * 109350 by omega)⟩, t2.d⟩
    refine q_when (b := false) (et_test (ev_opUU (xs := P2 (0, 1)) (ys := P2 (0, 1)) ?_ (eu_tup (ea_cons ev_c (ea_cons ev_c ea_nil)) (by show 2 ≤ 100000; decide)) (fun _ _ _ x1 x2 _ => rv_nePair x1 x2))) (fun z => nomatch z) fun _ H19 e19 => ?_
    · rw [← z]
      exact eu_2q (f := plus) (eu_2n (f := plus) rfl rfl h1' h3 (b3 t1 t3 (by decide))) (v := (0 - u2.1, u2.2)) (eu_tup (ea_cons (ev_I0 ev_c (er_0 (q := u2) rfl h2')) (ea_cons (er_1 (q := u2) rfl h2') ea_nil)) (by show 2 ≤ 100000; decide)) (b3 s13 t2' (by decide))
    -- turns turned
    have A19 := A18.ex e19
    have B19 := B18.ex e19
    have P19 := P18.ex e19
    refine s_when (b := false) (et_or (a := false) (b := false) (et_test (ev_is (ev_op (ev_3p rfl rfl rfl A19 B19 P19) (ev_3p rfl rfl rfl B19 P19 A19) (rv_ne rfl)) ?_)) (fun _ => et_test (ev_is (ev_op (ev_3p rfl rfl rfl A19 B19 P19) (ev_I0 ev_c (ev_3p rfl rfl rfl B19 A19 P19)) (rv_ne rfl)) ?_))) (fun z => nomatch z) fun _ H20 e20 => ?_
    · show V.bl (!decide (V.int (sgn (D a b p)) = V.int (sgn (D b p a)))) = V.bl false
      rw [← D_rot a b p, ne_same]
    · show V.bl (!decide (V.int (sgn (D a b p)) = V.int (0 - sgn (D b a p)))) = V.bl false
      rw [D_swap a b p, sgn_opp, show 0 - -sgn (D a b p) = sgn (D a b p) by omega, ne_same]
    · exact ⟨⟨_, _, _, _, _, _, _, _, _, _, _, _, _, _, _, rfl⟩, hr18.ex (e19.trans e20)⟩
end
end K1

set_option maxHeartbeats 4000000
/-! What the top has left, def by def; the end. -/
namespace K1
open PySem PySem.Spec PyProof.Rows L2 Evl
section
variable {K : PySem.W.Frag} {h : Heap} {mg : Str → Option Value} {f : Addr} {od an : Option Addr} {sl : Array (Option Value)} {oc kV dc pm cd ct : Value}
theorem mkIsIn (X : K.In h) (N : h.Ns mainGlobals mg) (a : PySem.W.nsIn K mainGlobals "is_in" = some (some (.ref f)))
    (l : K.lookup f = some ⟨oc, od, .func (PySem.W.fnOf "is_in" "is_in" (defArgs sIsIn) (defBody sIsIn) (defScope sIsIn) .none kV dc pm an cd ct), sl⟩) (c : PySem.W.codeIn K cd "is_in" = true) (k : PySem.W.keepIn K (.ref f) = true) :
    ∃ g gd, Df K mg "is_in" sIsIn pIsIn g gd :=
  have F := fun_mk (st := sIsIn) l c k
  ⟨f, _, F, PySem.W.mg_of X N a, F.binds (ps := pIsIn) fun _ _ _ _ _ _ us hl => match us, hl with | [_, _, _], _ => rfl⟩
theorem mkGcd (X : K.In h) (N : h.Ns mainGlobals mg) (a : PySem.W.nsIn K mainGlobals "gcd" = some (some (.ref f)))
    (l : K.lookup f = some ⟨oc, od, .func (PySem.W.fnOf "gcd" "gcd" (defArgs sGcd) (defBody sGcd) (defScope sGcd) .none kV dc pm an cd ct), sl⟩) (c : PySem.W.codeIn K cd "gcd" = true) (k : PySem.W.keepIn K (.ref f) = true) :
    ∃ g gd, Df K mg "gcd" sGcd pGcd g gd :=
  have F := fun_mk (st := sGcd) l c k
  ⟨f, _, F, PySem.W.mg_of X N a, F.binds (ps := pGcd) fun _ _ _ _ _ _ us hl => match us, hl with | [_, _], _ => rfl⟩
theorem mkReduced (X : K.In h) (N : h.Ns mainGlobals mg) (a : PySem.W.nsIn K mainGlobals "reduced" = some (some (.ref f)))
    (l : K.lookup f = some ⟨oc, od, .func (PySem.W.fnOf "reduced" "reduced" (defArgs sReduced) (defBody sReduced) (defScope sReduced) .none kV dc pm an cd ct), sl⟩) (c : PySem.W.codeIn K cd "reduced" = true) (k : PySem.W.keepIn K (.ref f) = true) :
    ∃ g gd, Df K mg "reduced" sReduced pReduced g gd :=
  have F := fun_mk (st := sReduced) l c k
  ⟨f, _, F, PySem.W.mg_of X N a, F.binds (ps := pReduced) fun _ _ _ _ _ _ us hl => match us, hl with | [_, _], _ => rfl⟩
theorem mkSign (X : K.In h) (N : h.Ns mainGlobals mg) (a : PySem.W.nsIn K mainGlobals "sign" = some (some (.ref f)))
    (l : K.lookup f = some ⟨oc, od, .func (PySem.W.fnOf "sign" "sign" (defArgs sSign) (defBody sSign) (defScope sSign) .none kV dc pm an cd ct), sl⟩) (c : PySem.W.codeIn K cd "sign" = true) (k : PySem.W.keepIn K (.ref f) = true) :
    ∃ g gd, Df K mg "sign" sSign pSign g gd :=
  have F := fun_mk (st := sSign) l c k
  ⟨f, _, F, PySem.W.mg_of X N a, F.binds (ps := pSign) fun _ _ _ _ _ _ us hl => match us, hl with | [_], _ => rfl⟩
theorem mkIsPoint (X : K.In h) (N : h.Ns mainGlobals mg) (a : PySem.W.nsIn K mainGlobals "is_point" = some (some (.ref f)))
    (l : K.lookup f = some ⟨oc, od, .func (PySem.W.fnOf "is_point" "is_point" (defArgs sIsPoint) (defBody sIsPoint) (defScope sIsPoint) .none kV dc pm an cd ct), sl⟩) (c : PySem.W.codeIn K cd "is_point" = true) (k : PySem.W.keepIn K (.ref f) = true) :
    ∃ g gd, Df K mg "is_point" sIsPoint pIsPoint g gd :=
  have F := fun_mk (st := sIsPoint) l c k
  ⟨f, _, F, PySem.W.mg_of X N a, F.binds (ps := pIsPoint) fun _ _ _ _ _ _ us hl => match us, hl with | [_], _ => rfl⟩
theorem mkNeedPoint (X : K.In h) (N : h.Ns mainGlobals mg) (a : PySem.W.nsIn K mainGlobals "need_point" = some (some (.ref f)))
    (l : K.lookup f = some ⟨oc, od, .func (PySem.W.fnOf "need_point" "need_point" (defArgs sNeedPoint) (defBody sNeedPoint) (defScope sNeedPoint) .none kV dc pm an cd ct), sl⟩) (c : PySem.W.codeIn K cd "need_point" = true) (k : PySem.W.keepIn K (.ref f) = true) :
    ∃ g gd, Df K mg "need_point" sNeedPoint pNeedPoint g gd :=
  have F := fun_mk (st := sNeedPoint) l c k
  ⟨f, _, F, PySem.W.mg_of X N a, F.binds (ps := pNeedPoint) fun _ _ _ _ _ _ us hl => match us, hl with | [_], _ => rfl⟩
theorem mkNeedAll (X : K.In h) (N : h.Ns mainGlobals mg) (a : PySem.W.nsIn K mainGlobals "need_all" = some (some (.ref f)))
    (l : K.lookup f = some ⟨oc, od, .func (PySem.W.fnOf "need_all" "need_all" (defArgs sNeedAll) (defBody sNeedAll) (defScope sNeedAll) .none kV dc pm an cd ct), sl⟩) (c : PySem.W.codeIn K cd "need_all" = true) (k : PySem.W.keepIn K (.ref f) = true) :
    ∃ g gd, Df K mg "need_all" sNeedAll pNeedAll g gd :=
  have F := fun_mk (st := sNeedAll) l c k
  ⟨f, _, F, PySem.W.mg_of X N a, F.binds (ps := pNeedAll) fun _ _ _ _ _ _ us hl => match us, hl with | [_], _ => rfl⟩
theorem mkOrderOf (X : K.In h) (N : h.Ns mainGlobals mg) (a : PySem.W.nsIn K mainGlobals "order_of" = some (some (.ref f)))
    (l : K.lookup f = some ⟨oc, od, .func (PySem.W.fnOf "order_of" "order_of" (defArgs sOrderOf) (defBody sOrderOf) (defScope sOrderOf) .none kV dc pm an cd ct), sl⟩) (c : PySem.W.codeIn K cd "order_of" = true) (k : PySem.W.keepIn K (.ref f) = true) :
    ∃ g gd, Df K mg "order_of" sOrderOf pOrderOf g gd :=
  have F := fun_mk (st := sOrderOf) l c k
  ⟨f, _, F, PySem.W.mg_of X N a, F.binds (ps := pOrderOf) fun _ _ _ _ _ _ us hl => match us, hl with | [_, _], _ => rfl⟩
theorem mkDoubled (X : K.In h) (N : h.Ns mainGlobals mg) (a : PySem.W.nsIn K mainGlobals "doubled" = some (some (.ref f)))
    (l : K.lookup f = some ⟨oc, od, .func (PySem.W.fnOf "doubled" "doubled" (defArgs sDoubled) (defBody sDoubled) (defScope sDoubled) .none kV dc pm an cd ct), sl⟩) (c : PySem.W.codeIn K cd "doubled" = true) (k : PySem.W.keepIn K (.ref f) = true) :
    ∃ g gd, Df K mg "doubled" sDoubled pDoubled g gd :=
  have F := fun_mk (st := sDoubled) l c k
  ⟨f, _, F, PySem.W.mg_of X N a, F.binds (ps := pDoubled) fun _ _ _ _ _ _ us hl => match us, hl with | [_, _, _], _ => rfl⟩
theorem mkTurnOf (X : K.In h) (N : h.Ns mainGlobals mg) (a : PySem.W.nsIn K mainGlobals "turn_of" = some (some (.ref f)))
    (l : K.lookup f = some ⟨oc, od, .func (PySem.W.fnOf "turn_of" "turn_of" (defArgs sTurnOf) (defBody sTurnOf) (defScope sTurnOf) .none kV dc pm an cd ct), sl⟩) (c : PySem.W.codeIn K cd "turn_of" = true) (k : PySem.W.keepIn K (.ref f) = true) :
    ∃ g gd, Df K mg "turn_of" sTurnOf pTurnOf g gd :=
  have F := fun_mk (st := sTurnOf) l c k
  ⟨f, _, F, PySem.W.mg_of X N a, F.binds (ps := pTurnOf) fun _ _ _ _ _ _ us hl => match us, hl with | [_, _, _], _ => rfl⟩
theorem mkTurn (X : K.In h) (N : h.Ns mainGlobals mg) (a : PySem.W.nsIn K mainGlobals "turn" = some (some (.ref f)))
    (l : K.lookup f = some ⟨oc, od, .func (PySem.W.fnOf "turn" "turn" (defArgs sTurn) (defBody sTurn) (defScope sTurn) .none kV dc pm an cd ct), sl⟩) (c : PySem.W.codeIn K cd "turn" = true) (k : PySem.W.keepIn K (.ref f) = true) :
    ∃ g gd, Df K mg "turn" sTurn pTurn g gd :=
  have F := fun_mk (st := sTurn) l c k
  ⟨f, _, F, PySem.W.mg_of X N a, F.binds (ps := pTurn) fun _ _ _ _ _ _ us hl => match us, hl with | [_, _, _], _ => rfl⟩
theorem mkTwice (X : K.In h) (N : h.Ns mainGlobals mg) (a : PySem.W.nsIn K mainGlobals "twice" = some (some (.ref f)))
    (l : K.lookup f = some ⟨oc, od, .func (PySem.W.fnOf "twice" "twice" (defArgs sTwice) (defBody sTwice) (defScope sTwice) .none kV dc pm an cd ct), sl⟩) (c : PySem.W.codeIn K cd "twice" = true) (k : PySem.W.keepIn K (.ref f) = true) :
    ∃ g gd, Df K mg "twice" sTwice pTwice g gd :=
  have F := fun_mk (st := sTwice) l c k
  ⟨f, _, F, PySem.W.mg_of X N a, F.binds (ps := pTwice) fun _ _ _ _ _ _ us hl => match us, hl with | [_, _, _], _ => rfl⟩
theorem mkArea2 (X : K.In h) (N : h.Ns mainGlobals mg) (a : PySem.W.nsIn K mainGlobals "area2" = some (some (.ref f)))
    (l : K.lookup f = some ⟨oc, od, .func (PySem.W.fnOf "area2" "area2" (defArgs sArea2) (defBody sArea2) (defScope sArea2) .none kV dc pm an cd ct), sl⟩) (c : PySem.W.codeIn K cd "area2" = true) (k : PySem.W.keepIn K (.ref f) = true) :
    ∃ g gd, Df K mg "area2" sArea2 pArea2 g gd :=
  have F := fun_mk (st := sArea2) l c k
  ⟨f, _, F, PySem.W.mg_of X N a, F.binds (ps := pArea2) fun _ _ _ _ _ _ us hl => match us, hl with | [_, _, _], _ => rfl⟩
theorem mkIsBetween (X : K.In h) (N : h.Ns mainGlobals mg) (a : PySem.W.nsIn K mainGlobals "is_between" = some (some (.ref f)))
    (l : K.lookup f = some ⟨oc, od, .func (PySem.W.fnOf "is_between" "is_between" (defArgs sIsBetween) (defBody sIsBetween) (defScope sIsBetween) .none kV dc pm an cd ct), sl⟩) (c : PySem.W.codeIn K cd "is_between" = true) (k : PySem.W.keepIn K (.ref f) = true) :
    ∃ g gd, Df K mg "is_between" sIsBetween pIsBetween g gd :=
  have F := fun_mk (st := sIsBetween) l c k
  ⟨f, _, F, PySem.W.mg_of X N a, F.binds (ps := pIsBetween) fun _ _ _ _ _ _ us hl => match us, hl with | [_, _, _], _ => rfl⟩
theorem mkBetween (X : K.In h) (N : h.Ns mainGlobals mg) (a : PySem.W.nsIn K mainGlobals "between" = some (some (.ref f)))
    (l : K.lookup f = some ⟨oc, od, .func (PySem.W.fnOf "between" "between" (defArgs sBetween) (defBody sBetween) (defScope sBetween) .none kV dc pm an cd ct), sl⟩) (c : PySem.W.codeIn K cd "between" = true) (k : PySem.W.keepIn K (.ref f) = true) :
    ∃ g gd, Df K mg "between" sBetween pBetween g gd :=
  have F := fun_mk (st := sBetween) l c k
  ⟨f, _, F, PySem.W.mg_of X N a, F.binds (ps := pBetween) fun _ _ _ _ _ _ us hl => match us, hl with | [_, _, _], _ => rfl⟩
theorem mkLTaken (X : K.In h) (N : h.Ns mainGlobals mg) (a : PySem.W.nsIn K mainGlobals "_law_taken" = some (some (.ref f)))
    (l : K.lookup f = some ⟨oc, od, .func (PySem.W.fnOf "_law_taken" "_law_taken" (defArgs sLTaken) (defBody sLTaken) (defScope sLTaken) .none kV dc pm an cd ct), sl⟩) (c : PySem.W.codeIn K cd "_law_taken" = true) (k : PySem.W.keepIn K (.ref f) = true) :
    ∃ g gd, Df K mg "_law_taken" sLTaken pLTaken g gd :=
  have F := fun_mk (st := sLTaken) l c k
  ⟨f, _, F, PySem.W.mg_of X N a, F.binds (ps := pLTaken) fun _ _ _ _ _ _ us hl => match us, hl with | [_, _], _ => rfl⟩
theorem mkLPick (X : K.In h) (N : h.Ns mainGlobals mg) (a : PySem.W.nsIn K mainGlobals "_law_pick" = some (some (.ref f)))
    (l : K.lookup f = some ⟨oc, od, .func (PySem.W.fnOf "_law_pick" "_law_pick" (defArgs sLPick) (defBody sLPick) (defScope sLPick) .none kV dc pm an cd ct), sl⟩) (c : PySem.W.codeIn K cd "_law_pick" = true) (k : PySem.W.keepIn K (.ref f) = true) :
    ∃ g gd, Df K mg "_law_pick" sLPick pLPick g gd :=
  have F := fun_mk (st := sLPick) l c k
  ⟨f, _, F, PySem.W.mg_of X N a, F.binds (ps := pLPick) fun _ _ _ _ _ _ us hl => match us, hl with | [_, _], _ => rfl⟩
theorem mkLGcd (X : K.In h) (N : h.Ns mainGlobals mg) (a : PySem.W.nsIn K mainGlobals "_law_gcd" = some (some (.ref f)))
    (l : K.lookup f = some ⟨oc, od, .func (PySem.W.fnOf "_law_gcd" "_law_gcd" (defArgs sLGcd) (defBody sLGcd) (defScope sLGcd) .none kV dc pm an cd ct), sl⟩) (c : PySem.W.codeIn K cd "_law_gcd" = true) (k : PySem.W.keepIn K (.ref f) = true) :
    ∃ g gd, Df K mg "_law_gcd" sLGcd pLGcd g gd :=
  have F := fun_mk (st := sLGcd) l c k
  ⟨f, _, F, PySem.W.mg_of X N a, F.binds (ps := pLGcd) fun _ _ _ _ _ _ us hl => match us, hl with | [_, _], _ => rfl⟩
theorem mkLLowest (X : K.In h) (N : h.Ns mainGlobals mg) (a : PySem.W.nsIn K mainGlobals "_law_lowest" = some (some (.ref f)))
    (l : K.lookup f = some ⟨oc, od, .func (PySem.W.fnOf "_law_lowest" "_law_lowest" (defArgs sLLowest) (defBody sLLowest) (defScope sLLowest) .none kV dc pm an cd ct), sl⟩) (c : PySem.W.codeIn K cd "_law_lowest" = true) (k : PySem.W.keepIn K (.ref f) = true) :
    ∃ g gd, Df K mg "_law_lowest" sLLowest pLLowest g gd :=
  have F := fun_mk (st := sLLowest) l c k
  ⟨f, _, F, PySem.W.mg_of X N a, F.binds (ps := pLLowest) fun _ _ _ _ _ _ us hl => match us, hl with | [_, _, _], _ => rfl⟩
theorem mkLSigned (X : K.In h) (N : h.Ns mainGlobals mg) (a : PySem.W.nsIn K mainGlobals "_law_signed" = some (some (.ref f)))
    (l : K.lookup f = some ⟨oc, od, .func (PySem.W.fnOf "_law_signed" "_law_signed" (defArgs sLSigned) (defBody sLSigned) (defScope sLSigned) .none kV dc pm an cd ct), sl⟩) (c : PySem.W.codeIn K cd "_law_signed" = true) (k : PySem.W.keepIn K (.ref f) = true) :
    ∃ g gd, Df K mg "_law_signed" sLSigned pLSigned g gd :=
  have F := fun_mk (st := sLSigned) l c k
  ⟨f, _, F, PySem.W.mg_of X N a, F.binds (ps := pLSigned) fun _ _ _ _ _ _ us hl => match us, hl with | [_, _], _ => rfl⟩
theorem mkLPoint (X : K.In h) (N : h.Ns mainGlobals mg) (a : PySem.W.nsIn K mainGlobals "_law_point" = some (some (.ref f)))
    (l : K.lookup f = some ⟨oc, od, .func (PySem.W.fnOf "_law_point" "_law_point" (defArgs sLPoint) (defBody sLPoint) (defScope sLPoint) .none kV dc pm an cd ct), sl⟩) (c : PySem.W.codeIn K cd "_law_point" = true) (k : PySem.W.keepIn K (.ref f) = true) :
    ∃ g gd, Df K mg "_law_point" sLPoint pLPoint g gd :=
  have F := fun_mk (st := sLPoint) l c k
  ⟨f, _, F, PySem.W.mg_of X N a, F.binds (ps := pLPoint) fun _ _ _ _ _ _ us hl => match us, hl with | [_, _], _ => rfl⟩
theorem mkLRatio (X : K.In h) (N : h.Ns mainGlobals mg) (a : PySem.W.nsIn K mainGlobals "_law_ratio" = some (some (.ref f)))
    (l : K.lookup f = some ⟨oc, od, .func (PySem.W.fnOf "_law_ratio" "_law_ratio" (defArgs sLRatio) (defBody sLRatio) (defScope sLRatio) .none kV dc pm an cd ct), sl⟩) (c : PySem.W.codeIn K cd "_law_ratio" = true) (k : PySem.W.keepIn K (.ref f) = true) :
    ∃ g gd, Df K mg "_law_ratio" sLRatio pLRatio g gd :=
  have F := fun_mk (st := sLRatio) l c k
  ⟨f, _, F, PySem.W.mg_of X N a, F.binds (ps := pLRatio) fun _ _ _ _ _ _ us hl => match us, hl with | [_, _], _ => rfl⟩
theorem mkLPlus (X : K.In h) (N : h.Ns mainGlobals mg) (a : PySem.W.nsIn K mainGlobals "_law_plus" = some (some (.ref f)))
    (l : K.lookup f = some ⟨oc, od, .func (PySem.W.fnOf "_law_plus" "_law_plus" (defArgs sLPlus) (defBody sLPlus) (defScope sLPlus) .none kV dc pm an cd ct), sl⟩) (c : PySem.W.codeIn K cd "_law_plus" = true) (k : PySem.W.keepIn K (.ref f) = true) :
    ∃ g gd, Df K mg "_law_plus" sLPlus pLPlus g gd :=
  have F := fun_mk (st := sLPlus) l c k
  ⟨f, _, F, PySem.W.mg_of X N a, F.binds (ps := pLPlus) fun _ _ _ _ _ _ us hl => match us, hl with | [_, _], _ => rfl⟩
theorem mkLTimes (X : K.In h) (N : h.Ns mainGlobals mg) (a : PySem.W.nsIn K mainGlobals "_law_times" = some (some (.ref f)))
    (l : K.lookup f = some ⟨oc, od, .func (PySem.W.fnOf "_law_times" "_law_times" (defArgs sLTimes) (defBody sLTimes) (defScope sLTimes) .none kV dc pm an cd ct), sl⟩) (c : PySem.W.codeIn K cd "_law_times" = true) (k : PySem.W.keepIn K (.ref f) = true) :
    ∃ g gd, Df K mg "_law_times" sLTimes pLTimes g gd :=
  have F := fun_mk (st := sLTimes) l c k
  ⟨f, _, F, PySem.W.mg_of X N a, F.binds (ps := pLTimes) fun _ _ _ _ _ _ us hl => match us, hl with | [_, _], _ => rfl⟩
theorem mkLAlike (X : K.In h) (N : h.Ns mainGlobals mg) (a : PySem.W.nsIn K mainGlobals "_law_alike" = some (some (.ref f)))
    (l : K.lookup f = some ⟨oc, od, .func (PySem.W.fnOf "_law_alike" "_law_alike" (defArgs sLAlike) (defBody sLAlike) (defScope sLAlike) .none kV dc pm an cd ct), sl⟩) (c : PySem.W.codeIn K cd "_law_alike" = true) (k : PySem.W.keepIn K (.ref f) = true) :
    ∃ g gd, Df K mg "_law_alike" sLAlike pLAlike g gd :=
  have F := fun_mk (st := sLAlike) l c k
  ⟨f, _, F, PySem.W.mg_of X N a, F.binds (ps := pLAlike) fun _ _ _ _ _ _ us hl => match us, hl with | [_, _], _ => rfl⟩
theorem mkLSign (X : K.In h) (N : h.Ns mainGlobals mg) (a : PySem.W.nsIn K mainGlobals "_law_sign" = some (some (.ref f)))
    (l : K.lookup f = some ⟨oc, od, .func (PySem.W.fnOf "_law_sign" "_law_sign" (defArgs sLSign) (defBody sLSign) (defScope sLSign) .none kV dc pm an cd ct), sl⟩) (c : PySem.W.codeIn K cd "_law_sign" = true) (k : PySem.W.keepIn K (.ref f) = true) :
    ∃ g gd, Df K mg "_law_sign" sLSign pLSign g gd :=
  have F := fun_mk (st := sLSign) l c k
  ⟨f, _, F, PySem.W.mg_of X N a, F.binds (ps := pLSign) fun _ _ _ _ _ _ us hl => match us, hl with | [_], _ => rfl⟩
theorem mkLDoubled (X : K.In h) (N : h.Ns mainGlobals mg) (a : PySem.W.nsIn K mainGlobals "_law_doubled" = some (some (.ref f)))
    (l : K.lookup f = some ⟨oc, od, .func (PySem.W.fnOf "_law_doubled" "_law_doubled" (defArgs sLDoubled) (defBody sLDoubled) (defScope sLDoubled) .none kV dc pm an cd ct), sl⟩) (c : PySem.W.codeIn K cd "_law_doubled" = true) (k : PySem.W.keepIn K (.ref f) = true) :
    ∃ g gd, Df K mg "_law_doubled" sLDoubled pLDoubled g gd :=
  have F := fun_mk (st := sLDoubled) l c k
  ⟨f, _, F, PySem.W.mg_of X N a, F.binds (ps := pLDoubled) fun _ _ _ _ _ _ us hl => match us, hl with | [_, _, _], _ => rfl⟩
theorem mkLTurn (X : K.In h) (N : h.Ns mainGlobals mg) (a : PySem.W.nsIn K mainGlobals "_law_turn" = some (some (.ref f)))
    (l : K.lookup f = some ⟨oc, od, .func (PySem.W.fnOf "_law_turn" "_law_turn" (defArgs sLTurn) (defBody sLTurn) (defScope sLTurn) .none kV dc pm an cd ct), sl⟩) (c : PySem.W.codeIn K cd "_law_turn" = true) (k : PySem.W.keepIn K (.ref f) = true) :
    ∃ g gd, Df K mg "_law_turn" sLTurn pLTurn g gd :=
  have F := fun_mk (st := sLTurn) l c k
  ⟨f, _, F, PySem.W.mg_of X N a, F.binds (ps := pLTurn) fun _ _ _ _ _ _ us hl => match us, hl with | [_, _, _], _ => rfl⟩
theorem mkLArea2 (X : K.In h) (N : h.Ns mainGlobals mg) (a : PySem.W.nsIn K mainGlobals "_law_area2" = some (some (.ref f)))
    (l : K.lookup f = some ⟨oc, od, .func (PySem.W.fnOf "_law_area2" "_law_area2" (defArgs sLArea2) (defBody sLArea2) (defScope sLArea2) .none kV dc pm an cd ct), sl⟩) (c : PySem.W.codeIn K cd "_law_area2" = true) (k : PySem.W.keepIn K (.ref f) = true) :
    ∃ g gd, Df K mg "_law_area2" sLArea2 pLArea2 g gd :=
  have F := fun_mk (st := sLArea2) l c k
  ⟨f, _, F, PySem.W.mg_of X N a, F.binds (ps := pLArea2) fun _ _ _ _ _ _ us hl => match us, hl with | [_, _, _], _ => rfl⟩
theorem mkLOrder (X : K.In h) (N : h.Ns mainGlobals mg) (a : PySem.W.nsIn K mainGlobals "_law_order" = some (some (.ref f)))
    (l : K.lookup f = some ⟨oc, od, .func (PySem.W.fnOf "_law_order" "_law_order" (defArgs sLOrder) (defBody sLOrder) (defScope sLOrder) .none kV dc pm an cd ct), sl⟩) (c : PySem.W.codeIn K cd "_law_order" = true) (k : PySem.W.keepIn K (.ref f) = true) :
    ∃ g gd, Df K mg "_law_order" sLOrder pLOrder g gd :=
  have F := fun_mk (st := sLOrder) l c k
  ⟨f, _, F, PySem.W.mg_of X N a, F.binds (ps := pLOrder) fun _ _ _ _ _ _ us hl => match us, hl with | [_, _], _ => rfl⟩
theorem mkLBetween (X : K.In h) (N : h.Ns mainGlobals mg) (a : PySem.W.nsIn K mainGlobals "_law_between" = some (some (.ref f)))
    (l : K.lookup f = some ⟨oc, od, .func (PySem.W.fnOf "_law_between" "_law_between" (defArgs sLBetween) (defBody sLBetween) (defScope sLBetween) .none kV dc pm an cd ct), sl⟩) (c : PySem.W.codeIn K cd "_law_between" = true) (k : PySem.W.keepIn K (.ref f) = true) :
    ∃ g gd, Df K mg "_law_between" sLBetween pLBetween g gd :=
  have F := fun_mk (st := sLBetween) l c k
  ⟨f, _, F, PySem.W.mg_of X N a, F.binds (ps := pLBetween) fun _ _ _ _ _ _ us hl => match us, hl with | [_, _, _], _ => rfl⟩
theorem mkLargest (X : K.In h) (N : h.Ns mainGlobals mg) {v : Value} {t : Tok} (a : PySem.W.nsIn K mainGlobals "LARGEST" = some (some v)) (b : v = .int 1000000000000 t) : ∃ t, mg "LARGEST" = some (.int 1000000000000 t) := by
  subst b
  exact ⟨t, PySem.W.mg_of X N a⟩
theorem fin {o : PySem.W.OpenLaw} {w : World} {fa : Addr} (X : K.In h) (N : h.Ns mainGlobals mg) (hfa : mg "law" = some (.ref fa))
    (e1 : ∃ g gd, Df K mg "is_in" sIsIn pIsIn g gd)
    (e2 : ∃ g gd, Df K mg "gcd" sGcd pGcd g gd)
    (e3 : ∃ g gd, Df K mg "reduced" sReduced pReduced g gd)
    (e4 : ∃ g gd, Df K mg "sign" sSign pSign g gd)
    (e10 : ∃ g gd, Df K mg "is_point" sIsPoint pIsPoint g gd)
    (e11 : ∃ g gd, Df K mg "need_point" sNeedPoint pNeedPoint g gd)
    (e12 : ∃ g gd, Df K mg "need_all" sNeedAll pNeedAll g gd)
    (e13 : ∃ g gd, Df K mg "order_of" sOrderOf pOrderOf g gd)
    (e15 : ∃ g gd, Df K mg "doubled" sDoubled pDoubled g gd)
    (e16 : ∃ g gd, Df K mg "turn_of" sTurnOf pTurnOf g gd)
    (e17 : ∃ g gd, Df K mg "turn" sTurn pTurn g gd)
    (e18 : ∃ g gd, Df K mg "twice" sTwice pTwice g gd)
    (e19 : ∃ g gd, Df K mg "area2" sArea2 pArea2 g gd)
    (e20 : ∃ g gd, Df K mg "is_between" sIsBetween pIsBetween g gd)
    (e21 : ∃ g gd, Df K mg "between" sBetween pBetween g gd)
    (e23 : ∃ g gd, Df K mg "_law_taken" sLTaken pLTaken g gd)
    (e24 : ∃ g gd, Df K mg "_law_pick" sLPick pLPick g gd)
    (e25 : ∃ g gd, Df K mg "_law_gcd" sLGcd pLGcd g gd)
    (e26 : ∃ g gd, Df K mg "_law_lowest" sLLowest pLLowest g gd)
    (e27 : ∃ g gd, Df K mg "_law_signed" sLSigned pLSigned g gd)
    (e28 : ∃ g gd, Df K mg "_law_point" sLPoint pLPoint g gd)
    (e29 : ∃ g gd, Df K mg "_law_ratio" sLRatio pLRatio g gd)
    (e30 : ∃ g gd, Df K mg "_law_plus" sLPlus pLPlus g gd)
    (e31 : ∃ g gd, Df K mg "_law_times" sLTimes pLTimes g gd)
    (e32 : ∃ g gd, Df K mg "_law_alike" sLAlike pLAlike g gd)
    (e33 : ∃ g gd, Df K mg "_law_sign" sLSign pLSign g gd)
    (e34 : ∃ g gd, Df K mg "_law_doubled" sLDoubled pLDoubled g gd)
    (e35 : ∃ g gd, Df K mg "_law_turn" sLTurn pLTurn g gd)
    (e36 : ∃ g gd, Df K mg "_law_area2" sLArea2 pLArea2 g gd)
    (e37 : ∃ g gd, Df K mg "_law_order" sLOrder pLOrder g gd)
    (e38 : ∃ g gd, Df K mg "_law_between" sLBetween pLBetween g gd)
    (zisinstance : PySem.W.nsIn K mainGlobals "isinstance" = some none)
    (zint : PySem.W.nsIn K mainGlobals "int" = some none)
    (zbool : PySem.W.nsIn K mainGlobals "bool" = some none)
    (ztuple : PySem.W.nsIn K mainGlobals "tuple" = some none)
    (zlist : PySem.W.nsIn K mainGlobals "list" = some none)
    (zstr : PySem.W.nsIn K mainGlobals "str" = some none)
    (zlen : PySem.W.nsIn K mainGlobals "len" = some none)
    (zabs : PySem.W.nsIn K mainGlobals "abs" = some none)
    (zrange : PySem.W.nsIn K mainGlobals "range" = some none)
    (zL : ∃ t, mg "LARGEST" = some (.int 1000000000000 t))
    (a : PySem.W.nsIn K mainGlobals "law" = some (some (.ref f))) (l : K.lookup f = some ⟨oc, od, .func (PySem.W.fnOf "law" "law" (defArgs sLaw) (defBody sLaw) (defScope sLaw) .none kV dc pm an cd ct), sl⟩) (c : PySem.W.codeIn K cd "law" = true) (k : PySem.W.keepIn K (.ref f) = true) :
    ∃ fd : FuncData, (∀ (s : Shared) (v : Value), BindsTo s fd ⟨[v], []⟩ [("_law_script", v)]) ∧ ∀ base : Heap, K.In base → base.Ns mainGlobals mg → FnOk o.prog w K mg base CX0 6 fa fd ["_law_script"] (spLaw K) := by
  have e := hfa.symm.trans (PySem.W.mg_of X N a)
  cases e
  obtain ⟨f1, d1, h1⟩ := e1
  obtain ⟨f2, d2, h2⟩ := e2
  obtain ⟨f3, d3, h3⟩ := e3
  obtain ⟨f4, d4, h4⟩ := e4
  obtain ⟨f10, d10, h10⟩ := e10
  obtain ⟨f11, d11, h11⟩ := e11
  obtain ⟨f12, d12, h12⟩ := e12
  obtain ⟨f13, d13, h13⟩ := e13
  obtain ⟨f15, d15, h15⟩ := e15
  obtain ⟨f16, d16, h16⟩ := e16
  obtain ⟨f17, d17, h17⟩ := e17
  obtain ⟨f18, d18, h18⟩ := e18
  obtain ⟨f19, d19, h19⟩ := e19
  obtain ⟨f20, d20, h20⟩ := e20
  obtain ⟨f21, d21, h21⟩ := e21
  obtain ⟨f23, d23, h23⟩ := e23
  obtain ⟨f24, d24, h24⟩ := e24
  obtain ⟨f25, d25, h25⟩ := e25
  obtain ⟨f26, d26, h26⟩ := e26
  obtain ⟨f27, d27, h27⟩ := e27
  obtain ⟨f28, d28, h28⟩ := e28
  obtain ⟨f29, d29, h29⟩ := e29
  obtain ⟨f30, d30, h30⟩ := e30
  obtain ⟨f31, d31, h31⟩ := e31
  obtain ⟨f32, d32, h32⟩ := e32
  obtain ⟨f33, d33, h33⟩ := e33
  obtain ⟨f34, d34, h34⟩ := e34
  obtain ⟨f35, d35, h35⟩ := e35
  obtain ⟨f36, d36, h36⟩ := e36
  obtain ⟨f37, d37, h37⟩ := e37
  obtain ⟨f38, d38, h38⟩ := e38
  have F := fun_mk (st := sLaw) l c k
  let T : Tx K mg :=
    { ad := fun i => match i with
        | 1 => f1 | 2 => f2 | 3 => f3 | 4 => f4 | 10 => f10 | 11 => f11 | 12 => f12 | 13 => f13 | 15 => f15 | 16 => f16 | 17 => f17 | 18 => f18 | 19 => f19 | 20 => f20 | 21 => f21 | 23 => f23 | 24 => f24 | 25 => f25 | 26 => f26 | 27 => f27 | 28 => f28 | 29 => f29 | 30 => f30 | 31 => f31 | 32 => f32 | 33 => f33 | 34 => f34 | 35 => f35 | 36 => f36 | 37 => f37 | 38 => f38 | _ => 0
      fd := fun i => match i with
        | 1 => d1 | 2 => d2 | 3 => d3 | 4 => d4 | 10 => d10 | 11 => d11 | 12 => d12 | 13 => d13 | 15 => d15 | 16 => d16 | 17 => d17 | 18 => d18 | 19 => d19 | 20 => d20 | 21 => d21 | 23 => d23 | 24 => d24 | 25 => d25 | 26 => d26 | 27 => d27 | 28 => d28 | 29 => d29 | 30 => d30 | 31 => d31 | 32 => d32 | 33 => d33 | 34 => d34 | 35 => d35 | 36 => d36 | 37 => d37 | 38 => d38 | _ => d1
      dIsIn := h1
      dGcd := h2
      dReduced := h3
      dSign := h4
      dIsPoint := h10
      dNeedPoint := h11
      dNeedAll := h12
      dOrderOf := h13
      dDoubled := h15
      dTurnOf := h16
      dTurn := h17
      dTwice := h18
      dArea2 := h19
      dIsBetween := h20
      dBetween := h21
      dLTaken := h23
      dLPick := h24
      dLGcd := h25
      dLLowest := h26
      dLSigned := h27
      dLPoint := h28
      dLRatio := h29
      dLPlus := h30
      dLTimes := h31
      dLAlike := h32
      dLSign := h33
      dLDoubled := h34
      dLTurn := h35
      dLArea2 := h36
      dLOrder := h37
      dLBetween := h38
      zisinstance := PySem.W.mg_none_of X N zisinstance
      zint := PySem.W.mg_none_of X N zint
      zbool := PySem.W.mg_none_of X N zbool
      ztuple := PySem.W.mg_none_of X N ztuple
      zlist := PySem.W.mg_none_of X N zlist
      zstr := PySem.W.mg_none_of X N zstr
      zlen := PySem.W.mg_none_of X N zlen
      zabs := PySem.W.mg_none_of X N zabs
      zrange := PySem.W.mg_none_of X N zrange
      zL := zL }
  exact ⟨_, fun s v => .of_eq rfl, fun base _ _ => ok_law F T⟩
end
end K1
open PySem PySem.W PyProof.Rows
set_option maxRecDepth 100000 in
set_option maxHeartbeats 0 in
theorem PySem.Challenge.cw_meshcore_k01_whole_turns_holds : PySem.Challenge.rw_meshcore_k01_whole_turns.Holds := by
  w_on; o_law; k_head; (case hw => w_witness2)
  k_fill
  refine L2.walk_of (l := PySem.Challenge.rw_meshcore_k01_whole_turns) (n := 63) (k := 6) (x := "_law_script") (CX := fun _ => L2.CX0) (sp := fun w => K1.spLaw _) rfl (by decide) rfl ⟨rfl, by decide, by decide⟩ (fun w h Y => PySem.W.kIn_of Y) ?F (fun _ _ a ns _ _ hS => ⟨a, ns, rfl, hS, fun _ => rfl⟩) (fun _ _ _ _ _ h => h)
  case F =>
    intro w mg fa h KX N hmg
    refine' K1.fin KX N hmg
      (K1.mkIsIn KX N ?a1 ?l1 ?c1 ?k1)
      (K1.mkGcd KX N ?a2 ?l2 ?c2 ?k2)
      (K1.mkReduced KX N ?a3 ?l3 ?c3 ?k3)
      (K1.mkSign KX N ?a4 ?l4 ?c4 ?k4)
      (K1.mkIsPoint KX N ?a10 ?l10 ?c10 ?k10)
      (K1.mkNeedPoint KX N ?a11 ?l11 ?c11 ?k11)
      (K1.mkNeedAll KX N ?a12 ?l12 ?c12 ?k12)
      (K1.mkOrderOf KX N ?a13 ?l13 ?c13 ?k13)
      (K1.mkDoubled KX N ?a15 ?l15 ?c15 ?k15)
      (K1.mkTurnOf KX N ?a16 ?l16 ?c16 ?k16)
      (K1.mkTurn KX N ?a17 ?l17 ?c17 ?k17)
      (K1.mkTwice KX N ?a18 ?l18 ?c18 ?k18)
      (K1.mkArea2 KX N ?a19 ?l19 ?c19 ?k19)
      (K1.mkIsBetween KX N ?a20 ?l20 ?c20 ?k20)
      (K1.mkBetween KX N ?a21 ?l21 ?c21 ?k21)
      (K1.mkLTaken KX N ?a23 ?l23 ?c23 ?k23)
      (K1.mkLPick KX N ?a24 ?l24 ?c24 ?k24)
      (K1.mkLGcd KX N ?a25 ?l25 ?c25 ?k25)
      (K1.mkLLowest KX N ?a26 ?l26 ?c26 ?k26)
      (K1.mkLSigned KX N ?a27 ?l27 ?c27 ?k27)
      (K1.mkLPoint KX N ?a28 ?l28 ?c28 ?k28)
      (K1.mkLRatio KX N ?a29 ?l29 ?c29 ?k29)
      (K1.mkLPlus KX N ?a30 ?l30 ?c30 ?k30)
      (K1.mkLTimes KX N ?a31 ?l31 ?c31 ?k31)
      (K1.mkLAlike KX N ?a32 ?l32 ?c32 ?k32)
      (K1.mkLSign KX N ?a33 ?l33 ?c33 ?k33)
      (K1.mkLDoubled KX N ?a34 ?l34 ?c34 ?k34)
      (K1.mkLTurn KX N ?a35 ?l35 ?c35 ?k35)
      (K1.mkLArea2 KX N ?a36 ?l36 ?c36 ?k36)
      (K1.mkLOrder KX N ?a37 ?l37 ?c37 ?k37)
      (K1.mkLBetween KX N ?a38 ?l38 ?c38 ?k38)
      ?zisinstance ?zint ?zbool ?ztuple ?zlist ?zstr ?zlen ?zabs ?zrange (K1.mkLargest KX N ?aL ?bL) ?a ?l ?c ?k
    (case a1 => k_is); (case l1 => k_is); (case c1 => k_is); (case k1 => k_is)
    (case a2 => k_is); (case l2 => k_is); (case c2 => k_is); (case k2 => k_is)
    (case a3 => k_is); (case l3 => k_is); (case c3 => k_is); (case k3 => k_is)
    (case a4 => k_is); (case l4 => k_is); (case c4 => k_is); (case k4 => k_is)
    (case a10 => k_is); (case l10 => k_is); (case c10 => k_is); (case k10 => k_is)
    (case a11 => k_is); (case l11 => k_is); (case c11 => k_is); (case k11 => k_is)
    (case a12 => k_is); (case l12 => k_is); (case c12 => k_is); (case k12 => k_is)
    (case a13 => k_is); (case l13 => k_is); (case c13 => k_is); (case k13 => k_is)
    (case a15 => k_is); (case l15 => k_is); (case c15 => k_is); (case k15 => k_is)
    (case a16 => k_is); (case l16 => k_is); (case c16 => k_is); (case k16 => k_is)
    (case a17 => k_is); (case l17 => k_is); (case c17 => k_is); (case k17 => k_is)
    (case a18 => k_is); (case l18 => k_is); (case c18 => k_is); (case k18 => k_is)
    (case a19 => k_is); (case l19 => k_is); (case c19 => k_is); (case k19 => k_is)
    (case a20 => k_is); (case l20 => k_is); (case c20 => k_is); (case k20 => k_is)
    (case a21 => k_is); (case l21 => k_is); (case c21 => k_is); (case k21 => k_is)
    (case a23 => k_is); (case l23 => k_is); (case c23 => k_is); (case k23 => k_is)
    (case a24 => k_is); (case l24 => k_is); (case c24 => k_is); (case k24 => k_is)
    (case a25 => k_is); (case l25 => k_is); (case c25 => k_is); (case k25 => k_is)
    (case a26 => k_is); (case l26 => k_is); (case c26 => k_is); (case k26 => k_is)
    (case a27 => k_is); (case l27 => k_is); (case c27 => k_is); (case k27 => k_is)
    (case a28 => k_is); (case l28 => k_is); (case c28 => k_is); (case k28 => k_is)
    (case a29 => k_is); (case l29 => k_is); (case c29 => k_is); (case k29 => k_is)
    (case a30 => k_is); (case l30 => k_is); (case c30 => k_is); (case k30 => k_is)
    (case a31 => k_is); (case l31 => k_is); (case c31 => k_is); (case k31 => k_is)
    (case a32 => k_is); (case l32 => k_is); (case c32 => k_is); (case k32 => k_is)
    (case a33 => k_is); (case l33 => k_is); (case c33 => k_is); (case k33 => k_is)
    (case a34 => k_is); (case l34 => k_is); (case c34 => k_is); (case k34 => k_is)
    (case a35 => k_is); (case l35 => k_is); (case c35 => k_is); (case k35 => k_is)
    (case a36 => k_is); (case l36 => k_is); (case c36 => k_is); (case k36 => k_is)
    (case a37 => k_is); (case l37 => k_is); (case c37 => k_is); (case k37 => k_is)
    (case a38 => k_is); (case l38 => k_is); (case c38 => k_is); (case k38 => k_is)
    (case zisinstance => k_is)
    (case zint => k_is)
    (case zbool => k_is)
    (case ztuple => k_is)
    (case zlist => k_is)
    (case zstr => k_is)
    (case zlen => k_is)
    (case zabs => k_is)
    (case zrange => k_is)
    (case aL => k_is); (case bL => rfl)
    (case a => k_is); (case l => k_is); (case c => k_is); (case k => k_is)
