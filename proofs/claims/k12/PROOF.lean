import PyProof.Rows.All
import Wide.All
import OpenK.AllK
import Wide.FinOn
import HandS.ForMost
import HandS.Wide
import HandS.Defaults
import HandS.IsInst
import HandS.Style
import HandS.TupAny
import HandS.Slots
import KE.KUnpackStar
import PySem.Challenge.RW_leafglobe_k12_whole_turned_to_goals
set_option Elab.async false
set_option linter.all false
set_option maxRecDepth 100000
set_option maxHeartbeats 4000000
/-! Mathematics of the law: greatest common divisors of rows, places, turns. -/
namespace K12

/-! ### rows and their greatest common divisor -/
def gF (g : Nat) (l : List Int) : Nat := l.foldl (fun g x => Nat.gcd g x.natAbs) g
def gcdL (l : List Int) : Nat := gF 0 l
def low (l : List Int) : List Int := l.map (fun x => x / (gcdL l : Int))

theorem gF_dvd : ∀ (l : List Int) (g : Nat), gF g l ∣ g ∧ ∀ x ∈ l, (gF g l : Int) ∣ x
  | [], g => ⟨Nat.dvd_refl g, fun x hx => by cases hx⟩
  | y :: r, g => by
    have ih := gF_dvd r (Nat.gcd g y.natAbs)
    show gF (Nat.gcd g y.natAbs) r ∣ g ∧ ∀ x ∈ y :: r, (gF (Nat.gcd g y.natAbs) r : Int) ∣ x
    refine ⟨Nat.dvd_trans ih.1 (Nat.gcd_dvd_left _ _), fun x hx => ?_⟩
    rcases List.mem_cons.mp hx with e | hx
    · subst e
      exact Int.ofNat_dvd_left.mpr (Nat.dvd_trans ih.1 (Nat.gcd_dvd_right _ _))
    · exact ih.2 x hx
theorem gcdL_dvd {l : List Int} {x : Int} (hx : x ∈ l) : (gcdL l : Int) ∣ x := (gF_dvd l 0).2 x hx
theorem gF_mul (k : Int) : ∀ (l : List Int) (g : Nat), gF (k.natAbs * g) (l.map (k * ·)) = k.natAbs * gF g l
  | [], g => rfl
  | y :: r, g => by
    show gF (Nat.gcd (k.natAbs * g) (k * y).natAbs) (r.map (k * ·)) = k.natAbs * gF (Nat.gcd g y.natAbs) r
    rw [Int.natAbs_mul, Nat.gcd_mul_left]
    exact gF_mul k r _
theorem gcdL_mul (k : Int) (l : List Int) : gcdL (l.map (k * ·)) = k.natAbs * gcdL l := by
  have h := gF_mul k l 0
  rw [Nat.mul_zero] at h
  exact h
theorem gF_zero : ∀ (l : List Int) (g : Nat), gF g l = 0 → g = 0 ∧ ∀ x ∈ l, x = 0
  | [], g, h => ⟨h, fun x hx => by cases hx⟩
  | y :: r, g, h => by
    have ih := gF_zero r (Nat.gcd g y.natAbs) h
    have h1 := Nat.gcd_eq_zero_iff.mp ih.1
    refine ⟨h1.1, fun x hx => ?_⟩
    rcases List.mem_cons.mp hx with e | hx
    · subst e
      exact Int.natAbs_eq_zero.mp h1.2
    · exact ih.2 x hx
theorem gcdL_ne {l : List Int} {x : Int} (hx : x ∈ l) (h : x ≠ 0) : gcdL l ≠ 0 := fun e => h ((gF_zero l 0 e).2 x hx)
theorem gcdL_le {l : List Int} {x : Int} (hx : x ∈ l) (h : x ≠ 0) : gcdL l ≤ x.natAbs := by
  have d := gcdL_dvd hx
  exact Nat.le_of_dvd (Int.natAbs_pos.mpr h) (Int.ofNat_dvd_left.mp d)
theorem low_back {l : List Int} : (low l).map ((gcdL l : Int) * ·) = l := by
  unfold low
  rw [List.map_map]
  conv => rhs; rw [← List.map_id l]
  refine List.map_congr_left fun x hx => ?_
  exact Int.mul_ediv_cancel' (gcdL_dvd hx)
theorem gcdL_low {l : List Int} (h : gcdL l ≠ 0) : gcdL (low l) = 1 := by
  have e := gcdL_mul (gcdL l : Int) (low l)
  rw [low_back, Int.natAbs_natCast] at e
  exact (Nat.eq_of_mul_eq_mul_left (Nat.pos_of_ne_zero h) (by omega))
theorem low_one {l : List Int} (h : gcdL l = 1) : low l = l := by
  have e := low_back (l := l)
  rw [h] at e
  simpa using e
theorem low_mul {k : Int} {l : List Int} (hk : 0 < k) : low (l.map (k * ·)) = low l := by
  unfold low
  rw [List.map_map, gcdL_mul]
  refine List.map_congr_left fun x _ => ?_
  show (k * x) / ((k.natAbs * gcdL l : Nat) : Int) = x / (gcdL l : Int)
  have e : ((k.natAbs * gcdL l : Nat) : Int) = k * (gcdL l : Int) := by
    rw [Int.natCast_mul]
    congr 1
    omega
  rw [e, Int.mul_ediv_mul_of_pos _ _ hk]

/-! ### four numbers -/
structure Q where
  a : Int
  b : Int
  c : Int
  d : Int
deriving DecidableEq
namespace Q
def l (q : Q) : List Int := [q.a, q.b, q.c, q.d]
def g (q : Q) : Nat := gcdL q.l
def sm (k : Int) (q : Q) : Q := ⟨k * q.a, k * q.b, k * q.c, k * q.d⟩
def neg (q : Q) : Q := ⟨-q.a, -q.b, -q.c, -q.d⟩
def opp (q : Q) : Q := ⟨-q.a, -q.b, -q.c, q.d⟩
def lw (q : Q) : Q := ⟨q.a / (q.g : Int), q.b / (q.g : Int), q.c / (q.g : Int), q.d / (q.g : Int)⟩
def N (q : Q) : Int := q.a * q.a + q.b * q.b + q.c * q.c + q.d * q.d
end Q
open Q
theorem l_inj {p q : Q} (h : p.l = q.l) : p = q := by
  obtain ⟨a, b, c, d⟩ := p
  obtain ⟨e, f, g, i⟩ := q
  unfold Q.l at h
  simp only [List.cons.injEq, and_true] at h
  obtain ⟨h1, h2, h3, h4⟩ := h
  subst h1 h2 h3 h4
  rfl
theorem l_sm (k : Int) (q : Q) : (sm k q).l = q.l.map (k * ·) := rfl
theorem l_lw (q : Q) : (lw q).l = low q.l := rfl
theorem g_sm (k : Int) (q : Q) : (sm k q).g = k.natAbs * q.g := gcdL_mul k q.l
theorem lw_sm {k : Int} {q : Q} (hk : 0 < k) : lw (sm k q) = lw q := l_inj (by rw [l_lw, l_sm, low_mul hk, l_lw])
theorem lw_one {q : Q} (h : q.g = 1) : lw q = q := l_inj (by rw [l_lw]; exact low_one h)
theorem sm_lw (q : Q) : sm (q.g : Int) (lw q) = q := l_inj (by rw [l_sm, l_lw]; exact low_back)
theorem g_lw {q : Q} (h : q.g ≠ 0) : (lw q).g = 1 := by
  show gcdL (lw q).l = 1
  rw [l_lw]
  exact gcdL_low h
theorem g_ne_d {q : Q} (h : q.d ≠ 0) : q.g ≠ 0 := gcdL_ne (x := q.d) (by simp [Q.l]) h
theorem g_zero {q : Q} (h : q.g = 0) : q.a = 0 ∧ q.b = 0 ∧ q.c = 0 ∧ q.d = 0 := by
  have z := (gF_zero q.l 0 h).2
  exact ⟨z _ (by simp [Q.l]), z _ (by simp [Q.l]), z _ (by simp [Q.l]), z _ (by simp [Q.l])⟩
theorem sq_nn (x : Int) : 0 ≤ x * x := by
  rcases Int.le_total 0 x with h | h
  · exact Int.mul_nonneg h h
  · exact Int.mul_nonneg_of_nonpos_of_nonpos h h
theorem sq_zero {x : Int} (h : x * x = 0) : x = 0 := by
  rcases Int.mul_eq_zero.mp h with h | h <;> exact h
theorem N_pos {q : Q} (h : q.g ≠ 0) : 0 < q.N := by
  have h1 := sq_nn q.a
  have h2 := sq_nn q.b
  have h3 := sq_nn q.c
  have h4 := sq_nn q.d
  rcases Int.lt_or_le 0 q.N with p | p
  · exact p
  · refine absurd ?_ h
    have e : q.N = q.a * q.a + q.b * q.b + q.c * q.c + q.d * q.d := rfl
    have a0 : q.a = 0 := sq_zero (by omega)
    have b0 : q.b = 0 := sq_zero (by omega)
    have c0 : q.c = 0 := sq_zero (by omega)
    have d0 : q.d = 0 := sq_zero (by omega)
    show gcdL [q.a, q.b, q.c, q.d] = 0
    rw [a0, b0, c0, d0]
    rfl
theorem g_of_N {q : Q} (h : 0 < q.N) : q.g ≠ 0 := fun z => by
  obtain ⟨e1, e2, e3, e4⟩ := g_zero z
  have e : q.N = q.a * q.a + q.b * q.b + q.c * q.c + q.d * q.d := rfl
  rw [e1, e2, e3, e4] at e
  omega

/-! ### the first number that isn't 0 -/
def lead : List Int → Int
  | [] => 0
  | x :: r => if x = 0 then lead r else x
theorem lead_neg : ∀ l : List Int, lead (l.map (- ·)) = - lead l
  | [] => rfl
  | x :: r => by
    show (if -x = 0 then lead (r.map (- ·)) else -x) = - (if x = 0 then lead r else x)
    have ih := lead_neg r
    by_cases h : x = 0
    · rw [if_pos h, if_pos (by omega), ih]
    · rw [if_neg h, if_neg (by omega)]
theorem lead_zero : ∀ {l : List Int}, lead l = 0 → ∀ x ∈ l, x = 0
  | [], _, x, hx => by cases hx
  | y :: r, h, x, hx => by
    have h' : (if y = 0 then lead r else y) = 0 := h
    by_cases e : y = 0
    · rw [if_pos e] at h'
      rcases List.mem_cons.mp hx with q | hx
      · rw [q, e]
      · exact lead_zero h' x hx
    · rw [if_neg e] at h'
      exact absurd h' e

structure IsTurn (q : Q) : Prop where
  g : q.g = 1
  ld : 0 < lead q.l
structure IsPlace (q : Q) : Prop where
  g : q.g = 1
  d : 1 ≤ q.d
  n : q.a * q.a + q.b * q.b + q.c * q.c = q.d * q.d

/-- turn_in -/
def ti (q : Q) : Q := if 0 < lead (lw q).l then lw q else neg (lw q)
theorem l_neg (q : Q) : (neg q).l = q.l.map (- ·) := rfl
theorem neg_sm (q : Q) : neg q = sm (-1) q := by
  unfold neg sm
  congr 1 <;> omega
theorem ti_scale (q : Q) (h : q.g ≠ 0) : ∃ k : Int, k ≠ 0 ∧ q = sm k (ti q) := by
  unfold ti
  split
  · exact ⟨q.g, by omega, (sm_lw q).symm⟩
  · refine ⟨-(q.g : Int), by omega, ?_⟩
    conv => lhs; rw [← sm_lw q]
    unfold neg sm
    congr 1 <;> exact (Int.neg_mul_neg _ _).symm
theorem ti_turn {q : Q} (h : q.g ≠ 0) : IsTurn (ti q) := by
  unfold ti
  split
  · rename_i hl
    exact ⟨g_lw h, hl⟩
  · rename_i hl
    refine ⟨?_, ?_⟩
    · rw [neg_sm, g_sm, g_lw h]
      rfl
    · rw [l_neg, lead_neg]
      have hz : lead (lw q).l ≠ 0 := fun z => by
        have z2 := lead_zero z
        have e1 := sm_lw q
        have ha := z2 (lw q).a (by simp [Q.l])
        have hb := z2 (lw q).b (by simp [Q.l])
        have hc := z2 (lw q).c (by simp [Q.l])
        have hd := z2 (lw q).d (by simp [Q.l])
        apply h
        rw [← e1, g_sm]
        have : (lw q).g = 0 := by
          show gcdL [(lw q).a, (lw q).b, (lw q).c, (lw q).d] = 0
          rw [ha, hb, hc, hd]
          rfl
        rw [this, Nat.mul_zero]
      omega

/-! ### a place turned -/
def rot (t p : Q) : Q :=
  ⟨(t.a * t.a + t.b * t.b - t.c * t.c - t.d * t.d) * p.a + 2 * (t.b * t.c - t.a * t.d) * p.b + 2 * (t.b * t.d + t.a * t.c) * p.c,
   2 * (t.b * t.c + t.a * t.d) * p.a + (t.a * t.a - t.b * t.b + t.c * t.c - t.d * t.d) * p.b + 2 * (t.c * t.d - t.a * t.b) * p.c,
   2 * (t.b * t.d - t.a * t.c) * p.a + 2 * (t.c * t.d + t.a * t.b) * p.b + (t.a * t.a - t.b * t.b - t.c * t.c + t.d * t.d) * p.c,
   t.N * p.d⟩
def tb (t p : Q) : Q := lw (rot t p)
theorem rot_sm_l (k : Int) (t p : Q) : rot (sm k t) p = sm (k * k) (rot t p) := by
  unfold rot sm N
  congr 1 <;> grind
theorem rot_sm_r (k : Int) (t p : Q) : rot t (sm k p) = sm k (rot t p) := by
  unfold rot sm
  congr 1 <;> grind
theorem rot_opp (t p : Q) : rot t (opp p) = opp (rot t p) := by
  unfold rot opp
  congr 1 <;> grind
theorem sm_sm (k m : Int) (p : Q) : sm k (sm m p) = sm (k * m) p := by
  unfold sm
  congr 1 <;> grind
theorem sm_opp (k : Int) (p : Q) : sm k (opp p) = opp (sm k p) := by
  unfold sm opp
  congr 1 <;> grind
theorem rot_norm (t p : Q) (h : p.a * p.a + p.b * p.b + p.c * p.c = p.d * p.d) :
    (rot t p).a * (rot t p).a + (rot t p).b * (rot t p).b + (rot t p).c * (rot t p).c = (rot t p).d * (rot t p).d := by
  have e : (rot t p).a * (rot t p).a + (rot t p).b * (rot t p).b + (rot t p).c * (rot t p).c = t.N * t.N * (p.a * p.a + p.b * p.b + p.c * p.c) := by
    unfold rot N
    grind
  rw [e, h]
  show _ = t.N * p.d * (t.N * p.d)
  grind
theorem place_lw {r : Q} (hd : 0 < r.d) (hn : r.a * r.a + r.b * r.b + r.c * r.c = r.d * r.d) : IsPlace (lw r) := by
  have g0 : r.g ≠ 0 := g_ne_d (by omega)
  have gp : 0 < (r.g : Int) := by omega
  have e := sm_lw r
  have ea : (r.g : Int) * (lw r).a = r.a := congrArg Q.a e
  have eb : (r.g : Int) * (lw r).b = r.b := congrArg Q.b e
  have ec : (r.g : Int) * (lw r).c = r.c := congrArg Q.c e
  have ed : (r.g : Int) * (lw r).d = r.d := congrArg Q.d e
  refine ⟨g_lw g0, ?_, ?_⟩
  · rcases Int.lt_or_le 0 (lw r).d with h | h
    · omega
    · have := Int.mul_nonpos_of_nonneg_of_nonpos (Int.le_of_lt gp) h
      omega
  · have h2 : ((r.g : Int) * r.g) * ((lw r).a * (lw r).a + (lw r).b * (lw r).b + (lw r).c * (lw r).c) = ((r.g : Int) * r.g) * ((lw r).d * (lw r).d) := by
      rw [← ea, ← eb, ← ec, ← ed] at hn
      grind
    exact Int.eq_of_mul_eq_mul_left (Int.ne_of_gt (Int.mul_pos gp gp)) h2
theorem place_tb {t p : Q} (ht : t.g ≠ 0) (hp : IsPlace p) : IsPlace (tb t p) :=
  place_lw (Int.mul_pos (N_pos ht) (Int.lt_of_lt_of_le (by decide) hp.d)) (rot_norm t p hp.n)
theorem tb_scale {t p : Q} (ht : t.g ≠ 0) (hp : IsPlace p) : ∃ m : Int, 0 < m ∧ rot t p = sm m (tb t p) := by
  have g0 : (rot t p).g ≠ 0 := g_ne_d (Int.ne_of_gt (Int.mul_pos (N_pos ht) (Int.lt_of_lt_of_le (by decide) hp.d)))
  exact ⟨(rot t p).g, by omega, (sm_lw _).symm⟩
/-- what comes out where the turn's numbers are known up to a factor -/
theorem tb_ti {q p G : Q} {m k : Int} (hq : q.g ≠ 0) (hm : 0 < m) (hk : 0 < k) (hG : G.g = 1) (e : sm m (rot q p) = sm k G) : tb (ti q) p = G := by
  obtain ⟨z, hz, ez⟩ := ti_scale q hq
  have e2 : sm (m * (z * z)) (rot (ti q) p) = sm k G := by
    rw [← sm_sm, ← rot_sm_l, ← ez]
    exact e
  have hzz : 0 < z * z := by
    rcases Int.lt_trichotomy z 0 with h | h | h
    · exact Int.mul_pos_of_neg_of_neg h h
    · exact absurd h hz
    · exact Int.mul_pos h h
  have e3 := congrArg lw e2
  rw [lw_sm (Int.mul_pos hm hzz), lw_sm hk, lw_one hG] at e3
  exact e3
theorem sm_one (p : Q) : sm 1 p = p := by
  unfold sm
  simp

/-! ### the turn from place to place -/
def dt (p q : Q) : Int := p.a * q.a + p.b * q.b + p.c * q.c
def crs (p q : Q) : List Int := [p.b * q.c - p.c * q.b, p.c * q.a - p.a * q.c, p.a * q.b - p.b * q.a]
def near (p q : Q) : Int := dt p q + p.d * q.d
def north : Q := ⟨0, 0, 1, 1⟩
def qto (p q : Q) : Q := ⟨near p q, p.b * q.c - p.c * q.b, p.c * q.a - p.a * q.c, p.a * q.b - p.b * q.a⟩
def turnTo (p q : Q) : Q := if 0 < near p q then ti (qto p q) else if crs p north ≠ [0, 0, 0] then ti ⟨0, p.b, -p.a, 0⟩ else ⟨0, 1, 0, 0⟩
theorem north_place : IsPlace north := ⟨by decide, by decide, by decide⟩
theorem opp_place {p : Q} (h : IsPlace p) : IsPlace (opp p) := by
  refine ⟨?_, h.d, ?_⟩
  · have e : (opp p).g = p.g := by
      show gcdL [-p.a, -p.b, -p.c, p.d] = gcdL [p.a, p.b, p.c, p.d]
      simp [gcdL, gF, Int.natAbs_neg]
    rw [e]
    exact h.g
  · have := h.n
    show -p.a * -p.a + -p.b * -p.b + -p.c * -p.c = p.d * p.d
    grind
theorem rot_qto {p q : Q} (hp : p.a * p.a + p.b * p.b + p.c * p.c = p.d * p.d) (hq : q.a * q.a + q.b * q.b + q.c * q.c = q.d * q.d) :
    rot (qto p q) p = sm (2 * near p q * (p.d * p.d)) q := by
  obtain ⟨x, y, z, w⟩ := p
  obtain ⟨e, f, g, v⟩ := q
  unfold rot qto sm near dt N
  simp only at hp hq ⊢
  congr 1 <;> grind
theorem opp_of_far {p q : Q} (hp : IsPlace p) (hq : IsPlace q) (h : ¬ 0 < near p q) : q = opp p := by
  have e : (q.d * p.a + p.d * q.a) * (q.d * p.a + p.d * q.a) + (q.d * p.b + p.d * q.b) * (q.d * p.b + p.d * q.b) + (q.d * p.c + p.d * q.c) * (q.d * p.c + p.d * q.c) = 2 * (p.d * q.d) * near p q := by
    have h1 := hp.n
    have h2 := hq.n
    unfold near dt
    grind
  have hw : 0 < p.d * q.d := Int.mul_pos (Int.lt_of_lt_of_le (by decide) hp.d) (Int.lt_of_lt_of_le (by decide) hq.d)
  have h3 : 2 * (p.d * q.d) * near p q ≤ 0 := Int.mul_nonpos_of_nonneg_of_nonpos (by omega) (by omega)
  have s1 := sq_nn (q.d * p.a + p.d * q.a)
  have s2 := sq_nn (q.d * p.b + p.d * q.b)
  have s3 := sq_nn (q.d * p.c + p.d * q.c)
  have z1 : q.d * p.a + p.d * q.a = 0 := sq_zero (by omega)
  have z2 : q.d * p.b + p.d * q.b = 0 := sq_zero (by omega)
  have z3 : q.d * p.c + p.d * q.c = 0 := sq_zero (by omega)
  have e2 : sm p.d q = sm q.d (opp p) := by
    unfold sm opp
    congr 1 <;> grind
  have e3 := congrArg lw e2
  rw [lw_sm (Int.lt_of_lt_of_le (by decide) hp.d), lw_sm (Int.lt_of_lt_of_le (by decide) hq.d), lw_one hq.g, lw_one (opp_place hp).g] at e3
  exact e3
theorem rot_half (p : Q) : rot ⟨0, p.b, -p.a, 0⟩ p = sm (p.a * p.a + p.b * p.b) (opp p) := by
  obtain ⟨x, y, z, w⟩ := p
  unfold rot sm opp N
  simp only
  congr 1 <;> grind
theorem g_a {q : Q} (h : q.a ≠ 0) : q.g ≠ 0 := gcdL_ne (x := q.a) (by simp [Q.l]) h
theorem g_b {q : Q} (h : q.b ≠ 0) : q.g ≠ 0 := gcdL_ne (x := q.b) (by simp [Q.l]) h
theorem g_c {q : Q} (h : q.c ≠ 0) : q.g ≠ 0 := gcdL_ne (x := q.c) (by simp [Q.l]) h
theorem crs_north (p : Q) : crs p north = [p.b, -p.a, 0] := by
  unfold crs north
  simp
/-- THE TURN: it is one, and brings the place to the goal -/
theorem turnTo_ok {p q : Q} (hp : IsPlace p) (hq : IsPlace q) : IsTurn (turnTo p q) ∧ tb (turnTo p q) p = q := by
  unfold turnTo
  by_cases hn : 0 < near p q
  · rw [if_pos hn]
    have g0 : (qto p q).g ≠ 0 := g_a (by show near p q ≠ 0; omega)
    refine ⟨ti_turn g0, ?_⟩
    have hw : 0 < p.d := Int.lt_of_lt_of_le (by decide) hp.d
    exact tb_ti g0 (by decide : (0 : Int) < 1) (Int.mul_pos (by omega : 0 < 2 * near p q) (Int.mul_pos hw hw)) hq.g (by rw [sm_one]; exact rot_qto hp.n hq.n)
  · rw [if_neg hn]
    have eq := opp_of_far hp hq hn
    rw [crs_north]
    by_cases hc : [p.b, -p.a, 0] ≠ [0, 0, 0]
    · rw [if_pos hc]
      have hab : p.a ≠ 0 ∨ p.b ≠ 0 := by
        by_cases ha : p.a = 0
        · by_cases hb : p.b = 0
          · exact absurd (by rw [ha, hb]; rfl) hc
          · exact .inr hb
        · exact .inl ha
      have g0 : (Q.mk 0 p.b (-p.a) 0).g ≠ 0 := by
        rcases hab with h | h
        · exact g_c (by show -p.a ≠ 0; omega)
        · exact g_b h
      have hpos : 0 < p.a * p.a + p.b * p.b := by
        have s1 := sq_nn p.a
        have s2 := sq_nn p.b
        rcases Int.lt_or_le 0 (p.a * p.a + p.b * p.b) with z | z
        · exact z
        · exfalso
          have a0 : p.a = 0 := sq_zero (by omega)
          have b0 : p.b = 0 := sq_zero (by omega)
          rcases hab with h | h
          · exact h a0
          · exact h b0
      refine ⟨ti_turn g0, ?_⟩
      exact tb_ti g0 (by decide : (0 : Int) < 1) hpos hq.g (by rw [sm_one, eq]; exact rot_half p)
    · rw [if_neg hc]
      have hc' : [p.b, -p.a, 0] = [0, 0, 0] := Classical.not_not.mp hc
      simp only [List.cons.injEq, and_true] at hc'
      obtain ⟨b0, a0⟩ := hc'
      have a0 : p.a = 0 := by omega
      refine ⟨⟨by decide, by decide⟩, ?_⟩
      have e : rot ⟨0, 1, 0, 0⟩ p = opp p := by
        unfold rot opp N
        simp only [a0, b0]
        congr 1 <;> grind
      unfold tb
      rw [e, ← eq]
      exact lw_one hq.g

/-! ### undone, one behind the other, opposites -/
def conj (t : Q) : Q := ⟨t.a, -t.b, -t.c, -t.d⟩
def undone (t : Q) : Q := ti (conj t)
def mulQ (o t : Q) : Q :=
  ⟨o.a * t.a - o.b * t.b - o.c * t.c - o.d * t.d, o.a * t.b + o.b * t.a + o.c * t.d - o.d * t.c,
   o.a * t.c - o.b * t.d + o.c * t.a + o.d * t.b, o.a * t.d + o.b * t.c - o.c * t.b + o.d * t.a⟩
def thenT (one other : Q) : Q := ti (mulQ other one)
theorem N_conj (t : Q) : (conj t).N = t.N := by
  unfold conj N
  grind
theorem N_mul (o t : Q) : (mulQ o t).N = o.N * t.N := by
  unfold mulQ N
  grind
theorem rot_conj (t p : Q) : rot (conj t) (rot t p) = sm (t.N * t.N) p := by
  unfold rot conj sm N
  simp only
  congr 1 <;> grind
theorem rot_mul (o t p : Q) : rot (mulQ o t) p = rot o (rot t p) := by
  have e : (mulQ o t).N * p.d = o.N * (t.N * p.d) := by
    rw [N_mul]
    grind
  unfold rot
  simp only [e]
  unfold mulQ
  simp only
  congr 1 <;> grind
theorem turn_g {t : Q} (h : IsTurn t) : t.g ≠ 0 := by
  rw [h.g]
  decide
theorem undone_ok {t p q : Q} (ht : IsTurn t) (hp : IsPlace p) (e : tb t p = q) : IsTurn (undone t) ∧ tb (undone t) q = p := by
  have g0 : (conj t).g ≠ 0 := g_of_N (by rw [N_conj]; exact N_pos (turn_g ht))
  obtain ⟨m, hm, em⟩ := tb_scale (turn_g ht) hp
  refine ⟨ti_turn g0, ?_⟩
  have hN := N_pos (turn_g ht)
  refine tb_ti g0 hm (Int.mul_pos hN hN) hp.g ?_
  rw [← rot_sm_r, ← e, ← em]
  exact rot_conj t p
theorem thenT_ok {t u p q r : Q} (ht : IsTurn t) (hu : IsTurn u) (hp : IsPlace p) (hr : IsPlace r) (e1 : tb t p = q) (e2 : tb u q = r) : IsTurn (thenT t u) ∧ tb (thenT t u) p = r := by
  have g0 : (mulQ u t).g ≠ 0 := g_of_N (by rw [N_mul]; exact Int.mul_pos (N_pos (turn_g hu)) (N_pos (turn_g ht)))
  obtain ⟨m, hm, em⟩ := tb_scale (turn_g ht) hp
  have hq : IsPlace q := by
    rw [← e1]
    exact place_tb (turn_g ht) hp
  obtain ⟨k, hk, ek⟩ := tb_scale (turn_g hu) hq
  refine ⟨ti_turn g0, tb_ti g0 (by decide : (0 : Int) < 1) (Int.mul_pos hm hk) hr.g ?_⟩
  rw [sm_one, rot_mul, em, rot_sm_r, e1, ek, e2, sm_sm]
theorem opp_ok {t p q : Q} (ht : IsTurn t) (hp : IsPlace p) (e : tb t p = q) : tb t (opp p) = opp q := by
  obtain ⟨m, hm, em⟩ := tb_scale (turn_g ht) hp
  unfold tb
  rw [rot_opp, em, ← sm_opp, lw_sm hm, e]
  refine lw_one (opp_place ?_).g
  rw [← e]
  exact place_tb (turn_g ht) hp

/-! ### the place at a pair -/
def atQ (p q m : Int) : Q := ⟨2 * p * m, 2 * q * m, m * m - p * p - q * q, m * m + p * p + q * q⟩
theorem at_place {p q m : Int} (hm : 1 ≤ m) : IsPlace (lw (atQ p q m)) := by
  refine place_lw ?_ ?_
  · have h1 := sq_nn p
    have h2 := sq_nn q
    have h3 : 0 < m * m := Int.mul_pos (by omega) (by omega)
    show 0 < m * m + p * p + q * q
    omega
  · unfold atQ
    grind
end K12
/-! Rules that the layer lacks: great powers, a list's slice with a step, a star among targets, repr of a tuple of ints. -/
namespace K12
open PySem PySem.Spec PyProof.Rows L2

section
variable {X : Cx}
/-! ### powers -/
def CPowW (i j : Int) : Prop := 0 ≤ j ∧ (Builtin.Int.intBits i : Int) * j ≤ 2 ^ 27
theorem op_powW : OpR X (binaryOp .Pow) (rI CPowW fun i j => .int (i ^ j.toNat)) := opI fun _ _ _ _ _ _ _ hc q => pow_int hc.1 hc.2 q

/-! ### xs[a:b:c] of a list: SOME items of it -/
theorem vals_mem {xs : List V} {us : List Value} (r : Vals xs us) {u : Value} (h : u ∈ us) : ∃ y ∈ xs, RelV y u := by
  induction r with
  | nil => cases h
  | cons a b ih =>
    rcases List.mem_cons.mp h with e | h
    · exact ⟨_, List.mem_cons_self, by rw [e]; exact a⟩
    · obtain ⟨y, m, ry⟩ := ih h
      exact ⟨y, List.mem_cons_of_mem _ m, ry⟩
theorem vals_some {xs : List V} {us : List Value} (r : Vals xs us) : ∀ {ws : List Value}, (∀ u ∈ ws, u ∈ us) → ∃ ys, Vals ys ws ∧ ∀ y ∈ ys, y ∈ xs
  | [], _ => ⟨[], .nil, fun _ h => nomatch h⟩
  | u :: ws, h => by
    obtain ⟨ys, r1, m1⟩ := vals_some r (ws := ws) fun v hv => h v (List.mem_cons_of_mem _ hv)
    obtain ⟨y, my, ry⟩ := vals_mem r (h u List.mem_cons_self)
    refine ⟨y :: ys, .cons ry r1, fun z hz => ?_⟩
    rcases List.mem_cons.mp hz with e | hz
    · rw [e]
      exact my
    · exact m1 z hz
theorem pick_mem {its : Array Value} {lo hi st : Option Int} : ∀ u ∈ (slicePick its lo hi st).toList, u ∈ its.toList := by
  intro u hu
  unfold slicePick at hu
  obtain ⟨j, _, e⟩ := List.mem_filterMap.mp hu
  exact Array.mem_toList_iff.mpr (Array.mem_of_getElem? e)
def tSl3 (K : PySem.W.Frag) (te : TE) (tl th ts : TO) : TE := fun σ H Q => te σ H fun x H1 => tl σ H1 fun lo H2 => th σ H2 fun hi H3 => ts σ H3 fun st H4 =>
  ∃ a xs, x = .ref a ∧ SqL K H4 a xs ∧ st ≠ some 0 ∧ ∀ p ys, H4 p = none → (∀ y ∈ ys, y ∈ xs) → ys.length ≤ xs.length → Q (.ref p) (upd H4 p (.lst ys))
theorem pe_slice3 {e : Expr} {lo hi : Option Expr} {st : Expr} {te : TE} {tl th ts : TO} {p2 pos : Pos} (he : PE X e te) (hl : PO X lo tl) (hu : PO X hi th) (hst : PO X (some st) ts) :
    PE X (.Subscript e (.Slice lo hi (some st) p2) pos) (tSl3 X.K te tl th ts) := by
  refine ⟨fun pins s σ H Q I h => Subscript_ (thn (he.run pins s σ H _ I h) ?_)⟩
  intro v s1 ⟨x, H1, I1, r1, q1⟩
  refine wpAny_Slice (thn (hl.run pins s1 σ H1 _ I1 q1) ?_)
  intro vl s2 ⟨l, H2, I2, pl, q2⟩
  refine thn (hu.run pins s2 σ H2 _ I2 q2) ?_
  intro vu s3 ⟨u, H3, I3, pu, q3⟩
  refine thn (hst.run pins s3 σ H3 _ I3 q3) ?_
  intro vs s4 ⟨o, H4, I4, ps, q4⟩
  obtain ⟨a, xs, ex, hx, h0, q⟩ := q4
  subst ex
  cases r1
  have I5 : Inv X pins σ H4 { s4 with heap := s4.heap.push { cls := .type "slice", data := .fields #[vl, vu, vs] } } := I4.kept (t' := s4.toks) fun b ob z => Heap.get?_push_of_some _ z
  obtain ⟨its, r, ht, hz⟩ := I5.list hx
  have hlen := r.length
  have hg : wpAny (model X.prog X.w) X.A (subscriptTail e (.Slice lo hi (some st) p2) (.ref a) (.ref s4.heap.objs.size)) (EP X pins σ Q) X.xe { s4 with heap := s4.heap.push { cls := .type "slice", data := .fields #[vl, vu, vs] } } := by
    refine tail_any (ops := [.ref a, .ref s4.heap.objs.size]) ht.isList.typeIs (PySem.slot_list_getitem.lookup) ?_ (by with_unfolding_all rfl)
    refine wpAny_getItem_list_slice ht.isList (Heap.IsSliceOf.new _ vl vu vs) pl pu ps h0 ?_ (by rw [List.size_toArray]; omega)
    obtain ⟨ys, ry, my⟩ := vals_some r (ws := (slicePick its.toArray l u o).toList) (fun z hz => by simpa using pick_mem z hz)
    have hle := slicePick_size_le its.toArray l u o
    have hyl : ys.length ≤ xs.length := by
      rw [ry.length, Array.length_toList, hlen, ← List.size_toArray]
      exact hle
    refine ⟨.ref _, _, I5.laid (t' := s4.toks) (o := .lst ys) (fun b ob z => Heap.get?_push_of_some _ z) (Nat.le_refl _) ?_, rfl, q _ ys (I5.hok.fresh (Nat.le_refl _)) my hyl⟩
    exact ⟨Nat.le_trans hyl hz, _, 0, ry, Heap.get?_push_size _ rfl⟩
  exact hg

/-! ### a, .., *rest = t -/
theorem pgs_star {e : Expr} {p : Pos} {es : List Expr} {t : TG} {u : TGs} (h1 : PG X e t) (h2 : PGs X es u) : PGs X (.Starred e p :: es) (gCons t u) := by
  refine ⟨fun pins s σ H vs us Q I r h => ?_⟩
  obtain ⟨v, vr, e1, h⟩ := h
  subst e1
  cases r with
  | cons ra rb =>
    show wpAny _ _ (assignInOrder (assign e X.env :: (assignEach es X.env).map (·.2)) _) _ _ _
    refine assignInOrder_cons (thn (h1.run pins s σ H _ _ _ I ra h) ?_)
    intro _ s1 ⟨σ1, H1, I1, q1⟩
    exact h2.run pins s1 σ1 H1 _ _ Q I1 rb q1
theorem there_of {P : Program} {w : World} {H : Hp} {h : Heap} {a : Addr} {o : HO} (x : ObjOk P w H h a o) : ∃ u, h.get? a = some u := by
  cases o with
  | lst xs => obtain ⟨_, _, _, _, e⟩ := x; exact ⟨_, e⟩
  | tup xs => obtain ⟨_, _, _, u, e, _⟩ := x; exact ⟨u, e⟩
  | dK kvs => obtain ⟨_, _, _, _, o, _, _, e, _⟩ := x; exact ⟨o, e⟩
  | dT kvs => obtain ⟨_, _, _, _, o, _, _, e, _⟩ := x; exact ⟨o, e⟩
  | set S n => obtain ⟨o, _, _, _, e, _⟩ := x; exact ⟨o, e⟩
  | ins C dx fs => obtain ⟨_, _, _, e, _⟩ := x; exact ⟨_, e⟩
  | own y => exact x
  | xd fs => obtain ⟨_, ⟨o, _, _, e, _⟩, _⟩ := x; exact ⟨o, e⟩
  | rng lo hi => obtain ⟨_, _, _, e⟩ := x; exact ⟨_, e⟩
  | frz ob u => obtain ⟨e, _⟩ := x; exact ⟨_, e⟩
  | tbl ps => exact ⟨_, x⟩
  | met f y => exact ⟨_, x⟩
  | ext φ => exact x.2.1
/-- the i-th of n targets has the star -/
def gStar (K : PySem.W.Frag) (n i : Nat) (t : TGs) : TG := fun v σ H Q => ∃ a xs, v = .ref a ∧ SqT K H a xs ∧ i < n ∧ n ≤ xs.length + 1 ∧ xs.length ≤ 16384 ∧
  ∀ D, H D = none → t (xs.take i ++ [.ref D] ++ (xs.drop i).drop (xs.length + 1 - n)) σ (upd H D (.lst ((xs.drop i).take (xs.length + 1 - n)))) Q
theorem pg_star {es : List Expr} {k : Nat} {t : TGs} {n i : Nat} {pos : Pos} (hc : X.calm = true) (h : PGs X es t) (hn : (assignEach es X.env).length = n) (hst : (assignEach es X.env).findIdx? (·.1) = some i) :
    PG X (.Tuple es k pos) (gStar X.K n i t) := by
  refine ⟨fun pins s σ H v u Q I r hw => ?_⟩
  obtain ⟨a, xs, e1, hq, hi, hl, hz0, hw⟩ := hw
  subst e1
  cases r
  obtain ⟨its, rv, ht, hz⟩ := I.tuple hq
  have hlen : its.toArray.size = xs.length := by
    rw [List.size_toArray]
    exact rv.length.symm
  obtain ⟨m, F⟩ := I.fr
  refine PySem.W.kun_assignT F (news_all (g := X.base) (h := s.heap) (L := X.env.locals)) ht (I.ok.hd hc) hn hst hi (by rw [hlen]; exact hl) (by rw [hlen]; exact hz0) rfl rfl rfl fun D h' tk F' N' l1 => ?_
  rw [hlen]
  have kp : ∀ b o, b ≠ X.env.locals → s.heap.get? b = some o → h'.get? b = some o := fun b o hb e => by
    cases q : X.base.get? b with
    | some w =>
      have z := I.bk b w q
      rw [e] at z
      cases z
      exact F'.keep b _ q
    | none => exact (N' (b, o) (List.mem_cons_of_mem _ (mem_allNews hb q e))).1
  have hD := N' _ List.mem_cons_self
  have newD : s.heap.get? D = none := by
    cases q : s.heap.get? D with
    | none => rfl
    | some w => exact absurd (l1 (D, w) (mem_allNews hD.2.1 hD.2.2 q)) (Nat.lt_irrefl _)
  have nD : ∀ b o, s.heap.get? b = some o → b ≠ D := fun b o e z => by
    rw [z, newD] at e
    cases e
  have hHD : H D = none := by
    cases q : H D with
    | none => rfl
    | some w =>
      obtain ⟨o, z⟩ := there_of (I.hok D w q)
      rw [newD] at z
      cases z
  have tn : ∀ b u, H b = some u → b ≠ X.env.locals := fun b u e z => by
    rw [z, I.free] at e
    cases e
  have rm : Vals ((xs.drop i).take (xs.length + 1 - n)) ((its.drop i).take (xs.length + 1 - n)) := (rv.drop i).take _
  have hok : HOk X.prog X.w (upd H D (.lst ((xs.drop i).take (xs.length + 1 - n)))) h' := fun b u e => by
    by_cases hb : b = D
    · subst hb
      rw [upd_same] at e
      cases e
      exact ⟨Nat.le_trans (by rw [List.length_take, List.length_drop]; omega) hz, _, 0, rm, by have z := hD.1; rw [hlen] at z; exact z⟩
    · rw [upd_ne hb] at e
      refine (I.hok b u e).stay (fun c v hc q => ?_) (fun c q => by rw [upd_ne (ne_of_none q hHD)]; exact q) fun c ys q => by rw [upd_ne (ne_of_none q hHD)]; exact q
      rcases hc with z | z
      · exact kp c v (by rw [z]; exact tn b u e) q
      · exact kp c v (tn c _ z) q
  have I1 : Inv X pins σ (upd H D (.lst ((xs.drop i).take (xs.length + 1 - n)))) { s with heap := h', toks := tk } := by
    refine I.step (g' := s.gens) (d' := s.drawn) (ch := []) (fun _ z => nomatch z) (fun b o hb _ _ e _ => kp b o hb e) (fun b o hb _ _ e _ => ⟨o.slots, kp b o hb e⟩) (fun b o _ e hn => by rw [upd_ne (nD b o e)]; exact hn)
      (fun b o _ e => ?_) (fun b ys q => by rw [upd_ne (ne_of_none q hHD)]; exact q) (fun b o u q => by rw [upd_ne (ne_of_none q hHD)]; exact q) (fun b ps q => ⟨#[], by rw [upd_ne (ne_of_none q hHD), q]; simp⟩) (fun m' hm => ?_) hok I.bare
    · by_cases hb : b = X.env.locals
      · obtain ⟨o', es, ep, ho', _⟩ := F'.ns
        exact ⟨o', by rw [hb]; exact ho'⟩
      · exact ⟨o, kp b o hb e⟩
    · rw [SlX.ns_only hm F.ns]
      exact F'.ns
  have rl : Vals (xs.take i ++ [.ref D] ++ (xs.drop i).drop (xs.length + 1 - n)) (its.take i ++ [.ref D] ++ (its.drop i).drop (xs.length + 1 - n)) := ((rv.take i).append (.cons (show RelV (.ref D) (.ref D) from rfl) .nil)).append ((rv.drop i).drop _)
  exact h.run pins _ σ _ _ _ Q I1 (by simpa using rl) (hw D hHD)
end
end K12
/-! repr of a tuple of four ints; defs that are called where no repr is under way. -/
namespace K12
open PySem PySem.Spec PyProof.Rows L2

section
variable {X : Cx}
def data4 (a b c d : Int) : PyData := .tuple [.int a, .int b, .int c, .int d]
theorem shown4_len {a b c d : Int} (ha : a.natAbs.log2 < 1920) (hb : b.natAbs.log2 < 1920) (hc : c.natAbs.log2 < 1920) (hd : d.natAbs.log2 < 1920) : (data4 a b c d).shown.length ≤ sizeLine := by
  have e : (data4 a b c d).shown = tupleText [Str.ofString (toString a), Str.ofString (toString b), Str.ofString (toString c), Str.ofString (toString d)] := by
    simp only [data4, PyData.shown, PyData.shownAll]
  rw [e]
  have l1 := int_text_len_1921 ha
  have l2 := int_text_len_1921 hb
  have l3 := int_text_len_1921 hc
  have l4 := int_text_len_1921 hd
  have j := join_length_add [Str.ofString (toString a), Str.ofString (toString b), Str.ofString (toString c), Str.ofString (toString d)] (by simp)
  simp only [piled_cons, piled_nil] at j
  have z : sizeLine = 16777216 := sizeLine_eq
  have k1 : ("(" : Str).length = 1 := by decide +kernel
  have k2 : (Str.ofString (if ([Str.ofString (toString a), Str.ofString (toString b), Str.ofString (toString c), Str.ofString (toString d)].length == 1) = true then ",)" else ")")).length = 1 := by
    show (Str.ofString (if false = true then ",)" else ")")).length = 1
    rw [if_neg Bool.false_ne_true]
    decide +kernel
  unfold tupleText
  rw [strLen_append, strLen_append, k1, k2]
  omega
/-- repr of a tuple of four ints, where no repr is under way -/
def rRepr4 (K : PySem.W.Frag) : List V → Hp → VK → Prop := fun vs H Q => ∃ (p : Addr) (a b c d : Int), vs = [.ref p] ∧ SqT K H p [.int a, .int b, .int c, .int d] ∧
  a.natAbs.log2 < 1920 ∧ b.natAbs.log2 < 1920 ∧ c.natAbs.log2 < 1920 ∧ d.natAbs.log2 < 1920 ∧ Q (.str (data4 a b c d).shown) H
theorem call_repr4 (hg : X.A.guards = some []) (hu : X.A.units + 8 < cLine) : CallR X (.builtin "repr") (rRepr4 X.K) := by
  intro pins s σ H vs us Q I r h
  obtain ⟨p, a, b, c, d, rfl, ht, ha, hb, hc, hd, q⟩ := h
  obtain ⟨u, rfl, ru⟩ := vals1 r
  cases ru
  have hD : Dp X.K H (.ref p) (data4 a b c d) := .tup ht (.cons (.int a) (.cons (.int b) (.cons (.int c) (.cons (.int d) .nil))))
  obtain ⟨as, hr⟩ := Dp.reads I (data4 a b c d) (.ref p) (.ref p) hD rfl
  have nd : (data4 a b c d).hasDict = false := by simp [data4, PyData.hasDict, PyData.hasDictAll]
  have sh : (data4 a b c d).showable = true := by simp [data4, PyData.showable, PyData.showableAll, ha, hb, hc, hd]
  have dp : (data4 a b c d).depth ≤ 2 := by simp only [data4, PyData.depth, PyData.depthAll]; omega
  exact repr_of_reads' hr sh (PyData.noDict_hsm nd) hg (by omega) (fun _ _ e => e) (fun h' u tk hk => ⟨.str _, H, I.kept (t' := tk) hk, ⟨u, rfl⟩, q⟩) (shown4_len ha hb hc hd)
end

/-! ### defs that are called where no repr is under way -/
structure FnG (P : Program) (w : World) (K : PySem.W.Frag) (mg : Str → Option Value) (base : Heap) (k : Nat) (f : Addr) (fd : FuncData) (ps : List Str) (sp : Sp) : Prop where
  len : ∀ vs H Q E, sp vs H Q E → vs.length = ps.length
  run : ∀ (A : Around) (fr : List Env) (s : Shared) (H : Hp) (args : Args) (us : List Value) (vs : List V) (Q : VK) (E : XK), A.guards = some [] → Room k A → Env0 P w K mg base A fr s H → BindsTo s fd args (ps.zip us) →
    Vals vs us → sp vs H Q E → codeAny (model P w) A (.call (.ref f) args) (CR CX0 fr P w H s Q E) s
section
variable {P : Program} {w : World} {K : PySem.W.Frag} {mg : Str → Option Value} {base : Heap} {k : Nat} {f : Addr} {fd : FuncData} {N ps : List Str} {sp : Sp} {name : Str} {st : Stmt}
theorem fnG_of (F : Fun K name name st f fd) (S : FnScope N ps (defScope st)) (len : ∀ vs H Q E, sp vs H Q E → vs.length = ps.length)
    (body : ∀ (cdv : Value) (A : Around) (fr : List Env) (s : Shared) (H : Hp) (vs : List V) (Q : VK) (E : XK), A.guards = some [] → Room k (A.deeper (envOfC name (defScope st) s.heap.objs.size f cdv)) → sp vs H Q E →
      ∃ t, PSs (cxOf CX0 P w K mg base N name (defScope st) f cdv A fr s H E).nox (defBody st) t ∧ t { nx := fun _ H' => Q .non H', rt := Q } (start N vs) H) : FnG P w K mg base (k + 1) f fd ps sp := by
  obtain ⟨oc, od, kV, doc, pm, an, cdv, ct, osl, rfl, lk, hcd⟩ := F.ex
  constructor
  · exact len
  intro A fr s H args us vs Q E hg hr e0 hb r hs
  have lv := len _ _ _ _ hs
  have KX : K.In s.heap := e0.mod.kin.keeps fun b o z => (e0.bs b o z).1
  have nolim : s.heap.NoLimit := e0.mod.nolimit.keeps fun b o z => (e0.bs b o z).1
  refine codeAny_call_function hr.depth (KX _ _ lk) rfl S.co S.gen rfl (PySem.W.codeRec_of KX hcd) (hb _ _ _ _ ?_)
  refine wpAny_newFunctionEnv_cells S.kind ?_ ?_
  · intro ⟨n, v⟩ hy
    cases S.par n (List.of_mem_zip hy).1 with
    | inl q => exact .inl q
    | inr q => exact .inr ⟨q, PySem.W.cellsFrom_some _ _ _ (.inl q)⟩
  intro env he s1 x
  subst he
  obtain ⟨t, ht, hq⟩ := body cdv A fr s H vs Q E hg (hr.deeper _) hs
  refine ⟨nolim.keeps x.toInCall.keep, codeAny_func ?_⟩
  have I := inv_start (CX := CX0) (P := P) (w := w) (mg := mg) (E := E) S hr.hd e0 lv r x
  refine wpAny_mono (ht.nox.run [] s1 (start N vs) H _ I hq) ?_ (fun e s' z => z)
  intro fl s' hs'
  cases fl with
  | ret u =>
    obtain ⟨v, σ', H', J, rv, q⟩ := hs'
    exact ⟨v, H', J.os, J.bare, J.base, J.hok, rv, q⟩
  | next =>
    obtain ⟨σ', H', J, q⟩ := hs'
    exact ⟨V.non, H', J.os, J.bare, J.base, J.hok, rfl, q⟩
  | brk =>
    obtain ⟨_, _, _, q⟩ := hs'
    exact q.elim
  | cont =>
    obtain ⟨_, _, _, q⟩ := hs'
    exact q.elim
end
section
variable {X : Cx} {k : Nat} {f : Addr} {fd : FuncData} {ps : List Str} {sp : Sp} {x : Str} {p pos : Pos} {e : Expr} {es : List Expr} {t : TA}
theorem pe_callG (F : FnG X.prog X.w X.K X.mg X.base k f fd ps sp) (hgd : X.A.guards = some []) (hr : Room k X.A) (hg : Gl X x) (hm : X.mg x = some (.ref f)) (hk : PySem.W.keepIn X.K (.ref f) = true) (hb : Binds X.K fd ps [])
    (ha : PA X (e :: es) t) (hdb : (x == ("__debug__" : Str)) = false := by decide) (he : starEach (e :: es) X.env = (false, eval e X.env) :: starEach es X.env := by rfl) (hpl : (backTo pos (starEach es X.env)).any (·.1) = false := by rfl) :
    PE X (.Call (.Name x p) (e :: es) [] pos) (tCall sp [] E0 t) := by
  constructor
  intro pins s σ H Q I h
  refine wpAny_Call_Name_kw (ld_glob I hg hm ?_ hdb)
  refine PySem.W.callWith_K (h₀ := X.base) I.ok.mod.kin hk (thn (ha.run pos pins s σ H _ I h) ?_) he hpl
  intro us s1 ⟨vs, H1, I1, r, q⟩
  refine ⟨I1.kIn, ?_⟩
  have q : sp (vs ++ []) H1 Q E0 := q
  rw [List.append_nil] at q
  have hl : (us ++ []).length = ps.length := by
    rw [List.append_nil, ← r.length]
    exact F.len _ _ _ _ q
  have bt := hb s1 us I1.kIn hl
  rw [List.append_nil] at bt
  refine wpAny_call (codeAny_mono (F.run X.A X.stack s1 H1 ⟨us, []⟩ us vs Q E0 hgd hr I1.env0 bt r q) ?_)
  intro rr s' hq
  cases rr with
  | error e => exact hq.elim
  | ok fl =>
    cases fl with
    | ret u => exact I1.after hq
    | next => exact hq.elim
    | brk => exact hq.elim
    | cont => exact hq.elim
end

/-! ### the law's call -/
section
variable {P : Program} {w : World} {K : PySem.W.Frag} {mg mb : Str → Option Value} {k : Nat} {fa a : Addr} {fd : FuncData} {x : Str} {sp : Sp} {s₁ : Shared} {vs : List Value} {ns : List Int}
/-- from an abstract heap that tracks the script alone, or nothing -/
theorem law_coreG (KX : K.In s₁.heap) (hns : s₁.heap.Ns mainGlobals mg) (hb : s₁.heap.Ns builtinsNs mb) (hbb : ∀ x : Str, x ≠ "__name__" → mb x = bootBuiltins x) (hlim : s₁.heap.NoLimit) (hg : s₁.gens = #[])
    (o : Obj) (ho : s₁.heap.get? a = some o) (nodict : ∀ es ep, o.data ≠ .dict es ep) (hr : Room k callerA)
    (F : ∀ base : Heap, K.In base → base.Ns mainGlobals mg → FnG P w K mg base k fa fd [x] sp) (hbind : ∀ (s : Shared) (u : Value), BindsTo s fd ⟨[u], []⟩ [(x, u)])
    (H : Hp) (hO : Only H) (hok : HOk P w H s₁.heap) (hA : ∀ b, H b ≠ none → b = a) (hK : H a ≠ none → K.lookup a = none) (hsp : sp [.ref a] H (fun v _ => v = .bl true) E0) :
    codeAny (model P w) callerA (.call (.ref fa) ⟨[.ref a], []⟩) (fun r s' => r = .ok (.ret (.bool true)) ∧ OldK s₁.heap s'.heap ∧ s'.os = s₁.os ∧ AllBare s'.gens) s₁ := by
  have untracked : ∀ {b : Addr} {u : Obj} {es : Array DictEntry} {ep : Nat}, s₁.heap.get? b = some u → u.data = .dict es ep → H b = none := by
    intro b u es ep z d
    cases q : H b with
    | none => rfl
    | some v =>
      exfalso
      have e := hA b (by rw [q]; simp)
      rw [e, ho] at z
      cases z
      exact nodict es ep d
  have nsH : ∀ {b : Addr} {m : Str → Option Value}, s₁.heap.Ns b m → (hidT s₁.heap H).Ns b m := by
    intro b m z
    obtain ⟨u, es, ep, e, d, r⟩ := z
    exact ⟨u, es, ep, hidT_get e (untracked e d), d, r⟩
  have kH : K.In (hidT s₁.heap H) := by
    intro b u e
    refine hidT_get (KX b u e) ?_
    cases q : H b with
    | none => rfl
    | some v =>
      exfalso
      have z := hA b (by rw [q]; simp)
      have z2 := hK (by rw [← z, q]; simp)
      rw [z, z2] at e
      cases e
  have lim : (hidT s₁.heap H).NoLimit := by
    obtain ⟨mc, h1, h2⟩ := hlim
    exact ⟨mc, nsH h1, h2⟩
  have M : Mod K mg (hidT s₁.heap H) := ⟨kH, nsH hns, ⟨mb, nsH hb, hbb⟩, lim⟩
  have none_in : ∀ b : Addr, b ∉ frs ([] : List Env) := fun b z => nomatch (show b ∈ ([] : List Addr) from z)
  have E : Env0 P w K mg (hidT s₁.heap H) callerA [] s₁ H :=
    ⟨rfl, M, fun b u e => of_hidT e, Nat.le_of_eq (hidT_size _ _), trivial, fun b z => absurd z (none_in b), hok, .of_eq hg⟩
  have R := (F _ kH (nsH hns)).run callerA [] s₁ H ⟨[.ref a], []⟩ [.ref a] [.ref a] _ _ rfl hr E (hbind s₁ (.ref a)) (.cons rfl .nil) hsp
  refine codeAny_mono R ?_
  intro r s' h
  match r, h with
  | .error e, h => exact False.elim h
  | .ok .next, h => exact False.elim h
  | .ok .brk, h => exact False.elim h
  | .ok .cont, h => exact False.elim h
  | .ok (.ret u), h =>
    obtain ⟨v, H', hos, bare, un, hok', rv, e⟩ := h
    have e : v = .bl true := e
    subst e
    have e2 : u = Value.bool true := rv
    subst e2
    refine ⟨rfl, OldK.of_keep ?_, hos, bare⟩
    intro b u z
    cases q : H b with
    | none => exact un.keep b u z q (none_in b) (by simp)
    | some v =>
      rcases hO b with z2 | ⟨ob, xs, z2⟩
      · rw [q] at z2
        cases z2
      · have f1 := (hok b _ z2).1
        have f2 := (hok' b _ (un.frzs b ob _ z2)).1
        rw [z] at f1
        cases f1
        exact f2
theorem law_callG (KX : K.In s₁.heap) (hns : s₁.heap.Ns mainGlobals mg) (hb : s₁.heap.Ns builtinsNs mb) (hbb : ∀ x : Str, x ≠ "__name__" → mb x = bootBuiltins x) (hlim : s₁.heap.NoLimit) (hg : s₁.gens = #[])
    (ha : s₁.heap.get? a = some { cls := .type "list", data := .seq vs.toArray }) (hi : IntsAre vs ns) (hl : ns.length ≤ sizeLine) (hr : Room k callerA)
    (F : ∀ base : Heap, K.In base → base.Ns mainGlobals mg → FnG P w K mg base k fa fd [x] sp) (hbind : ∀ (s : Shared) (u : Value), BindsTo s fd ⟨[u], []⟩ [(x, u)])
    (hsp : ∀ H : Hp, Only H → SqL K H a (ns.map V.int) → sp [.ref a] H (fun v _ => v = .bl true) E0) :
    codeAny (model P w) callerA (.call (.ref fa) ⟨[.ref a], []⟩) (fun r s' => r = .ok (.ret (.bool true)) ∧ OldK s₁.heap s'.heap ∧ s'.os = s₁.os ∧ AllBare s'.gens) s₁ := by
  have rv := vals_ints hi
  have lv := hi.length
  have nodict : ∀ es ep, ({ cls := .type "list", data := .seq vs.toArray } : Obj).data ≠ .dict es ep := fun es ep z => by
    have z : Data.seq vs.toArray _ = Data.dict es ep := z
    cases z
  cases hk : K.lookup a with
  | some o =>
    have z := KX a o hk
    rw [ha] at z
    cases z
    have hO : Only fun _ => none := fun _ => .inl rfl
    refine law_coreG KX hns hb hbb hlim hg _ ha nodict hr F hbind (fun _ => none) hO (fun b u z => by cases z) (fun b z => absurd rfl z) (fun z => absurd rfl z) (hsp _ hO (.inr ⟨_, vs.toArray, _, hk, rfl, rfl, rfl, ?_, ?_⟩))
    · rw [List.size_toArray, lv]
      exact hl
    · simpa using rv
  | none =>
    let Ha : Hp := upd (fun _ => none) a (.frz { cls := .type "list", data := .seq vs.toArray } (.lst (ns.map V.int)))
    have hs : Ha a = some (.frz { cls := .type "list", data := .seq vs.toArray } (.lst (ns.map V.int))) := upd_same
    have hn : ∀ b, b ≠ a → Ha b = none := fun b z => upd_ne z
    have hO : Only Ha := by
      intro b
      by_cases z : b = a
      · rw [z]
        exact .inr ⟨_, _, hs⟩
      · exact .inl (hn b z)
    have only_a : ∀ b, Ha b ≠ none → b = a := by
      intro b z
      by_cases e : b = a
      · exact e
      · exact absurd (hn b e) z
    refine law_coreG KX hns hb hbb hlim hg _ ha nodict hr F hbind Ha hO ?_ only_a (fun _ => hk) (hsp _ hO (.inl (.inr ⟨_, hs⟩)))
    intro b u z
    have e := only_a b (by rw [z]; simp)
    rw [e, hs] at z
    cases z
    rw [e]
    exact ⟨ha, by rw [List.length_map]; exact hl, vs, _, rv, ha⟩
end
theorem walk_ofG {l : PySem.W.OpenLaw} {n k : Nat} {q : Program} {loose : List Str} {XP : (Str → Option Value) → Heap → Prop} {YP : World → Heap → Prop} {d : DefRec} {K : Params → PySem.W.Frag} {sp : PySem.W.Frag → Sp} {x : Str}
    (hn : l.most = some n) (hn2 : n ≤ sizeLine) (hdf : d.params.defaults = []) (hr : Room k callerA)
    (hY : ∀ (w : World) (h : Heap), YP w h → (K w.params).In h)
    (F : ∀ (w : World) (mg : Str → Option Value) (fa : Addr) (h : Heap), (K w.params).In h → h.Ns mainGlobals mg → mg d.name = some (.ref fa) →
      ∃ fd : FuncData, (∀ (s : Shared) (u : Value), BindsTo s fd ⟨[u], []⟩ [(x, u)]) ∧ ∀ base : Heap, (K w.params).In base → base.Ns mainGlobals mg → FnG l.prog w (K w.params) mg base k fa fd [x] (sp (K w.params)))
    (hsp : ∀ (K : PySem.W.Frag) (H : Hp) (a : Addr) (ns : List Int), ns.length ≤ n → Only H → SqL K H a (ns.map V.int) → sp K [.ref a] H (fun v _ => v = .bl true) E0) :
    PySem.W.WalkO q loose XP YP l.row.toRowW d [] (fun f vs => PySem.call f vs) := by
  refine Att.attach_call hn hdf ?_
  intro w s₀ s₁ mg mb fa o pm cd doc a vs ns G Y ho hd hcd hmg hobj hints hlen hg
  have KX := hY w _ Y
  obtain ⟨fd, hb, hF⟩ := F w mg fa _ KX G.T.g hmg
  exact law_callG KX G.T.g G.T.b G.T.builtins G.T.nolimit hg hobj hints (Nat.le_trans hlen hn2) hr hF hb fun H hO hS => hsp _ H a ns hlen hO hS
end K12
/-! Readings by data: no addresses are left. Dt is what a slot holds; a reading speaks of slots, of a counter (how far the pool's third number may have come), and of what is wanted. -/
namespace K12
open PySem PySem.Spec PyProof.Rows L2

inductive Dt where
  | non | int (i : Int) | bl (b : Bool) | str (s : Str) | tup (xs : List Int) | rows (xss : List (List Int)) | lst (xs : List Int) | lbs (bs : List Bool) | lrows (xss : List (List Int)) | seq (xs : List Int) | raw (w : V) | pool

def TupAt (K : PySem.W.Frag) (H : Hp) (v : V) (xs : List Int) : Prop := ∃ p, v = .ref p ∧ SqT K H p (xs.map V.int)
def Is (K : PySem.W.Frag) (l : Option Addr) (H : Hp) (v : V) : Dt → Prop
  | .non => v = .non
  | .int i => v = .int i
  | .bl b => v = .bl b
  | .str s => v = .str s
  | .tup xs => TupAt K H v xs
  | .rows xss => ∃ p vs, v = .ref p ∧ SqT K H p vs ∧ Paired (TupAt K H) vs xss
  | .lst xs => ∃ p, v = .ref p ∧ H p = some (.lst (xs.map V.int)) ∧ some p ≠ l
  | .lbs bs => ∃ p, v = .ref p ∧ H p = some (.lst (bs.map V.bl)) ∧ some p ≠ l
  | .lrows xss => ∃ p vs, v = .ref p ∧ H p = some (.lst vs) ∧ some p ≠ l ∧ Paired (TupAt K H) vs xss
  | .seq xs => ∃ p, v = .ref p ∧ SqL K H p (xs.map V.int) ∧ some p ≠ l
  | .raw w => v = w
  | .pool => ∃ a, l = some a ∧ v = .ref a
def Keep (l : Option Addr) (H H' : Hp) : Prop := ∀ a o, some a ≠ l → H a = some o → H' a = some o
def Pool (l : Option Addr) (H : Hp) (c : Nat) : Prop := match l with
  | none => True
  | some a => ∃ x y z : Int, H a = some (.lst [.int x, .int y, .int z]) ∧ 0 ≤ x ∧ 0 ≤ y ∧ y < 1000000007 ∧ 0 ≤ z ∧ z ≤ (c : Int)
abbrev Dv := List (Option Dt)
def StX (K : PySem.W.Frag) (l : Option Addr) (H : Hp) (σ : L2.St) (ρ : Dv) : Prop := σ.length = ρ.length ∧ ∀ (i : Nat) (d : Dt), ρ[i]? = some (some d) → ∃ v, σ[i]? = some (some v) ∧ Is K l H v d

section
variable {K : PySem.W.Frag} {l : Option Addr} {H H' H1 H2 : Hp} {v : V} {c : Nat}
theorem Keep.refl : Keep l H H := fun _ _ _ e => e
theorem Keep.trans (a : Keep l H H1) (b : Keep l H1 H2) : Keep l H H2 := fun x o n e => b x o n (a x o n e)
theorem Keep.new {p : Addr} {o : HO} (h : H p = none) : Keep l H (upd H p o) := fun a u _ e => by
  rw [upd_ne (ne_of_none e h)]
  exact e
/-- what is laid into the pool's place -/
theorem Keep.put {a : Addr} {o : HO} : Keep (some a) H (upd H a o) := fun b u n e => by
  rw [upd_ne fun z => n (by rw [z])]
  exact e
theorem Keep.wide (h : Keep none H H') : Keep l H H' := fun a o _ e => h a o (by simp) e
theorem sqT_keep (hp : Pool l H c) (k : Keep l H H') {p : Addr} {xs : List V} (h : SqT K H p xs) : SqT K H' p xs := by
  have ne : ∀ {u : HO}, H p = some u → (∀ ys, u ≠ .lst ys) → some p ≠ l := by
    intro u e nl z
    subst z
    obtain ⟨x, y, w, e2, _⟩ := hp
    rw [e] at e2
    exact nl _ (Option.some.inj e2)
  rcases h with (h | ⟨o, h⟩) | h
  · exact .inl (.inl (k _ _ (ne h fun _ z => by cases z) h))
  · exact .inl (.inr ⟨o, k _ _ (ne h fun _ z => by cases z) h⟩)
  · exact .inr h
theorem sqL_keep (k : Keep l H H') {p : Addr} {xs : List V} (n : some p ≠ l) (h : SqL K H p xs) : SqL K H' p xs := by
  rcases h with (h | ⟨o, h⟩) | h
  · exact .inl (.inl (k _ _ n h))
  · exact .inl (.inr ⟨o, k _ _ n h⟩)
  · exact .inr h
theorem TupAt.keep (hp : Pool l H c) (k : Keep l H H') {xs : List Int} (h : TupAt K H v xs) : TupAt K H' v xs := by
  obtain ⟨p, e, q⟩ := h
  exact ⟨p, e, sqT_keep hp k q⟩
theorem Is.keep (hp : Pool l H c) (k : Keep l H H') {d : Dt} (h : Is K l H v d) : Is K l H' v d := by
  cases d with
  | tup xs => exact TupAt.keep hp k h
  | rows xss =>
    obtain ⟨p, vs, e, q, r⟩ := h
    exact ⟨p, vs, e, sqT_keep hp k q, Paired.mapP r fun _ _ z => z.keep hp k⟩
  | lst xs =>
    obtain ⟨p, e, q, n⟩ := h
    exact ⟨p, e, k _ _ n q, n⟩
  | lbs xs =>
    obtain ⟨p, e, q, n⟩ := h
    exact ⟨p, e, k _ _ n q, n⟩
  | lrows xss =>
    obtain ⟨p, vs, e, q, n, r⟩ := h
    exact ⟨p, vs, e, k _ _ n q, n, Paired.mapP r fun _ _ z => z.keep hp k⟩
  | seq xs =>
    obtain ⟨p, e, q, n⟩ := h
    exact ⟨p, e, sqL_keep k n q, n⟩
  | raw w => exact h
  | non => exact h
  | int i => exact h
  | bl b => exact h
  | str s => exact h
  | pool => exact h
theorem StX.keep {σ : L2.St} {ρ : Dv} (hp : Pool l H c) (k : Keep l H H') (h : StX K l H σ ρ) : StX K l H' σ ρ := ⟨h.1, fun i d e => by
  obtain ⟨v, e2, q⟩ := h.2 i d e
  exact ⟨v, e2, q.keep hp k⟩⟩
theorem StX.set {σ : L2.St} {ρ : Dv} {i : Nat} {d : Dt} (h : StX K l H σ ρ) (q : Is K l H v d) : StX K l H (σ.set i (some v)) (ρ.set i (some d)) := by
  refine ⟨by rw [List.length_set, List.length_set]; exact h.1, fun j d' e => ?_⟩
  by_cases hj : i = j
  · subst hj
    by_cases hi : i < ρ.length
    · rw [List.getElem?_set_self hi] at e
      cases e
      exact ⟨v, List.getElem?_set_self (by rw [h.1]; exact hi), q⟩
    · rw [List.getElem?_eq_none (by rw [List.length_set]; omega)] at e
      cases e
  · rw [List.getElem?_set_ne hj] at e
    obtain ⟨w, e2, q2⟩ := h.2 j d' e
    exact ⟨w, by rw [List.getElem?_set_ne hj]; exact e2, q2⟩
/-- slots forgotten on both sides -/
def wipeD (ρ : Dv) : List Nat → Dv
  | [] => ρ
  | i :: is => (wipeD ρ is).set i none
theorem StX.wipe {σ : L2.St} {ρ : Dv} (h : StX K l H σ ρ) : ∀ is : List Nat, StX K l H (wipe σ is) (wipeD ρ is)
  | [] => h
  | i :: is => by
    have ih := StX.wipe h is
    refine ⟨?_, fun j d e => ?_⟩
    · show ((L2.wipe σ is).set i none).length = ((wipeD ρ is).set i none).length
      rw [List.length_set, List.length_set]
      exact ih.1
    · have e : ((wipeD ρ is).set i none)[j]? = some (some d) := e
      by_cases hj : i = j
      · subst hj
        by_cases hi : i < (wipeD ρ is).length
        · rw [List.getElem?_set_self hi] at e
          cases e
        · rw [List.getElem?_eq_none (by rw [List.length_set]; omega)] at e
          cases e
      · rw [List.getElem?_set_ne hj] at e
        obtain ⟨w, e2, q⟩ := ih.2 j d e
        exact ⟨w, by show ((L2.wipe σ is).set i none)[j]? = _; rw [List.getElem?_set_ne hj]; exact e2, q⟩
end

/-! ### readings by data -/
abbrev DE := Dv → Nat → (Dt → Nat → Prop) → Prop
abbrev DB := Dv → Nat → (Bool → Nat → Prop) → Prop
abbrev DA := Dv → Nat → (List Dt → Nat → Prop) → Prop
structure DEnds where
  nx : Dv → Nat → Prop
  rt : Dt → Nat → Prop
abbrev DS := DEnds → Dv → Nat → Prop
abbrev DG := Dt → Dv → (Dv → Prop) → Prop
abbrev DGs := List Dt → Dv → (Dv → Prop) → Prop

/-- the layer's reading that a reading by data stands for -/
def cnE (K : PySem.W.Frag) (l : Option Addr) (t : DE) : TE := fun σ H Q => ∃ ρ c P, StX K l H σ ρ ∧ Pool l H c ∧ t ρ c P ∧ ∀ v d c' H', Keep l H H' → Pool l H' c' → Is K l H' v d → P d c' → Q v H'
def cnB (K : PySem.W.Frag) (l : Option Addr) (t : DB) : TT := fun σ H Q => ∃ ρ c P, StX K l H σ ρ ∧ Pool l H c ∧ t ρ c P ∧ ∀ b c' H', Keep l H H' → Pool l H' c' → P b c' → Q b H'
def cnA (K : PySem.W.Frag) (l : Option Addr) (t : DA) : TA := fun σ H Q => ∃ ρ c P, StX K l H σ ρ ∧ Pool l H c ∧ t ρ c P ∧ ∀ vs ds c' H', Keep l H H' → Pool l H' c' → Paired (Is K l H') vs ds → P ds c' → Q vs H'
def cnS (K : PySem.W.Frag) (l : Option Addr) (t : DS) : TS := fun D σ H => ∃ ρ c E, StX K l H σ ρ ∧ Pool l H c ∧ t E ρ c ∧ (∀ σ' ρ' c' H', Keep l H H' → Pool l H' c' → StX K l H' σ' ρ' → E.nx ρ' c' → D.nx σ' H') ∧
  ∀ v d c' H', Keep l H H' → Pool l H' c' → Is K l H' v d → E.rt d c' → D.rt v H'
def cnG (K : PySem.W.Frag) (l : Option Addr) (t : DG) : TG := fun v σ H Q => ∃ d ρ c P, Is K l H v d ∧ StX K l H σ ρ ∧ Pool l H c ∧ t d ρ P ∧ ∀ σ' ρ' H', Keep l H H' → Pool l H' c → StX K l H' σ' ρ' → P ρ' → Q σ' H'
def cnGs (K : PySem.W.Frag) (l : Option Addr) (t : DGs) : TGs := fun vs σ H Q => ∃ ds ρ c P, Paired (Is K l H) vs ds ∧ StX K l H σ ρ ∧ Pool l H c ∧ t ds ρ P ∧ ∀ σ' ρ' H', Keep l H H' → Pool l H' c → StX K l H' σ' ρ' → P ρ' → Q σ' H'

structure PD (K : PySem.W.Frag) (l : Option Addr) (X : Cx) (e : Expr) (t : DE) : Prop where
  k : X.K = K
  pe : PE X e (cnE K l t)
structure PB (K : PySem.W.Frag) (l : Option Addr) (X : Cx) (e : Expr) (t : DB) : Prop where
  k : X.K = K
  pt : PT X e (cnB K l t)
structure PW' (K : PySem.W.Frag) (l : Option Addr) (X : Cx) (e : Expr) (t : DB) : Prop where
  k : X.K = K
  pt : PW X e (cnB K l t)
structure PAr (K : PySem.W.Frag) (l : Option Addr) (X : Cx) (es : List Expr) (t : DA) : Prop where
  k : X.K = K
  pa : PA X es (cnA K l t)
structure PSt (K : PySem.W.Frag) (l : Option Addr) (X : Cx) (st : Stmt) (t : DS) : Prop where
  k : X.K = K
  ps : PS X st (cnS K l t)
structure PSts (K : PySem.W.Frag) (l : Option Addr) (X : Cx) (st : List Stmt) (t : DS) : Prop where
  k : X.K = K
  ps : PSs X st (cnS K l t)
structure PTg (K : PySem.W.Frag) (l : Option Addr) (X : Cx) (tg : Expr) (t : DG) : Prop where
  k : X.K = K
  pg : PG X tg (cnG K l t)
structure PTgs (K : PySem.W.Frag) (l : Option Addr) (X : Cx) (tg : List Expr) (t : DGs) : Prop where
  k : X.K = K
  pg : PGs X tg (cnGs K l t)

theorem _root_.L2.PE.imp {X : Cx} {e : Expr} {t u : TE} (h : PE X e t) (i : ∀ σ H Q, u σ H Q → t σ H Q) : PE X e u := ⟨fun pins s σ H Q I z => h.run pins s σ H Q I (i σ H Q z)⟩
theorem _root_.L2.PT.imp {X : Cx} {e : Expr} {t u : TT} (h : PT X e t) (i : ∀ σ H Q, u σ H Q → t σ H Q) : PT X e u := ⟨fun pins s σ H Q I z => h.run pins s σ H Q I (i σ H Q z)⟩
theorem _root_.L2.PW.imp {X : Cx} {e : Expr} {t u : TT} (h : PW X e t) (i : ∀ σ H Q, u σ H Q → t σ H Q) : PW X e u := ⟨fun wh pins s σ H Q I z => h.run wh pins s σ H Q I (i σ H Q z)⟩
theorem _root_.L2.PA.imp {X : Cx} {es : List Expr} {t u : TA} (h : PA X es t) (i : ∀ σ H Q, u σ H Q → t σ H Q) : PA X es u := ⟨fun pos pins s σ H Q I z => h.run pos pins s σ H Q I (i σ H Q z)⟩
theorem _root_.L2.PS.imp {X : Cx} {st : Stmt} {t u : TS} (h : PS X st t) (i : ∀ D σ H, u D σ H → t D σ H) : PS X st u := ⟨fun pins s σ H D I z => h.run pins s σ H D I (i D σ H z)⟩
theorem _root_.L2.PSs.imp {X : Cx} {st : List Stmt} {t u : TS} (h : PSs X st t) (i : ∀ D σ H, u D σ H → t D σ H) : PSs X st u := ⟨fun pins s σ H D I z => h.run pins s σ H D I (i D σ H z)⟩
theorem _root_.L2.PG.imp {X : Cx} {tg : Expr} {t u : TG} (h : PG X tg t) (i : ∀ v σ H Q, u v σ H Q → t v σ H Q) : PG X tg u := ⟨fun pins s σ H v w Q I r z => h.run pins s σ H v w Q I r (i v σ H Q z)⟩
theorem _root_.L2.PGs.imp {X : Cx} {tg : List Expr} {t u : TGs} (h : PGs X tg t) (i : ∀ v σ H Q, u v σ H Q → t v σ H Q) : PGs X tg u := ⟨fun pins s σ H v w Q I r z => h.run pins s σ H v w Q I r (i v σ H Q z)⟩

section
variable {K : PySem.W.Frag} {l : Option Addr} {X : Cx} {a b e : Expr} {pos : Pos} {ta tb : DE}

/-! ### names, constants -/
def dVar (i : Nat) : DE := fun ρ c P => ∃ d, ρ[i]? = some (some d) ∧ P d c
def dC (d : Dt) : DE := fun _ c P => P d c
theorem pd_v (i : Nat) {x : Str} (k : X.K = K := by rfl) (hN : X.N[i]? = some x := by rfl) (hv : Vis X.env.scope x := by first | exact Or.inl rfl | exact Or.inr (Or.inl rfl) | exact Or.inr (Or.inr rfl)) (hd : (x == ("__debug__" : Str)) = false := by decide)
    (hcd : (x == ("__classdict__" : Str)) = false := by decide) : PD K l X (.Name x pos) (dVar i) :=
  ⟨k, (pe_var hN hv hd hcd).imp fun σ H Q ⟨ρ, c, P, S, p, ⟨d, e, q⟩, h⟩ => by
    obtain ⟨v, e2, r⟩ := S.2 i d e
    exact ⟨v, e2, h v d c H Keep.refl p r q⟩⟩
theorem pd_int {i : Int} {j : Nat} (k : X.K = K := by rfl) : PD K l X (.Constant (.int i) j pos) (dC (.int i)) := ⟨k, pe_int.imp fun σ H Q ⟨_, c, _, _, p, q, h⟩ => h _ (.int i) c H Keep.refl p rfl q⟩
theorem pd_bl {i : Bool} {j : Nat} (k : X.K = K := by rfl) : PD K l X (.Constant (.bool i) j pos) (dC (.bl i)) := ⟨k, pe_bl.imp fun σ H Q ⟨_, c, _, _, p, q, h⟩ => h _ (.bl i) c H Keep.refl p rfl q⟩
/-- a module's tuple of ints -/
theorem pd_globT {x : Str} {A : Addr} {xs : List Int} (hg : Gl X x) (hm : X.mg x = some (.ref A)) (hT : ∀ H, SqT K H A (xs.map V.int)) (hd : (x == ("__debug__" : Str)) = false := by decide) (k : X.K = K := by rfl) : PD K l X (.Name x pos) (dC (.tup xs)) :=
  ⟨k, (pe_glob (v := .ref A) hg hm rfl hd).imp fun σ H Q ⟨_, c, _, _, p, q, h⟩ => h _ (.tup xs) c H Keep.refl p ⟨A, rfl, hT H⟩ q⟩

/-! ### operators -/
/-- an operator by data -/
abbrev D2 := Dt → Dt → (Dt → Prop) → Prop
def OpD (K : PySem.W.Frag) (l : Option Addr) (r : R2) (dr : D2) : Prop := ∀ (H : Hp) (c : Nat) (x y : V) (d e : Dt) (P : Dt → Prop) (Q : VK), Pool l H c → Is K l H x d → Is K l H y e → dr d e P →
  (∀ v f H', Keep l H H' → Pool l H' c → Is K l H' v f → P f → Q v H') → r x y H Q
def dOp (dr : D2) (ta tb : DE) : DE := fun ρ c P => ta ρ c fun d c1 => tb ρ c1 fun e c2 => dr d e fun f => P f c2
theorem pd_op {op : Operator} {r : R2} {dr : D2} (ho : OpR X (binaryOp op) r) (hr : OpD K l r dr) (ha : PD K l X a ta) (hb : PD K l X b tb) : PD K l X (.BinOp a op b pos) (dOp dr ta tb) := by
  refine ⟨ha.k, (pe_op ho ha.pe hb.pe).imp fun σ H Q ⟨ρ, c, P, S, p, q, h⟩ => ?_⟩
  refine ⟨ρ, c, _, S, p, q, fun x d c1 H1 k1 p1 r1 q1 => ?_⟩
  refine ⟨ρ, c1, _, S.keep p k1, p1, q1, fun y e c2 H2 k2 p2 r2 q2 => ?_⟩
  exact hr H2 c2 x y d e _ Q p2 (r1.keep p1 k2) r2 q2 fun v f H3 k3 p3 r3 q3 => h v f c2 H3 ((k1.trans k2).trans k3) p3 r3 q3
theorem pd_cmp {op : CmpOp} {r : R2} {dr : D2} (ho : OpR X (compareOp op) r) (hr : OpD K l r dr) (hm : behindInMarks op b = false) (ha : PD K l X a ta) (hb : PD K l X b tb) : PD K l X (.Compare a [op] [b] pos) (dOp dr ta tb) := by
  refine ⟨ha.k, (pe_cmpR ho ha.pe hb.pe hm).imp fun σ H Q ⟨ρ, c, P, S, p, q, h⟩ => ?_⟩
  refine ⟨ρ, c, _, S, p, q, fun x d c1 H1 k1 p1 r1 q1 => ?_⟩
  refine ⟨ρ, c1, _, S.keep p k1, p1, q1, fun y e c2 H2 k2 p2 r2 q2 => ?_⟩
  exact hr H2 c2 x y d e _ Q p2 (r1.keep p1 k2) r2 q2 fun v f H3 k3 p3 r3 q3 => h v f c2 H3 ((k1.trans k2).trans k3) p3 r3 q3
theorem pd_ix {r : R2} {dr : D2} (ho : IxR X r) (hr : OpD K l r dr) (ha : PD K l X a ta) (hb : PD K l X b tb) (hs : PlainIx b := by exact fun _ _ => rfl) : PD K l X (.Subscript a b pos) (dOp dr ta tb) := by
  refine ⟨ha.k, (pe_ix ho ha.pe hb.pe hs).imp fun σ H Q ⟨ρ, c, P, S, p, q, h⟩ => ?_⟩
  refine ⟨ρ, c, _, S, p, q, fun x d c1 H1 k1 p1 r1 q1 => ?_⟩
  refine ⟨ρ, c1, _, S.keep p k1, p1, q1, fun y e c2 H2 k2 p2 r2 q2 => ?_⟩
  exact hr H2 c2 x y d e _ Q p2 (r1.keep p1 k2) r2 q2 fun v f H3 k3 p3 r3 q3 => h v f c2 H3 ((k1.trans k2).trans k3) p3 r3 q3

def dI (g : Int → Int → Int) : D2 := fun d e P => ∃ i j, d = .int i ∧ e = .int j ∧ P (.int (g i j))
def dIc (C : Int → Int → Prop) (g : Int → Int → Int) : D2 := fun d e P => ∃ i j, d = .int i ∧ e = .int j ∧ C i j ∧ P (.int (g i j))
def dIb (g : Int → Int → Bool) : D2 := fun d e P => ∃ i j, d = .int i ∧ e = .int j ∧ P (.bl (g i j))
theorem opd_I {g : Int → Int → Int} : OpD K l (rI0 fun i j => .int (g i j)) (dI g) := fun H c x y d e P Q p rx ry ⟨i, j, e1, e2, q⟩ h => by
  subst e1 e2
  exact ⟨i, j, rx, ry, h _ (.int (g i j)) H Keep.refl p rfl q⟩
theorem opd_Ic {C : Int → Int → Prop} {g : Int → Int → Int} : OpD K l (rI C fun i j => .int (g i j)) (dIc C g) := fun H c x y d e P Q p rx ry ⟨i, j, e1, e2, hc, q⟩ h => by
  subst e1 e2
  exact ⟨i, j, rx, ry, hc, h _ (.int (g i j)) H Keep.refl p rfl q⟩
theorem opd_Ib {g : Int → Int → Bool} : OpD K l (rI0 fun i j => .bl (g i j)) (dIb g) := fun H c x y d e P Q p rx ry ⟨i, j, e1, e2, q⟩ h => by
  subst e1 e2
  exact ⟨i, j, rx, ry, h _ (.bl (g i j)) H Keep.refl p rfl q⟩
theorem opd_eqI : OpD K l rEq (dIb fun i j => decide (i = j)) := fun H c x y d e P Q p rx ry ⟨i, j, e1, e2, q⟩ h => by
  subst e1 e2
  have rx : x = .int i := rx
  have ry : y = .int j := ry
  subst rx ry
  refine ⟨rfl, h _ (.bl (decide (i = j))) H Keep.refl p ?_ q⟩
  show V.bl _ = V.bl _
  rw [dec_int, Bool.beq_eq_decide_eq]
theorem opd_neI : OpD K l rNe (dIb fun i j => !decide (i = j)) := fun H c x y d e P Q p rx ry ⟨i, j, e1, e2, q⟩ h => by
  subst e1 e2
  have rx : x = .int i := rx
  have ry : y = .int j := ry
  subst rx ry
  refine ⟨rfl, h _ (.bl (!decide (i = j))) H Keep.refl p ?_ q⟩
  show V.bl _ = V.bl _
  rw [dec_int, Bool.beq_eq_decide_eq]
theorem pd_add (ha : PD K l X a ta) (hb : PD K l X b tb) : PD K l X (.BinOp a .Add b pos) (dOp (dI (· + ·)) ta tb) := pd_op op_add opd_I ha hb
theorem pd_sub (ha : PD K l X a ta) (hb : PD K l X b tb) : PD K l X (.BinOp a .Sub b pos) (dOp (dI (· - ·)) ta tb) := pd_op op_sub opd_I ha hb
theorem pd_mul (ha : PD K l X a ta) (hb : PD K l X b tb) : PD K l X (.BinOp a .Mult b pos) (dOp (dIc CMulW (· * ·)) ta tb) := pd_op op_mulW opd_Ic ha hb
theorem pd_mod (ha : PD K l X a ta) (hb : PD K l X b tb) : PD K l X (.BinOp a .Mod b pos) (dOp (dIc (fun _ j => 0 < j) (· % ·)) ta tb) := pd_op op_mod opd_Ic ha hb
theorem pd_div (ha : PD K l X a ta) (hb : PD K l X b tb) : PD K l X (.BinOp a .FloorDiv b pos) (dOp (dIc CDivW (· / ·)) ta tb) := pd_op op_fdivW opd_Ic ha hb
theorem pd_pow (ha : PD K l X a ta) (hb : PD K l X b tb) : PD K l X (.BinOp a .Pow b pos) (dOp (dIc CPowW fun i j => i ^ j.toNat) ta tb) := pd_op op_powW opd_Ic ha hb
theorem pd_lt (ha : PD K l X a ta) (hb : PD K l X b tb) : PD K l X (.Compare a [.Lt] [b] pos) (dOp (dIb fun i j => decide (i < j)) ta tb) := pd_cmp op_lt opd_Ib (nomark _) ha hb
theorem pd_gt (ha : PD K l X a ta) (hb : PD K l X b tb) : PD K l X (.Compare a [.Gt] [b] pos) (dOp (dIb fun i j => decide (j < i)) ta tb) := pd_cmp op_gt opd_Ib (nomark _) ha hb
theorem pd_ge (ha : PD K l X a ta) (hb : PD K l X b tb) : PD K l X (.Compare a [.GtE] [b] pos) (dOp (dIb fun i j => decide (j ≤ i)) ta tb) := pd_cmp op_ge opd_Ib (nomark _) ha hb
theorem pd_eq (ha : PD K l X a ta) (hb : PD K l X b tb) : PD K l X (.Compare a [.Eq] [b] pos) (dOp (dIb fun i j => decide (i = j)) ta tb) := pd_cmp op_eq opd_eqI (nomark _) ha hb
theorem pd_ne (ha : PD K l X a ta) (hb : PD K l X b tb) : PD K l X (.Compare a [.NotEq] [b] pos) (dOp (dIb fun i j => !decide (i = j)) ta tb) := pd_cmp op_ne opd_neI (nomark _) ha hb
/-- is not, of truths -/
def dNotB : D2 := fun d e P => ∃ i j, d = .bl i ∧ e = .bl j ∧ P (.bl (!decide (i = j)))
theorem opd_notB : OpD K l rNotB dNotB := fun H c x y d e P Q p rx ry ⟨i, j, e1, e2, q⟩ h => by
  subst e1 e2
  exact ⟨i, j, rx, ry, h _ (.bl (!decide (i = j))) H Keep.refl p rfl q⟩
theorem pd_isnot (ha : PD K l X a ta) (hb : PD K l X b tb) : PD K l X (.Compare a [.IsNot] [b] pos) (dOp dNotB ta tb) := pd_cmp op_notBl opd_notB (nomark _) ha hb
/-- == of texts -/
def dStr (g : Str → Str → Bool) : D2 := fun d e P => ∃ i j, d = .str i ∧ e = .str j ∧ P (.bl (g i j))
theorem opd_neS : OpD K l rNe (dStr fun i j => !decide (i = j)) := fun H c x y d e P Q p rx ry ⟨i, j, e1, e2, q⟩ h => by
  subst e1 e2
  have rx : x = .str i := rx
  have ry : y = .str j := ry
  subst rx ry
  refine ⟨rfl, h _ (.bl (!decide (i = j))) H Keep.refl p ?_ q⟩
  show V.bl _ = V.bl _
  rw [dec_str, Bool.beq_eq_decide_eq]
theorem pd_neS (ha : PD K l X a ta) (hb : PD K l X b tb) : PD K l X (.Compare a [.NotEq] [b] pos) (dOp (dStr fun i j => !decide (i = j)) ta tb) := pd_cmp op_ne opd_neS (nomark _) ha hb
/-- == of tuples of ints -/
theorem dp_ints {H : Hp} : ∀ xs : List Int, DpAll K H (xs.map V.int) (xs.map PyData.int)
  | [] => .nil
  | x :: r => .cons (.int x) (dp_ints r)
theorem shaped_tup (ns : List Int) : SeqAt.shaped (.tuple (ns.map PyData.int)) = true := by
  have h1 := PySem.W.depthAll_ints ns
  have h2 : PyData.depth (.tuple (ns.map PyData.int)) ≤ 64 := by
    simp only [PyData.depth]
    omega
  show (PyData.canLay0 (.tuple (ns.map PyData.int)) && decide (PyData.depth (.tuple (ns.map PyData.int)) ≤ 64)) = true
  rw [decide_eq_true h2, Bool.and_true]
  simp only [PyData.canLay0]
  exact PySem.W.canLayAll0_ints ns
theorem eqv_ints : ∀ xs ys : List Int, PyData.eqvAll (xs.map PyData.int) (ys.map PyData.int) = decide (xs = ys)
  | [], [] => by simp [PyData.eqvAll]
  | [], _ :: _ => by simp [PyData.eqvAll]
  | _ :: _, [] => by simp [PyData.eqvAll]
  | x :: xs, y :: ys => by
    have ih := eqv_ints xs ys
    simp only [List.map_cons, PyData.eqvAll, PyData.eqv, ih]
    by_cases h : x = y <;> simp [h]
theorem eqv_tup (xs ys : List Int) : PyData.eqv (.tuple (xs.map PyData.int)) (.tuple (ys.map PyData.int)) = decide (xs = ys) := by
  rw [PyData.eqv]
  exact eqv_ints xs ys
def dTb (g : List Int → List Int → Bool) : D2 := fun d e P => ∃ i j, d = .tup i ∧ e = .tup j ∧ P (.bl (g i j))
theorem opd_eqT : OpD K l (rEqD K) (dTb fun i j => decide (i = j)) := fun H c x y d e P Q p rx ry ⟨i, j, e1, e2, q⟩ h => by
  subst e1 e2
  obtain ⟨a, rfl, ha⟩ := rx
  obtain ⟨b, rfl, hb⟩ := ry
  refine ⟨.tuple (i.map .int), .tuple (j.map .int), .tup ha (dp_ints i), .tup hb (dp_ints j), shaped_tup i, shaped_tup j, h _ (.bl (decide (i = j))) H Keep.refl p ?_ q⟩
  rw [eqv_tup]
  rfl
theorem opd_neT : OpD K l (rNeD K) (dTb fun i j => !decide (i = j)) := fun H c x y d e P Q p rx ry ⟨i, j, e1, e2, q⟩ h => by
  subst e1 e2
  obtain ⟨a, rfl, ha⟩ := rx
  obtain ⟨b, rfl, hb⟩ := ry
  refine ⟨.tuple (i.map .int), .tuple (j.map .int), .tup ha (dp_ints i), .tup hb (dp_ints j), shaped_tup i, shaped_tup j, h _ (.bl (!decide (i = j))) H Keep.refl p ?_ q⟩
  rw [eqv_tup]
  rfl
theorem pd_eqT (hu : X.A.units + 64 < cLine) (ha : PD K l X a ta) (hb : PD K l X b tb) : PD K l X (.Compare a [.Eq] [b] pos) (dOp (dTb fun i j => decide (i = j)) ta tb) := by
  have k := ha.k
  subst k
  exact pd_cmp (op_eqD hu) opd_eqT (nomark _) ha hb
theorem pd_neT (hu : X.A.units + 64 < cLine) (ha : PD K l X a ta) (hb : PD K l X b tb) : PD K l X (.Compare a [.NotEq] [b] pos) (dOp (dTb fun i j => !decide (i = j)) ta tb) := by
  have k := ha.k
  subst k
  exact pd_cmp (op_neD hu) opd_neT (nomark _) ha hb
/-- -a -/
def dNeg (ta : DE) : DE := fun ρ c P => ta ρ c fun d c1 => ∃ i, d = .int i ∧ P (.int (-i)) c1
theorem pd_neg (ha : PD K l X a ta) : PD K l X (.UnaryOp .USub a pos) (dNeg ta) := by
  refine ⟨ha.k, (pe_un un_neg ha.pe).imp fun σ H Q ⟨ρ, c, P, S, p, q, h⟩ => ?_⟩
  refine ⟨ρ, c, _, S, p, q, fun x d c1 H1 k1 p1 r1 ⟨i, e, q1⟩ => ?_⟩
  subst e
  exact ⟨i, r1, h _ (.int (-i)) c1 H1 k1 p1 rfl q1⟩

/-! ### items -/
theorem atI_map {xs : List Int} {i : Int} {v : Int} (h : atI xs i = some v) : atI (xs.map V.int) i = some (V.int v) := by
  unfold atI at *
  rw [List.length_map]
  cases e : ixN xs.length i with
  | none =>
    rw [e] at h
    cases h
  | some j =>
    rw [e] at h
    have h : xs[j]? = some v := h
    show (xs.map V.int)[j]? = some (V.int v)
    rw [List.getElem?_map, h]
    rfl
def dIx : D2 := fun d e P => ∃ i v, e = .int i ∧ (∃ xs, d = .tup xs ∧ atI xs i = some v) ∧ P (.int v)
theorem opd_ixT : OpD K l (rIxT K) dIx := fun H c x y d e P Q p rx ry ⟨i, v, e1, ⟨xs, e2, ea⟩, q⟩ h => by
  subst e1 e2
  obtain ⟨a, rfl, ha⟩ := rx
  exact ⟨a, _, i, V.int v, rfl, ry, ha, atI_map ea, h _ (.int v) H Keep.refl p rfl q⟩
theorem pd_ixT (ha : PD K l X a ta) (hb : PD K l X b tb) (hs : PlainIx b := by exact fun _ _ => rfl) : PD K l X (.Subscript a b pos) (dOp dIx ta tb) := by
  have k := ha.k
  subst k
  exact pd_ix ix_tup opd_ixT ha hb hs
def dIxL : D2 := fun d e P => ∃ i v, e = .int i ∧ (∃ xs, d = .lst xs ∧ atI xs i = some v) ∧ P (.int v)
theorem opd_ixL : OpD K l (rIxL K) dIxL := fun H c x y d e P Q p rx ry ⟨i, v, e1, ⟨xs, e2, ea⟩, q⟩ h => by
  subst e1 e2
  obtain ⟨a, rfl, ha, _⟩ := rx
  exact ⟨a, _, i, V.int v, rfl, ry, .of ha, atI_map ea, h _ (.int v) H Keep.refl p rfl q⟩
theorem pd_ixL (ha : PD K l X a ta) (hb : PD K l X b tb) (hs : PlainIx b := by exact fun _ _ => rfl) : PD K l X (.Subscript a b pos) (dOp dIxL ta tb) := by
  have k := ha.k
  subst k
  exact pd_ix ix_list opd_ixL ha hb hs
theorem paired_at {α β : Type} {F : α → β → Prop} {xs : List α} {ys : List β} (h : Paired F xs ys) : ∀ {j : Nat} {y : β}, ys[j]? = some y → ∃ x, xs[j]? = some x ∧ F x y := by
  induction h with
  | nil =>
    intro j y e
    simp at e
  | cons a r ih =>
    intro j y e
    cases j with
    | zero =>
      simp at e
      subst e
      exact ⟨_, rfl, a⟩
    | succ j =>
      obtain ⟨x, e2, f⟩ := ih (j := j) (y := y) (by simpa using e)
      exact ⟨x, by simpa using e2, f⟩
theorem atI_paired {α β : Type} {F : α → β → Prop} {xs : List α} {ys : List β} (h : Paired F xs ys) {i : Int} {y : β} (e : atI ys i = some y) : ∃ x, atI xs i = some x ∧ F x y := by
  unfold atI at *
  have hl := Paired.length h
  cases q : ixN ys.length i with
  | none =>
    rw [q] at e
    cases e
  | some j =>
    rw [q] at e
    have e : ys[j]? = some y := e
    obtain ⟨x, e2, f⟩ := paired_at h e
    exact ⟨x, by rw [hl, q]; exact e2, f⟩
/-- an item of a list of tuples -/
def dIxR : D2 := fun d e P => ∃ i v, e = .int i ∧ (∃ xss, d = .lrows xss ∧ atI xss i = some v) ∧ P (.tup v)
theorem opd_ixR : OpD K l (rIxL K) dIxR := fun H c x y d e P Q p rx ry ⟨i, v, e1, ⟨xss, e2, ea⟩, q⟩ h => by
  subst e1 e2
  obtain ⟨a, vs, rfl, ha, _, r⟩ := rx
  obtain ⟨u, eu, f⟩ := atI_paired r ea
  exact ⟨a, _, i, u, rfl, ry, .of ha, eu, h _ (.tup v) H Keep.refl p f q⟩
theorem pd_ixR (ha : PD K l X a ta) (hb : PD K l X b tb) (hs : PlainIx b := by exact fun _ _ => rfl) : PD K l X (.Subscript a b pos) (dOp dIxR ta tb) := by
  have k := ha.k
  subst k
  exact pd_ix ix_list opd_ixR ha hb hs
/-- a number of the pool, as far as it is known -/
def dIxP : D2 := fun d e P => ∃ i : Int, e = .int i ∧ d = .pool ∧ ((i = 0 ∧ ∀ x : Int, 0 ≤ x → P (.int x)) ∨ (i = 1 ∧ ∀ y : Int, 0 ≤ y → y < 1000000007 → P (.int y)))
theorem opd_ixP : OpD K l (rIxL K) dIxP := fun H c x y d e P Q p rx ry ⟨i, e1, e2, q⟩ h => by
  subst e1 e2
  obtain ⟨a, rfl, rfl⟩ := rx
  obtain ⟨u, v, z, hH, h1, h2, h3, h4, h5⟩ := id p
  rcases q with ⟨e, q⟩ | ⟨e, q⟩
  · subst e
    exact ⟨a, _, 0, .int u, rfl, ry, .of hH, rfl, h _ (.int u) H Keep.refl p rfl (q u h1)⟩
  · subst e
    exact ⟨a, _, 1, .int v, rfl, ry, .of hH, rfl, h _ (.int v) H Keep.refl p rfl (q v h2 h3)⟩
theorem pd_ixP (ha : PD K l X a ta) (hb : PD K l X b tb) (hs : PlainIx b := by exact fun _ _ => rfl) : PD K l X (.Subscript a b pos) (dOp dIxP ta tb) := by
  have k := ha.k
  subst k
  exact pd_ix ix_list opd_ixP ha hb hs
/-- its third: the counter -/
def dIx2 (ta tb : DE) : DE := fun ρ c P => ta ρ c fun d c1 => tb ρ c1 fun e c2 => d = .pool ∧ e = .int 2 ∧ ∀ z : Int, 0 ≤ z → z ≤ (c2 : Int) → P (.int z) c2
theorem pd_ix2 (ha : PD K l X a ta) (hb : PD K l X b tb) (hs : PlainIx b := by exact fun _ _ => rfl) : PD K l X (.Subscript a b pos) (dIx2 ta tb) := by
  have k := ha.k
  subst k
  refine ⟨rfl, (pe_ix ix_list ha.pe hb.pe hs).imp fun σ H Q ⟨ρ, c, P, S, p, q, h⟩ => ?_⟩
  refine ⟨ρ, c, _, S, p, q, fun x d c1 H1 k1 p1 r1 q1 => ?_⟩
  refine ⟨ρ, c1, _, S.keep p k1, p1, q1, fun y e c2 H2 k2 p2 r2 ⟨e1, e2, q2⟩ => ?_⟩
  subst e1 e2
  obtain ⟨a, rfl, rfl⟩ := r1
  obtain ⟨u, v, z, hH, h1, h2, h3, h4, h5⟩ := id p2
  exact ⟨a, _, 2, .int z, rfl, r2, .of hH, rfl, h _ (.int z) c2 H2 (k1.trans k2) p2 rfl (q2 z h4 h5)⟩
end
end K12
/-! Readings by data, further: rows, slices, calls, tests. -/
namespace K12
open PySem PySem.Spec PyProof.Rows L2

section
variable {K : PySem.W.Frag} {l : Option Addr} {X : Cx} {a b e : Expr} {es : List Expr} {pos : Pos} {ta tb : DE} {tr : DA}

/-! ### argument lists, displays -/
def dNil : DA := fun _ c P => P [] c
def dCons (ta : DE) (tr : DA) : DA := fun ρ c P => ta ρ c fun d c1 => tr ρ c1 fun ds c2 => P (d :: ds) c2
theorem pa_0 (k : X.K = K := by rfl) : PAr K l X [] dNil := ⟨k, pa_nil.imp fun σ H Q ⟨ρ, c, P, S, p, q, h⟩ => h [] [] c H Keep.refl p .nil q⟩
theorem pa_1 (ha : PD K l X e ta) (hr : PAr K l X es tr) (hs : starEach (e :: es) X.env = (false, eval e X.env) :: starEach es X.env := by rfl) : PAr K l X (e :: es) (dCons ta tr) := by
  refine ⟨ha.k, (pa_cons ha.pe hr.pa hs).imp fun σ H Q ⟨ρ, c, P, S, p, q, h⟩ => ?_⟩
  refine ⟨ρ, c, _, S, p, q, fun x d c1 H1 k1 p1 r1 q1 => ?_⟩
  refine ⟨ρ, c1, _, S.keep p k1, p1, q1, fun xs ds c2 H2 k2 p2 r2 q2 => ?_⟩
  exact h _ _ c2 H2 (k1.trans k2) p2 (.cons (r1.keep p1 k2) r2) q2
/-- all ints, all tuples -/
def ints? : List Dt → Option (List Int)
  | [] => some []
  | .int i :: r => (ints? r).map (i :: ·)
  | _ => none
def tups? : List Dt → Option (List (List Int))
  | [] => some []
  | .tup i :: r => (tups? r).map (i :: ·)
  | _ => none
theorem ints_of {H : Hp} : ∀ {ds : List Dt} {vs : List V} {xs : List Int}, Paired (Is K l H) vs ds → ints? ds = some xs → vs = xs.map V.int
  | [], _, xs, .nil, e => by
    cases e
    rfl
  | d :: ds, v :: vs, xs, .cons a r, e => by
    cases d with
    | int i =>
      have e : (ints? ds).map (i :: ·) = some xs := e
      cases q : ints? ds with
      | none =>
        rw [q] at e
        cases e
      | some ys =>
        rw [q] at e
        cases e
        have a : v = .int i := a
        rw [a, ints_of r q]
        rfl
    | _ => cases e
theorem tups_of {H : Hp} : ∀ {ds : List Dt} {vs : List V} {xs : List (List Int)}, Paired (Is K l H) vs ds → tups? ds = some xs → Paired (TupAt K H) vs xs
  | [], _, xs, .nil, e => by
    cases e
    exact .nil
  | d :: ds, v :: vs, xs, .cons a r, e => by
    cases d with
    | tup i =>
      have e : (tups? ds).map (i :: ·) = some xs := e
      cases q : tups? ds with
      | none =>
        rw [q] at e
        cases e
      | some ys =>
        rw [q] at e
        cases e
        exact .cons a (tups_of r q)
    | _ => cases e
/-- a tuple, a list: its one object's place is new, so it is not the pool -/
theorem new_ne {H : Hp} {c : Nat} (hp : Pool l H c) {p : Addr} (n : H p = none) : some p ≠ l := fun z => by
  subst z
  obtain ⟨x, y, w, e, _⟩ := hp
  rw [n] at e
  cases e
theorem pool_new {H : Hp} {c : Nat} (hp : Pool l H c) {p : Addr} {o : HO} (n : H p = none) : Pool l (upd H p o) c := by
  cases l with
  | none => exact trivial
  | some a =>
    obtain ⟨x, y, w, e, q⟩ := hp
    exact ⟨x, y, w, by rw [upd_ne (ne_of_none e n)]; exact e, q⟩
def dTupI (tr : DA) : DE := fun ρ c P => tr ρ c fun ds c1 => ∃ xs, ints? ds = some xs ∧ xs.length ≤ 10000 ∧ P (.tup xs) c1
def dTupR (tr : DA) : DE := fun ρ c P => tr ρ c fun ds c1 => ∃ xss, tups? ds = some xss ∧ xss.length ≤ 10000 ∧ P (.rows xss) c1
def dLstI (tr : DA) : DE := fun ρ c P => tr ρ c fun ds c1 => ∃ xs, ints? ds = some xs ∧ xs.length ≤ 10000 ∧ P (.lst xs) c1
def dLstR (tr : DA) : DE := fun ρ c P => tr ρ c fun ds c1 => ∃ xss, tups? ds = some xss ∧ xss.length ≤ 10000 ∧ P (.lrows xss) c1
theorem fits {n : Nat} (h : n ≤ 10000) : n ≤ sizeLine := Nat.le_trans h (by decide)
theorem pd_tupI {k1 : Nat} (h : PAr K l X es tr) : PD K l X (.Tuple es k1 pos) (dTupI tr) := by
  refine ⟨h.k, (pe_tup h.pa).imp fun σ H Q ⟨ρ, c, P, S, p, q, w⟩ => ?_⟩
  refine ⟨ρ, c, _, S, p, q, fun vs ds c1 H1 k1 p1 r1 ⟨xs, e, z, q1⟩ => ?_⟩
  have ev := ints_of r1 e
  subst ev
  refine ⟨fits (by rw [List.length_map]; exact z), fun a n => w _ (.tup xs) c1 _ (k1.trans (Keep.new n)) (pool_new p1 n) ⟨a, rfl, .of upd_same⟩ q1⟩
theorem pd_tupR {k1 : Nat} (h : PAr K l X es tr) : PD K l X (.Tuple es k1 pos) (dTupR tr) := by
  refine ⟨h.k, (pe_tup h.pa).imp fun σ H Q ⟨ρ, c, P, S, p, q, w⟩ => ?_⟩
  refine ⟨ρ, c, _, S, p, q, fun vs ds c1 H1 k1 p1 r1 ⟨xs, e, z, q1⟩ => ?_⟩
  have ev := tups_of r1 e
  refine ⟨fits (by rw [Paired.length ev]; exact z), fun a n => w _ (.rows xs) c1 _ (k1.trans (Keep.new n)) (pool_new p1 n) ⟨a, vs, rfl, .of upd_same, Paired.mapP ev fun _ _ y => y.keep p1 (Keep.new n)⟩ q1⟩
theorem pd_lstI (h : PAr K l X es tr) : PD K l X (.List es pos) (dLstI tr) := by
  refine ⟨h.k, (pe_lst h.pa).imp fun σ H Q ⟨ρ, c, P, S, p, q, w⟩ => ?_⟩
  refine ⟨ρ, c, _, S, p, q, fun vs ds c1 H1 k1 p1 r1 ⟨xs, e, z, q1⟩ => ?_⟩
  have ev := ints_of r1 e
  subst ev
  refine ⟨fits (by rw [List.length_map]; exact z), fun a n => w _ (.lst xs) c1 _ (k1.trans (Keep.new n)) (pool_new p1 n) ⟨a, rfl, upd_same, new_ne p1 n⟩ q1⟩
theorem pd_lstR (h : PAr K l X es tr) : PD K l X (.List es pos) (dLstR tr) := by
  refine ⟨h.k, (pe_lst h.pa).imp fun σ H Q ⟨ρ, c, P, S, p, q, w⟩ => ?_⟩
  refine ⟨ρ, c, _, S, p, q, fun vs ds c1 H1 k1 p1 r1 ⟨xs, e, z, q1⟩ => ?_⟩
  have ev := tups_of r1 e
  refine ⟨fits (by rw [Paired.length ev]; exact z), fun a n => w _ (.lrows xs) c1 _ (k1.trans (Keep.new n)) (pool_new p1 n) ⟨a, vs, rfl, upd_same, new_ne p1 n, Paired.mapP ev fun _ _ y => y.keep p1 (Keep.new n)⟩ q1⟩

/-! ### parts of tuples, rows put together -/
def dTake (n : Nat) (ta : DE) : DE := fun ρ c P => ta ρ c fun d c1 => ∃ xs, d = .tup xs ∧ n < xs.length ∧ P (.tup (xs.take n)) c1
def dDrop (n : Nat) (ta : DE) : DE := fun ρ c P => ta ρ c fun d c1 => ∃ xs, d = .tup xs ∧ 0 < n ∧ n ≤ xs.length ∧ P (.tup (xs.drop n)) c1
theorem sIx_some (n d k : Nat) (h : k ≤ n) : HT.sIx n d (some (k : Int)) = k := by
  rw [HT.sIx_nat]
  exact Nat.min_eq_left h
theorem pd_take {n j : Nat} {p1 p2 : Pos} (ha : PD K l X a ta) : PD K l X (.Subscript a (.Slice none (some (.Constant (.int (n : Int)) j p1)) none p2) pos) (dTake n ta) := by
  have k := ha.k
  subst k
  refine ⟨rfl, (pe_slice sl_tup ha.pe po_none (po_some pe_int)).imp fun σ H Q ⟨ρ, c, P, S, p, q, w⟩ => ?_⟩
  refine ⟨ρ, c, _, S, p, q, fun x d c1 H1 k1 p1 r1 ⟨xs, e, z, q1⟩ => ?_⟩
  subst e
  obtain ⟨A, rfl, hA⟩ := r1
  have hl : (xs.map V.int).length = xs.length := List.length_map _
  have e1 : HT.sIx (xs.map V.int).length (xs.map V.int).length (some (n : Int)) = n := sIx_some _ _ _ (by rw [hl]; omega)
  refine ⟨_, rfl, A, _, rfl, hA, ?_, fun D nD => ?_⟩
  · rw [e1, hl]
    omega
  · have e2 : cutV (xs.map V.int) none (some (n : Int)) = (xs.take n).map V.int := by
      unfold cutV
      rw [e1, HT.sIx_none, Nat.sub_zero, List.drop_zero, List.map_take]
    rw [e2]
    exact w _ (.tup (xs.take n)) c1 _ (k1.trans (Keep.new nD)) (pool_new p1 nD) ⟨D, rfl, .of upd_same⟩ q1
theorem pd_drop {n j : Nat} {p1 p2 : Pos} (ha : PD K l X a ta) : PD K l X (.Subscript a (.Slice (some (.Constant (.int (n : Int)) j p1)) none none p2) pos) (dDrop n ta) := by
  have k := ha.k
  subst k
  refine ⟨rfl, (pe_slice sl_tup ha.pe (po_some pe_int) po_none).imp fun σ H Q ⟨ρ, c, P, S, p, q, w⟩ => ?_⟩
  refine ⟨ρ, c, _, S, p, q, fun x d c1 H1 k1 p1 r1 ⟨xs, e, z0, z, q1⟩ => ?_⟩
  subst e
  obtain ⟨A, rfl, hA⟩ := r1
  have hl : (xs.map V.int).length = xs.length := List.length_map _
  have e1 : HT.sIx (xs.map V.int).length 0 (some (n : Int)) = n := sIx_some _ _ _ (by rw [hl]; omega)
  refine ⟨_, rfl, A, _, rfl, hA, ?_, fun D nD => ?_⟩
  · rw [e1]
    omega
  · have e2 : cutV (xs.map V.int) (some (n : Int)) none = (xs.drop n).map V.int := by
      unfold cutV
      rw [e1, HT.sIx_none, List.map_drop, List.take_of_length_le (by rw [List.length_drop]; omega)]
    rw [e2]
    exact w _ (.tup (xs.drop n)) c1 _ (k1.trans (Keep.new nD)) (pool_new p1 nD) ⟨D, rfl, .of upd_same⟩ q1
def dCatT : D2 := fun d e P => ∃ xs ys, d = .tup xs ∧ e = .tup ys ∧ xs ≠ [] ∧ ys ≠ [] ∧ xs.length + ys.length ≤ 10000 ∧ P (.tup (xs ++ ys))
theorem opd_catT : OpD K l (rCatT K) dCatT := fun H c x y d e P Q p rx ry ⟨xs, ys, e1, e2, n1, n2, z, q⟩ h => by
  subst e1 e2
  obtain ⟨A, rfl, hA⟩ := rx
  obtain ⟨B, rfl, hB⟩ := ry
  refine ⟨A, B, _, _, rfl, rfl, hA, hB, fun z => n1 (List.map_eq_nil_iff.mp z), fits (by rw [List.length_map, List.length_map]; exact z), fun z => absurd (List.map_eq_nil_iff.mp z) n2, fun _ D nD => ?_⟩
  rw [← List.map_append]
  exact h _ (.tup (xs ++ ys)) _ (Keep.new nD) (pool_new p nD) ⟨D, rfl, .of upd_same⟩ q
theorem pd_catT (ha : PD K l X a ta) (hb : PD K l X b tb) : PD K l X (.BinOp a .Add b pos) (dOp dCatT ta tb) := by
  have k := ha.k
  subst k
  exact pd_op op_catT opd_catT ha hb
def dCatL : D2 := fun d e P => ∃ xs ys, d = .lst xs ∧ e = .lst ys ∧ xs.length + ys.length ≤ 10000 ∧ P (.lst (xs ++ ys))
theorem opd_catL : OpD K l rCat dCatL := fun H c x y d e P Q p rx ry ⟨xs, ys, e1, e2, z, q⟩ h => by
  subst e1 e2
  obtain ⟨A, rfl, hA, _⟩ := rx
  obtain ⟨B, rfl, hB, _⟩ := ry
  refine ⟨A, B, _, _, rfl, rfl, hA, hB, fits (by rw [List.length_map, List.length_map]; exact z), fun D nD => ?_⟩
  rw [← List.map_append]
  exact h _ (.lst (xs ++ ys)) _ (Keep.new nD) (pool_new p nD) ⟨D, rfl, upd_same, new_ne p nD⟩ q
theorem pd_catL (ha : PD K l X a ta) (hb : PD K l X b tb) : PD K l X (.BinOp a .Add b pos) (dOp dCatL ta tb) := pd_op op_cat opd_catL ha hb

/-! ### built-ins -/
abbrev D1 := List Dt → (Dt → Prop) → Prop
def CaD (K : PySem.W.Frag) (l : Option Addr) (r : List V → Hp → VK → Prop) (dr : D1) : Prop := ∀ (H : Hp) (c : Nat) (vs : List V) (ds : List Dt) (P : Dt → Prop) (Q : VK), Pool l H c → Paired (Is K l H) vs ds → dr ds P →
  (∀ v f H', Keep l H H' → Pool l H' c → Is K l H' v f → P f → Q v H') → r vs H Q
def dCa (dr : D1) (tr : DA) : DE := fun ρ c P => tr ρ c fun ds c1 => dr ds fun f => P f c1
section
variable {x : Str} {id T : String} {r : List V → Hp → VK → Prop} {dr : D1} {p : Pos}
theorem pd_callB (hc : CallR X (.builtin id) r) (hr : CaD K l r dr) (hm : X.mg x = none) (hv : bootBuiltins x = some (.builtin id)) (ha : PAr K l X (e :: es) tr) (hg : Gl X x := by rfl) (hn : x ≠ "__name__" := by decide) (hdb : (x == ("__debug__" : Str)) = false := by decide)
    (he : starEach (e :: es) X.env = (false, eval e X.env) :: starEach es X.env := by rfl) (hpl : (backTo pos (starEach es X.env)).any (·.1) = false := by rfl) : PD K l X (.Call (.Name x p) (e :: es) [] pos) (dCa dr tr) := by
  refine ⟨ha.k, (pe_callB hc hg hm hv ha.pa hn hdb he hpl).imp fun σ H Q ⟨ρ, c, P, S, p, q, h⟩ => ?_⟩
  refine ⟨ρ, c, _, S, p, q, fun xs ds c1 H1 k1 p1 r1 q1 => ?_⟩
  exact hr H1 c1 xs ds _ Q p1 r1 q1 fun v f H2 k2 p2 r2 q2 => h v f c1 H2 (k1.trans k2) p2 r2 q2
theorem pd_callTy (hc : CallR X (.type T) r) (hr : CaD K l r dr) (hm : X.mg x = none) (hv : bootBuiltins x = some (.type T)) (ha : PAr K l X (e :: es) tr) (hg : Gl X x := by rfl) (hn : x ≠ "__name__" := by decide) (hdb : (x == ("__debug__" : Str)) = false := by decide)
    (he : starEach (e :: es) X.env = (false, eval e X.env) :: starEach es X.env := by rfl) (hpl : (backTo pos (starEach es X.env)).any (·.1) = false := by rfl) : PD K l X (.Call (.Name x p) (e :: es) [] pos) (dCa dr tr) := by
  refine ⟨ha.k, (pe_callTy hc hg hm hv ha.pa hn hdb he hpl).imp fun σ H Q ⟨ρ, c, P, S, p, q, h⟩ => ?_⟩
  refine ⟨ρ, c, _, S, p, q, fun xs ds c1 H1 k1 p1 r1 q1 => ?_⟩
  exact hr H1 c1 xs ds _ Q p1 r1 q1 fun v f H2 k2 p2 r2 q2 => h v f c1 H2 (k1.trans k2) p2 r2 q2
end
theorem is_one {H : Hp} {vs : List V} {d : Dt} (h : Paired (Is K l H) vs [d]) : ∃ v, vs = [v] ∧ Is K l H v d := by
  cases h with
  | cons a r =>
    cases r
    exact ⟨_, rfl, a⟩
theorem is_two {H : Hp} {vs : List V} {d e : Dt} (h : Paired (Is K l H) vs [d, e]) : ∃ v w, vs = [v, w] ∧ Is K l H v d ∧ Is K l H w e := by
  cases h with
  | cons a r =>
    obtain ⟨w, e1, b⟩ := is_one r
    subst e1
    exact ⟨_, _, rfl, a, b⟩
def dAbs : D1 := fun ds P => ∃ i, ds = [.int i] ∧ P (.int (if i < 0 then -i else i))
theorem cad_abs : CaD K l (fun xs H Q => ∃ i, xs = [V.int i] ∧ Q (.int (if i < 0 then -i else i)) H) dAbs := fun H c vs ds P Q p r ⟨i, e, q⟩ h => by
  subst e
  obtain ⟨v, rfl, rv⟩ := is_one r
  have rv : v = .int i := rv
  subst rv
  exact ⟨i, rfl, h _ (.int (if i < 0 then -i else i)) H Keep.refl p rfl q⟩
def dMax : D1 := fun ds P => ∃ i j, ds = [.int i, .int j] ∧ P (.int (if j > i then j else i))
theorem cad_max : CaD K l (fun xs H Q => ∃ i j, xs = [V.int i, V.int j] ∧ Q (.int (if j > i then j else i)) H) dMax := fun H c vs ds P Q p r ⟨i, j, e, q⟩ h => by
  subst e
  obtain ⟨v, w, rfl, rv, rw'⟩ := is_two r
  have rv : v = .int i := rv
  have rw' : w = .int j := rw'
  subst rv rw'
  exact ⟨i, j, rfl, h _ (.int (if j > i then j else i)) H Keep.refl p rfl q⟩
def dMin : D1 := fun ds P => ∃ i j, ds = [.int i, .int j] ∧ P (.int (if j < i then j else i))
theorem cad_min : CaD K l (fun xs H Q => ∃ i j, xs = [V.int i, V.int j] ∧ Q (.int (if j < i then j else i)) H) dMin := fun H c vs ds P Q p r ⟨i, j, e, q⟩ h => by
  subst e
  obtain ⟨v, w, rfl, rv, rw'⟩ := is_two r
  have rv : v = .int i := rv
  have rw' : w = .int j := rw'
  subst rv rw'
  exact ⟨i, j, rfl, h _ (.int (if j < i then j else i)) H Keep.refl p rfl q⟩
/-- int of a truth -/
def dIntB : D1 := fun ds P => ∃ k, ds = [.bl k] ∧ P (.int (if k then 1 else 0))
theorem cad_intB : CaD K l (fun xs H Q => (∃ i, xs = [V.int i] ∧ Q (.int i) H) ∨ ∃ k, xs = [V.bl k] ∧ Q (.int (if k then 1 else 0)) H) dIntB := fun H c vs ds P Q p r ⟨k, e, q⟩ h => by
  subst e
  obtain ⟨v, rfl, rv⟩ := is_one r
  have rv : v = .bl k := rv
  subst rv
  exact .inr ⟨k, rfl, h _ (.int (if k then 1 else 0)) H Keep.refl p rfl q⟩
/-- len of a tuple, of a list -/
def dLen : D1 := fun ds P => (∃ xs, ds = [.tup xs] ∧ P (.int (xs.length : Int))) ∨ (∃ xs, ds = [.lst xs] ∧ P (.int (xs.length : Int))) ∨ ∃ xs, ds = [.seq xs] ∧ P (.int (xs.length : Int))
theorem cad_len : CaD K l (fun xs H Q => ∃ p ys, xs = [V.ref p] ∧ (SqL K H p ys ∨ SqT K H p ys) ∧ Q (.int ys.length) H) dLen := fun H c vs ds P Q p r z h => by
  rcases z with ⟨xs, e, q⟩ | ⟨xs, e, q⟩ | ⟨xs, e, q⟩
  · subst e
    obtain ⟨v, rfl, A, rfl, hA⟩ := is_one r
    exact ⟨A, _, rfl, .inr hA, h _ (.int (xs.length : Int)) H Keep.refl p (by show V.int _ = V.int _; rw [List.length_map]) q⟩
  · subst e
    obtain ⟨v, rfl, A, rfl, hA, _⟩ := is_one r
    exact ⟨A, _, rfl, .inl (.of hA), h _ (.int (xs.length : Int)) H Keep.refl p (by show V.int _ = V.int _; rw [List.length_map]) q⟩
  · subst e
    obtain ⟨v, rfl, A, rfl, hA, _⟩ := is_one r
    exact ⟨A, _, rfl, .inl hA, h _ (.int (xs.length : Int)) H Keep.refl p (by show V.int _ = V.int _; rw [List.length_map]) q⟩
/-- tuple of a list -/
def dTupOf : D1 := fun ds P => ∃ xs, ds = [.lst xs] ∧ P (.tup xs)
theorem cad_tupOf : CaD K l (fun xs H Q => ∃ p ys, xs = [V.ref p] ∧ ((SqL K H p ys ∧ ∀ l, H l = none → Q (.ref l) (upd H l (.tup ys))) ∨ (SqT K H p ys ∧ Q (.ref p) H))) dTupOf := fun H c vs ds P Q p r ⟨xs, e, q⟩ h => by
  subst e
  obtain ⟨v, rfl, A, rfl, hA, _⟩ := is_one r
  exact ⟨A, _, rfl, .inl ⟨.of hA, fun D n => h _ (.tup xs) _ (Keep.new n) (pool_new p n) ⟨D, rfl, .of upd_same⟩ q⟩⟩
def dSum : D1 := fun ds P => ∃ xs, ds = [.lst xs] ∧ P (.int xs.sum)
theorem cad_sum : CaD K l (rSum K) dSum := fun H c vs ds P Q p r ⟨xs, e, q⟩ h => by
  subst e
  obtain ⟨v, rfl, A, rfl, hA, _⟩ := is_one r
  exact ⟨A, xs, rfl, .of hA, h _ (.int xs.sum) H Keep.refl p rfl q⟩
def dAll : D1 := fun ds P => ∃ bs, ds = [.lbs bs] ∧ P (.bl (bs.all id))
theorem cad_all : CaD K l (rAll K) dAll := fun H c vs ds P Q p r ⟨bs, e, q⟩ h => by
  subst e
  obtain ⟨v, rfl, A, rfl, hA, _⟩ := is_one r
  exact ⟨A, bs, rfl, .of hA, h _ (.bl (bs.all id)) H Keep.refl p rfl q⟩
/-- SOME items of a list -/
def dSl3 (ta tl th ts : DE) : DE := fun ρ c P => ta ρ c fun d c1 => ∃ xs, d = .seq xs ∧ tl ρ c1 fun d2 c2 => ∃ i, d2 = .int i ∧ th ρ c2 fun d3 c3 => ∃ j, d3 = .int j ∧ ts ρ c3 fun d4 c4 => ∃ k, d4 = .int k ∧ k ≠ 0 ∧ ∀ ys, P (.lst ys) c4
theorem ints_in : ∀ {ys : List V} {xs : List Int}, (∀ y ∈ ys, y ∈ xs.map V.int) → ∃ zs : List Int, ys = zs.map V.int
  | [], _, _ => ⟨[], rfl⟩
  | y :: ys, xs, h => by
    obtain ⟨zs, e⟩ := ints_in (ys := ys) (xs := xs) fun z hz => h z (List.mem_cons_of_mem _ hz)
    obtain ⟨i, _, ei⟩ := List.mem_map.mp (h y List.mem_cons_self)
    exact ⟨i :: zs, by rw [e, ← ei]; rfl⟩
theorem pd_slice3 {x y z : Expr} {tl th ts : DE} {p2 : Pos} (ha : PD K l X a ta) (hx : PD K l X x tl) (hy : PD K l X y th) (hz : PD K l X z ts) : PD K l X (.Subscript a (.Slice (some x) (some y) (some z) p2) pos) (dSl3 ta tl th ts) := by
  have k := ha.k
  subst k
  refine ⟨rfl, (pe_slice3 ha.pe (po_some hx.pe) (po_some hy.pe) (po_some hz.pe)).imp fun σ H Q ⟨ρ, c, P, S, p, q, w⟩ => ?_⟩
  refine ⟨ρ, c, _, S, p, q, fun v d c1 H1 k1 p1 r1 ⟨xs, e, q1⟩ => ?_⟩
  subst e
  refine ⟨ρ, c1, _, S.keep p k1, p1, q1, fun v2 d2 c2 H2 k2 p2 r2 ⟨i, e, q2⟩ => ?_⟩
  subst e
  refine ⟨i, r2, ρ, c2, _, (S.keep p k1).keep p1 k2, p2, q2, fun v3 d3 c3 H3 k3 p3 r3 ⟨j, e, q3⟩ => ?_⟩
  subst e
  refine ⟨j, r3, ρ, c3, _, ((S.keep p k1).keep p1 k2).keep p2 k3, p3, q3, fun v4 d4 c4 H4 k4 p4 r4 ⟨m, e, n0, q4⟩ => ?_⟩
  subst e
  refine ⟨m, r4, ?_⟩
  obtain ⟨A, rfl, hA, nA⟩ := ((r1.keep p1 k2).keep p2 k3).keep p3 k4
  refine ⟨A, _, rfl, hA, fun z => n0 (Option.some.inj z), fun D ys nD my _ => ?_⟩
  obtain ⟨zs, ez⟩ := ints_in my
  subst ez
  exact w _ (.lst zs) c4 _ ((((k1.trans k2).trans k3).trans k4).trans (Keep.new nD)) (pool_new p4 nD) ⟨D, rfl, upd_same, new_ne p4 nD⟩ (q4 zs)
theorem pd_abs (hm : X.mg "abs" = none) {p : Pos} (ha : PAr K l X [e] tr) (hg : Gl X "abs" := by rfl) (he : starEach [e] X.env = (false, eval e X.env) :: starEach [] X.env := by rfl) : PD K l X (.Call (.Name "abs" p) [e] [] pos) (dCa dAbs tr) :=
  pd_callB call_abs cad_abs hm (by decide +kernel) ha hg (by decide) (by decide) he rfl
end
end K12
/-! Readings by data, further: tests, calls of defs, statements, loops, comprehensions. -/
namespace K12
open PySem PySem.Spec PyProof.Rows L2

section
variable {K : PySem.W.Frag} {l : Option Addr} {X : Cx} {a b e : Expr} {es : List Expr} {pos : Pos} {ta tb : DE} {tr : DA} {ba bb : DB}

/-! ### isinstance -/
def isInt : Dt → Option Bool
  | .int _ => some true
  | _ => none
def isBl : Dt → Option Bool
  | .int _ => some false
  | _ => none
def isTup : Dt → Option Bool
  | .tup _ => some true
  | _ => none
def IsiOk (K : PySem.W.Frag) (l : Option Addr) (T : String) (f : Dt → Option Bool) : Prop := ∀ (H : Hp) (v : V) (d : Dt) (k : Bool), Is K l H v d → f d = some k → ∃ t, TyX K H v t ∧ PySem.W.kitOne K t (.type T) = some k
theorem isi_int : IsiOk K l "int" isInt := fun H v d k r e => by
  cases d with
  | int i =>
    have r : v = .int i := r
    cases e
    subst r
    exact ⟨_, .base (.int i), kit_ty (by decide +kernel)⟩
  | _ => cases e
theorem isi_bl : IsiOk K l "bool" isBl := fun H v d k r e => by
  cases d with
  | int i =>
    have r : v = .int i := r
    cases e
    subst r
    exact ⟨_, .base (.int i), kit_ty (by decide +kernel)⟩
  | _ => cases e
theorem isi_tup : IsiOk K l "tuple" isTup := fun H v d k r e => by
  cases d with
  | tup xs =>
    obtain ⟨A, rfl, hA⟩ := r
    cases e
    rcases hA with (h | ⟨o, h⟩) | ⟨o, its, n, h, hc, _⟩
    · exact ⟨_, .base (.tup h), kit_ty (by decide +kernel)⟩
    · exact ⟨_, .fTuple h, kit_ty (by decide +kernel)⟩
    · exact ⟨_, .kTuple h hc, kit_ty (by decide +kernel)⟩
  | _ => cases e
def dIsi (f : Dt → Option Bool) (ta : DE) : DE := fun ρ c P => ta ρ c fun d c1 => ∃ k, f d = some k ∧ P (.bl k) c1
theorem pd_isi {T : String} {f : Dt → Option Bool} {x : Str} {p p2 : Pos} (hf : IsiOk K l T f) (hm : X.mg "isinstance" = none) (hm2 : X.mg x = none) (hv : bootBuiltins x = some (.type T)) (ha : PD K l X a ta) (hg : Gl X "isinstance" := by rfl) (hg2 : Gl X x := by rfl)
    (hn : x ≠ "__name__" := by decide) (hd : (x == ("__debug__" : Str)) = false := by decide)
    (he : starEach [a, .Name x p2] X.env = (false, eval a X.env) :: starEach [.Name x p2] X.env := by rfl) (he2 : starEach [.Name x p2] X.env = (false, eval (.Name x p2) X.env) :: starEach [] X.env := by rfl) (hpl : (backTo pos (starEach [.Name x p2] X.env)).any (·.1) = false := by rfl) :
    PD K l X (.Call (.Name "isinstance" p) [a, .Name x p2] [] pos) (dIsi f ta) := by
  have k := ha.k
  subst k
  refine ⟨rfl, (pe_callB call_isi hg hm (by decide +kernel) (pa_cons ha.pe (pa_cons (pe_bltn (v := .ty T) hg2 hm2 hv rfl hn hd) pa_nil he2) he) (by decide) (by decide) he hpl).imp fun σ H Q ⟨ρ, c, P, S, q0, q, h⟩ => ?_⟩
  refine ⟨ρ, c, _, S, q0, q, fun v d c1 H1 k1 p1 r1 ⟨k, e, q1⟩ => ?_⟩
  obtain ⟨t, ty, kt⟩ := hf H1 v d k r1 e
  exact ⟨v, .ty T, t, _, k, rfl, .ty T, ty, kt, h _ (.bl k) c1 H1 k1 p1 rfl q1⟩

/-! ### truths and tests -/
def dAndV (ta tb : DE) : DE := fun ρ c P => ta ρ c fun d c1 => ∃ k, d = .bl k ∧ if k = true then tb ρ c1 P else P (.bl false) c1
def dNotV (ta : DE) : DE := fun ρ c P => ta ρ c fun d c1 => ∃ k, d = .bl k ∧ P (.bl (!k)) c1
theorem pd_not (ha : PD K l X a ta) : PD K l X (.UnaryOp .Not a pos) (dNotV ta) := by
  refine ⟨ha.k, (pe_not ha.pe).imp fun σ H Q ⟨ρ, c, P, S, p, q, h⟩ => ?_⟩
  refine ⟨ρ, c, _, S, p, q, fun x d c1 H1 k1 p1 r1 ⟨k, e, q1⟩ => ?_⟩
  subst e
  exact ⟨k, r1, h _ (.bl (!k)) c1 H1 k1 p1 rfl q1⟩
theorem pd_one {op : BoolOp} (ha : PD K l X a ta) : PD K l X (.BoolOp op [a] pos) ta := ⟨ha.k, pe_one ha.pe⟩
theorem pd_and (ha : PD K l X a ta) (hb : PD K l X (.BoolOp .And (b :: es) pos) tb) : PD K l X (.BoolOp .And (a :: b :: es) pos) (dAndV ta tb) := by
  refine ⟨ha.k, (pe_and ha.pe hb.pe).imp fun σ H Q ⟨ρ, c, P, S, p, q, h⟩ => ?_⟩
  refine ⟨ρ, c, _, S, p, q, fun x d c1 H1 k1 p1 r1 ⟨k, e, q1⟩ => ?_⟩
  subst e
  refine ⟨k, r1, ?_⟩
  cases k with
  | true =>
    refine iteT ⟨ρ, c1, P, S.keep p k1, p1, ?_, fun v d c2 H2 k2 p2 r2 q2 => h v d c2 H2 (k1.trans k2) p2 r2 q2⟩
    rw [if_pos rfl] at q1
    exact q1
  | false =>
    refine iteF ?_
    rw [if_neg Bool.false_ne_true] at q1
    exact h _ (.bl false) c1 H1 k1 p1 rfl q1
def dB (ta : DE) : DB := fun ρ c P => ta ρ c fun d c1 => ∃ k, d = .bl k ∧ P k c1
theorem pb_of (ha : PD K l X a ta) (he : ∀ whole, isTrue a X.env whole = (do let v ← whole; standAt a.pos; holding [v] (truthy v)) := by intro _; rfl) : PB K l X a (dB ta) := by
  refine ⟨ha.k, (pt_val ha.pe he).imp fun σ H Q ⟨ρ, c, P, S, p, q, h⟩ => ?_⟩
  refine ⟨ρ, c, _, S, p, q, fun x d c1 H1 k1 p1 r1 ⟨k, e, q1⟩ => ?_⟩
  subst e
  exact ⟨k, r1, h k c1 H1 k1 p1 q1⟩
/-- a comparison as a test -/
theorem pb_cmp {op : CmpOp} {r : R2} {dr : D2} (ho : OpR X (compareOp op) r) (hr : OpD K l r dr) (hm : behindInMarks op b = false) (ha : PD K l X a ta) (hb : PD K l X b tb) : PB K l X (.Compare a [op] [b] pos) (dB (dOp dr ta tb)) := by
  refine ⟨ha.k, (pt_cmpR ho ha.pe hb.pe hm).imp fun σ H Q ⟨ρ, c, P, S, p, q, h⟩ => ?_⟩
  refine ⟨ρ, c, _, S, p, q, fun x d c1 H1 k1 p1 r1 q1 => ?_⟩
  refine ⟨ρ, c1, _, S.keep p k1, p1, q1, fun y e c2 H2 k2 p2 r2 q2 => ?_⟩
  refine hr H2 c2 x y d e _ _ p2 (r1.keep p1 k2) r2 q2 fun v f H3 k3 p3 r3 ⟨k, e3, q3⟩ => ?_
  subst e3
  exact ⟨k, r3, h k c2 H3 ((k1.trans k2).trans k3) p3 q3⟩
theorem pb_lt (ha : PD K l X a ta) (hb : PD K l X b tb) : PB K l X (.Compare a [.Lt] [b] pos) (dB (dOp (dIb fun i j => decide (i < j)) ta tb)) := pb_cmp op_lt opd_Ib (nomark _) ha hb
theorem pb_gt (ha : PD K l X a ta) (hb : PD K l X b tb) : PB K l X (.Compare a [.Gt] [b] pos) (dB (dOp (dIb fun i j => decide (j < i)) ta tb)) := pb_cmp op_gt opd_Ib (nomark _) ha hb
theorem pb_eq (ha : PD K l X a ta) (hb : PD K l X b tb) : PB K l X (.Compare a [.Eq] [b] pos) (dB (dOp (dIb fun i j => decide (i = j)) ta tb)) := pb_cmp op_eq opd_eqI (nomark _) ha hb
theorem pb_ne (ha : PD K l X a ta) (hb : PD K l X b tb) : PB K l X (.Compare a [.NotEq] [b] pos) (dB (dOp (dIb fun i j => !decide (i = j)) ta tb)) := pb_cmp op_ne opd_neI (nomark _) ha hb
theorem pb_isnot (ha : PD K l X a ta) (hb : PD K l X b tb) : PB K l X (.Compare a [.IsNot] [b] pos) (dB (dOp dNotB ta tb)) := pb_cmp op_notBl opd_notB (nomark _) ha hb
theorem pb_neS (ha : PD K l X a ta) (hb : PD K l X b tb) : PB K l X (.Compare a [.NotEq] [b] pos) (dB (dOp (dStr fun i j => !decide (i = j)) ta tb)) := pb_cmp op_ne opd_neS (nomark _) ha hb
theorem pb_neT (hu : X.A.units + 64 < cLine) (ha : PD K l X a ta) (hb : PD K l X b tb) : PB K l X (.Compare a [.NotEq] [b] pos) (dB (dOp (dTb fun i j => !decide (i = j)) ta tb)) := by
  have k := ha.k
  subst k
  exact pb_cmp (op_neD hu) opd_neT (nomark _) ha hb
theorem pb_eqT (hu : X.A.units + 64 < cLine) (ha : PD K l X a ta) (hb : PD K l X b tb) : PB K l X (.Compare a [.Eq] [b] pos) (dB (dOp (dTb fun i j => decide (i = j)) ta tb)) := by
  have k := ha.k
  subst k
  exact pb_cmp (op_eqD hu) opd_eqT (nomark _) ha hb
def dNot (ba : DB) : DB := fun ρ c P => ba ρ c fun k c1 => P (!k) c1
theorem pb_not (ha : PB K l X a ba) : PB K l X (.UnaryOp .Not a pos) (dNot ba) :=
  ⟨ha.k, (pt_not ha.pt).imp fun σ H Q ⟨ρ, c, P, S, p, q, h⟩ => ⟨ρ, c, _, S, p, q, fun k c1 H1 k1 p1 q1 => h (!k) c1 H1 k1 p1 q1⟩⟩
def dAnd (ba bb : DB) : DB := fun ρ c P => ba ρ c fun k c1 => if k = true then bb ρ c1 P else P false c1
def dOr (ba bb : DB) : DB := fun ρ c P => ba ρ c fun k c1 => if k = true then P true c1 else bb ρ c1 P
theorem pw_and1' (ha : PB K l X a ba) : PW' K l X (.BoolOp .And [a] pos) ba := ⟨ha.k, pw_and1 ha.pt⟩
theorem pw_or1' (ha : PB K l X a ba) : PW' K l X (.BoolOp .Or [a] pos) ba := ⟨ha.k, pw_or1 ha.pt⟩
theorem pw_and' (ha : PB K l X a ba) (hb : PW' K l X (.BoolOp .And (b :: es) pos) bb) : PW' K l X (.BoolOp .And (a :: b :: es) pos) (dAnd ba bb) := by
  refine ⟨ha.k, (pw_and ha.pt hb.pt).imp fun σ H Q ⟨ρ, c, P, S, p, q, h⟩ => ?_⟩
  refine ⟨ρ, c, _, S, p, q, fun k c1 H1 k1 p1 q1 => ?_⟩
  cases k with
  | true =>
    rw [if_pos rfl] at q1
    exact iteT ⟨ρ, c1, P, S.keep p k1, p1, q1, fun v c2 H2 k2 p2 q2 => h v c2 H2 (k1.trans k2) p2 q2⟩
  | false =>
    rw [if_neg Bool.false_ne_true] at q1
    exact iteF (h false c1 H1 k1 p1 q1)
theorem pw_or' (ha : PB K l X a ba) (hb : PW' K l X (.BoolOp .Or (b :: es) pos) bb) : PW' K l X (.BoolOp .Or (a :: b :: es) pos) (dOr ba bb) := by
  refine ⟨ha.k, (pw_or ha.pt hb.pt).imp fun σ H Q ⟨ρ, c, P, S, p, q, h⟩ => ?_⟩
  refine ⟨ρ, c, _, S, p, q, fun k c1 H1 k1 p1 q1 => ?_⟩
  cases k with
  | true =>
    rw [if_pos rfl] at q1
    exact iteT (h true c1 H1 k1 p1 q1)
  | false =>
    rw [if_neg Bool.false_ne_true] at q1
    exact iteF ⟨ρ, c1, P, S.keep p k1, p1, q1, fun v c2 H2 k2 p2 q2 => h v c2 H2 (k1.trans k2) p2 q2⟩
theorem pb_w (h : PW' K l X a ba) : PB K l X a ba := ⟨h.k, h.pt.pt⟩
def dIf (ba : DB) (ta tb : DE) : DE := fun ρ c P => ba ρ c fun k c1 => if k = true then ta ρ c1 P else tb ρ c1 P
theorem pd_if {t : Expr} (ht : PB K l X t ba) (ha : PD K l X a ta) (hb : PD K l X b tb) : PD K l X (.IfExp t a b pos) (dIf ba ta tb) := by
  refine ⟨ha.k, (pe_ifExp ht.pt ha.pe hb.pe).imp fun σ H Q ⟨ρ, c, P, S, p, q, h⟩ => ?_⟩
  refine ⟨ρ, c, _, S, p, q, fun k c1 H1 k1 p1 q1 => ?_⟩
  cases k with
  | true =>
    rw [if_pos rfl] at q1
    exact iteT ⟨ρ, c1, P, S.keep p k1, p1, q1, fun v d c2 H2 k2 p2 r2 q2 => h v d c2 H2 (k1.trans k2) p2 r2 q2⟩
  | false =>
    rw [if_neg Bool.false_ne_true] at q1
    exact iteF ⟨ρ, c1, P, S.keep p k1, p1, q1, fun v d c2 H2 k2 p2 r2 q2 => h v d c2 H2 (k1.trans k2) p2 r2 q2⟩
end

/-! ### contracts -/
abbrev Rel := List Dt → Dt → Prop
def flat : Dt → Bool
  | .lst _ => false
  | .lbs _ => false
  | .lrows _ => false
  | .seq _ => false
  | .raw _ => false
  | .pool => false
  | _ => true
def spP (K : PySem.W.Frag) (R : Rel) : Sp := fun vs H Q _ => ∃ ds r, Paired (Is K none H) vs ds ∧ R ds r ∧ ∀ v H', Keep none H H' → Is K none H' v r → Q v H'
abbrev Pre := List Dt → Nat → Prop
abbrev Post := List Dt → Nat → Dt → Nat → Prop
def spL (K : PySem.W.Frag) (A : Pre) (C : Post) : Sp := fun vs H Q _ => ∃ a ds c, Paired (Is K (some a) H) vs ds ∧ Pool (some a) H c ∧ A ds c ∧ ∀ v d c' H', Keep (some a) H H' → Pool (some a) H' c' → Is K (some a) H' v d → C ds c d c' → Q v H'
theorem flat_down {K : PySem.W.Frag} {l l' : Option Addr} {H : Hp} {v : V} {d : Dt} (f : flat d = true) (h : Is K l H v d) : Is K l' H v d := by
  cases d with
  | lst _ => cases f
  | lbs _ => cases f
  | lrows _ => cases f
  | seq _ => cases f
  | raw _ => cases f
  | pool => cases f
  | _ => exact h
theorem flats_down {K : PySem.W.Frag} {l l' : Option Addr} {H : Hp} {vs : List V} {ds : List Dt} (h : Paired (Is K l H) vs ds) : (∀ d ∈ ds, flat d = true) → Paired (Is K l' H) vs ds := by
  induction h with
  | nil => exact fun _ => .nil
  | cons a r ih => exact fun f => .cons (flat_down (f _ List.mem_cons_self) a) (ih fun d hd => f d (List.mem_cons_of_mem _ hd))
/-- a def that takes and tells flat things alone -/
structure KP (P : Program) (w : World) (K : PySem.W.Frag) (mg : Str → Option Value) (base : Heap) (x : Str) (k : Nat) (R : Rel) : Prop where
  ex : ∃ f fd ps, mg x = some (.ref f) ∧ PySem.W.keepIn K (.ref f) = true ∧ Binds K fd ps [] ∧ FnOk P w K mg base CX0 k f fd ps (spP K R)
  fl : ∀ ds r, R ds r → (∀ d ∈ ds, flat d = true) ∧ flat r = true
/-- one that turns the pool -/
structure KL (P : Program) (w : World) (K : PySem.W.Frag) (mg : Str → Option Value) (base : Heap) (x : Str) (k : Nat) (A : Pre) (C : Post) : Prop where
  ex : ∃ f fd ps, mg x = some (.ref f) ∧ PySem.W.keepIn K (.ref f) = true ∧ Binds K fd ps [] ∧ FnOk P w K mg base CX0 k f fd ps (spL K A C)

section
variable {K : PySem.W.Frag} {l : Option Addr} {X : Cx} {a b e : Expr} {es : List Expr} {pos : Pos} {ta tb : DE} {tr : DA} {ba bb : DB}
def dCall (R : Rel) (tr : DA) : DE := fun ρ c P => tr ρ c fun ds c1 => ∃ r, R ds r ∧ P r c1
theorem pool_keep {H H' : Hp} {c : Nat} (p : Pool l H c) (k : Keep none H H') : Pool l H' c := by
  cases l with
  | none => exact trivial
  | some a =>
    obtain ⟨x, y, z, e, q⟩ := p
    exact ⟨x, y, z, k a _ (by simp) e, q⟩
theorem pd_call {x : Str} {j k : Nat} {R : Rel} {p : Pos} (F : KP X.prog X.w K X.mg X.base x j R) (hr : Room k X.A) (ha : PAr K l X (e :: es) tr) (hj : j ≤ k := by decide) (hg : Gl X x := by rfl)
    (hdb : (x == ("__debug__" : Str)) = false := by decide) (he : starEach (e :: es) X.env = (false, eval e X.env) :: starEach es X.env := by rfl) (hpl : (backTo pos (starEach es X.env)).any (·.1) = false := by rfl) :
    PD K l X (.Call (.Name x p) (e :: es) [] pos) (dCall R tr) := by
  have k0 := ha.k
  subst k0
  obtain ⟨f, fd, ps, hm, kp, hb, G⟩ := F.ex
  refine ⟨rfl, (pe_call G (hr.mono hj) hg hm kp hb .nil pass0 ha.pa hdb he hpl).imp fun σ H Q ⟨ρ, c, P, S, q0, q, h⟩ => ?_⟩
  refine ⟨ρ, c, _, S, q0, q, fun vs ds c1 H1 k1 p1 r1 ⟨r, hR, q1⟩ => ?_⟩
  obtain ⟨f1, f2⟩ := F.fl ds r hR
  refine ⟨ds, r, ?_, hR, fun v H2 k2 r2 => h v r c1 H2 (k1.trans k2.wide) (pool_keep p1 k2) (flat_down f2 r2) q1⟩
  rw [List.append_nil]
  exact flats_down r1 f1
def dCallL (A : Pre) (C : Post) (tr : DA) : DE := fun ρ c P => tr ρ c fun ds c1 => A ds c1 ∧ ∀ d c2, C ds c1 d c2 → P d c2
theorem pd_callL {a0 : Addr} {x : Str} {j k : Nat} {A : Pre} {C : Post} {p : Pos} (F : KL X.prog X.w K X.mg X.base x j A C) (hr : Room k X.A) (ha : PAr K (some a0) X (e :: es) tr) (hj : j ≤ k := by decide) (hg : Gl X x := by rfl)
    (hdb : (x == ("__debug__" : Str)) = false := by decide) (he : starEach (e :: es) X.env = (false, eval e X.env) :: starEach es X.env := by rfl) (hpl : (backTo pos (starEach es X.env)).any (·.1) = false := by rfl) :
    PD K (some a0) X (.Call (.Name x p) (e :: es) [] pos) (dCallL A C tr) := by
  have k0 := ha.k
  subst k0
  obtain ⟨f, fd, ps, hm, kp, hb, G⟩ := F.ex
  refine ⟨rfl, (pe_call G (hr.mono hj) hg hm kp hb .nil pass0 ha.pa hdb he hpl).imp fun σ H Q ⟨ρ, c, P, S, q0, q, h⟩ => ?_⟩
  refine ⟨ρ, c, _, S, q0, q, fun vs ds c1 H1 k1 p1 r1 ⟨hA, q1⟩ => ?_⟩
  refine ⟨a0, ds, c1, ?_, p1, hA, fun v d c2 H2 k2 p2 r2 hC => h v d c2 H2 (k1.trans k2) p2 r2 (q1 d c2 hC)⟩
  rw [List.append_nil]
  exact r1

/-! ### targets -/
def gN (i : Nat) : DG := fun d ρ P => P (ρ.set i (some d))
theorem pt_n (i : Nat) {x : Str} (hN : X.N.Nodup) (hi : X.N[i]? = some x := by rfl) (hx : Loc X.env.scope x := by first | exact Or.inl rfl | exact Or.inr rfl) (hf : X.fn x = true ∨ X.env.scope.names.lookup x = some .local := by first | exact .inl rfl | exact .inr rfl) (k : X.K = K := by rfl) :
    PTg K l X (.Name x pos) (gN i) :=
  ⟨k, (pg_name hN hi hx hf).imp fun v σ H Q ⟨d, ρ, c, P, r, S, p, q, h⟩ => h _ _ H Keep.refl p (S.set r) q⟩
def gN0 : DGs := fun ds ρ P => ds = [] ∧ P ρ
def gN1 (g : DG) (gs : DGs) : DGs := fun ds ρ P => ∃ d r, ds = d :: r ∧ g d ρ fun ρ' => gs r ρ' P
theorem pts_0 (k : X.K = K := by rfl) : PTgs K l X [] gN0 := ⟨k, pgs_nil.imp fun vs σ H Q ⟨ds, ρ, c, P, r, S, p, ⟨e, q⟩, h⟩ => by
  subst e
  cases r
  exact ⟨rfl, h σ ρ H Keep.refl p S q⟩⟩
theorem paired_keep {H H' : Hp} {c : Nat} (p : Pool l H c) (k : Keep l H H') {vs : List V} {ds : List Dt} (h : Paired (Is K l H) vs ds) : Paired (Is K l H') vs ds := Paired.mapP h fun _ _ z => z.keep p k
theorem pts_1 {g : DG} {gs : DGs} (h1 : PTg K l X e g) (h2 : PTgs K l X es gs) (hs : (assignEach (e :: es) X.env).map (·.2) = assign e X.env :: (assignEach es X.env).map (·.2) := by rfl) : PTgs K l X (e :: es) (gN1 g gs) :=
  ⟨h1.k, (pgs_cons h1.pg h2.pg hs).imp fun vs σ H Q ⟨ds, ρ, c, P, r, S, p, ⟨d, rs, e, q⟩, h⟩ => by
    subst e
    cases r with
    | cons ra rb =>
      exact ⟨_, _, rfl, d, ρ, c, _, ra, S, p, q, fun σ1 ρ1 H1 k1 p1 S1 q1 => ⟨rs, ρ1, c, P, paired_keep p k1 rb, S1, p1, q1, fun σ2 ρ2 H2 k2 p2 S2 q2 => h σ2 ρ2 H2 (k1.trans k2) p2 S2 q2⟩⟩⟩
theorem pts_star {p0 : Pos} {g : DG} {gs : DGs} (h1 : PTg K l X e g) (h2 : PTgs K l X es gs) : PTgs K l X (.Starred e p0 :: es) (gN1 g gs) :=
  ⟨h1.k, (pgs_star h1.pg h2.pg).imp fun vs σ H Q ⟨ds, ρ, c, P, r, S, p, ⟨d, rs, e, q⟩, h⟩ => by
    subst e
    cases r with
    | cons ra rb =>
      exact ⟨_, _, rfl, d, ρ, c, _, ra, S, p, q, fun σ1 ρ1 H1 k1 p1 S1 q1 => ⟨rs, ρ1, c, P, paired_keep p k1 rb, S1, p1, q1, fun σ2 ρ2 H2 k2 p2 S2 q2 => h σ2 ρ2 H2 (k1.trans k2) p2 S2 q2⟩⟩⟩
def items? : Dt → Option (List Dt)
  | .tup xs => some (xs.map .int)
  | .rows xss => some (xss.map .tup)
  | _ => none
theorem paired_ints {H : Hp} : ∀ xs : List Int, Paired (Is K l H) (xs.map V.int) (xs.map Dt.int)
  | [] => .nil
  | x :: r => .cons rfl (paired_ints r)
theorem paired_tups {H : Hp} {vs : List V} {xss : List (List Int)} (h : Paired (TupAt K H) vs xss) : Paired (Is K l H) vs (xss.map Dt.tup) := by
  induction h with
  | nil => exact .nil
  | cons a r ih => exact .cons a ih
theorem items_of {H : Hp} {v : V} {d : Dt} {ds : List Dt} (r : Is K l H v d) (e : items? d = some ds) : ∃ p vs, v = .ref p ∧ SqT K H p vs ∧ Paired (Is K l H) vs ds := by
  cases d with
  | tup xs =>
    obtain ⟨p, rfl, h⟩ := r
    cases e
    exact ⟨p, _, rfl, h, paired_ints xs⟩
  | rows xss =>
    obtain ⟨p, vs, rfl, h, q⟩ := r
    cases e
    exact ⟨p, vs, rfl, h, paired_tups q⟩
  | _ => cases e
def gT (n : Nat) (gs : DGs) : DG := fun d ρ P => ∃ ds, items? d = some ds ∧ ds.length = n ∧ gs ds ρ P
theorem pt_t {j n : Nat} {gs : DGs} (hc : X.calm = true) (h : PTgs K l X es gs) (hn : (assignEach es X.env).length = n := by rfl) (hst : (assignEach es X.env).findIdx? (·.1) = none := by rfl) : PTg K l X (.Tuple es j pos) (gT n gs) := by
  have k := h.k
  subst k
  refine ⟨rfl, (pg_tup hc h.pg hn hst).imp fun v σ H Q ⟨d, ρ, c, P, r, S, p, ⟨ds, e, z, q⟩, w⟩ => ?_⟩
  obtain ⟨A, vs, rfl, hA, pr⟩ := items_of r e
  exact ⟨A, vs, rfl, hA, (Paired.length pr).trans z, ds, ρ, c, P, pr, S, p, q, w⟩
/-- the last of n targets has the star -/
def gS (n i : Nat) (gs : DGs) : DG := fun d ρ P => ∃ xs, d = .tup xs ∧ n = i + 1 ∧ i ≤ xs.length ∧ xs.length ≤ 10000 ∧ gs ((xs.take i).map .int ++ [.lst (xs.drop i)]) ρ P
theorem paired_app {α β : Type} {F : α → β → Prop} {xs : List α} {ys : List β} {us : List α} {ws : List β} (h : Paired F xs ys) (k : Paired F us ws) : Paired F (xs ++ us) (ys ++ ws) := by
  induction h with
  | nil => exact k
  | cons a r ih => exact .cons a ih
theorem pt_s {j n i : Nat} {gs : DGs} (hc : X.calm = true) (h : PTgs K l X es gs) (hn : (assignEach es X.env).length = n) (hst : (assignEach es X.env).findIdx? (·.1) = some i) : PTg K l X (.Tuple es j pos) (gS n i gs) := by
  have k := h.k
  subst k
  refine ⟨rfl, (pg_star hc h.pg hn hst).imp fun v σ H Q ⟨d, ρ, c, P, r, S, p, ⟨xs, e, e2, z1, z2, q⟩, w⟩ => ?_⟩
  subst e e2
  obtain ⟨A, rfl, hA⟩ := r
  have hl : (xs.map V.int).length = xs.length := List.length_map _
  refine ⟨A, _, rfl, hA, by omega, by omega, by omega, fun D nD => ?_⟩
  have e3 : (xs.map V.int).length + 1 - (i + 1) = xs.length - i := by omega
  rw [e3, ← List.map_take, ← List.map_drop]
  have e4 : ((xs.drop i).map V.int).take (xs.length - i) = (xs.drop i).map V.int := List.take_of_length_le (by rw [List.length_map, List.length_drop]; omega)
  have e5 : ((xs.drop i).map V.int).drop (xs.length - i) = [] := List.drop_of_length_le (by rw [List.length_map, List.length_drop]; omega)
  rw [e4, e5, List.append_nil]
  have rD : Is X.K l (upd H D (.lst ((xs.drop i).map V.int))) (.ref D) (.lst (xs.drop i)) := ⟨D, rfl, upd_same, new_ne p nD⟩
  refine ⟨_, ρ, c, P, paired_app (paired_ints _) (.cons rD .nil), S.keep p (Keep.new nD), pool_new p nD, q, fun σ1 ρ1 H1 k1 p1 S1 q1 => w σ1 ρ1 H1 ((Keep.new nD).trans k1) p1 S1 q1⟩

/-! ### statements -/
variable {st : Stmt} {rest : List Stmt} {s1 s2 : DS}
def dNext : DS := fun E ρ c => E.nx ρ c
def dSeq (s t : DS) : DS := fun E ρ c => s { nx := fun ρ' c' => t E ρ' c', rt := E.rt } ρ c
theorem ps_0 (k : X.K = K := by rfl) : PSts K l X [] dNext := ⟨k, pss_nil.imp fun D σ H ⟨ρ, c, E, S, p, q, h1, h2⟩ => h1 σ ρ c H Keep.refl p S q⟩
theorem ps_1 (h : PSt K l X st s1) : PSts K l X [st] s1 := ⟨h.k, pss_one h.ps⟩
theorem ps_2 (h1 : PSt K l X st s1) (h2 : PSts K l X rest s2) : PSts K l X (st :: rest) (dSeq s1 s2) :=
  ⟨h1.k, (pss_cons h1.ps h2.ps).imp fun D σ H ⟨ρ, c, E, S, p, q, w1, w2⟩ => ⟨ρ, c, _, S, p, q, fun σ1 ρ1 c1 H1 k1 p1 S1 q1 => ⟨ρ1, c1, E, S1, p1, q1, fun σ2 ρ2 c2 H2 k2 p2 S2 q2 => w1 σ2 ρ2 c2 H2 (k1.trans k2) p2 S2 q2, fun v d c2 H2 k2 p2 r2 q2 => w2 v d c2 H2 (k1.trans k2) p2 r2 q2⟩, w2⟩⟩
def dAsg (ta : DE) (g : DG) : DS := fun E ρ c => ta ρ c fun d c1 => g d ρ fun ρ' => E.nx ρ' c1
theorem st_asg {tg : Expr} {g : DG} (he : PD K l X e ta) (hg : PTg K l X tg g) (hs : swapsWithSole [tg] e pos.line X.env = pure false := by rfl) (hw : swappedStores [tg] e X.env = pure none := by rfl)
    (h1 : (assignEach [tg] X.env).map (·.2) = [assign tg X.env] := by rfl) : PSt K l X (.Assign [tg] e pos) (dAsg ta g) :=
  ⟨he.k, (ps_asg he.pe hg.pg hs hw h1).imp fun D σ H ⟨ρ, c, E, S, p, q, w1, w2⟩ => ⟨ρ, c, _, S, p, q, fun v d c1 H1 k1 p1 r1 q1 => ⟨d, ρ, c1, _, r1, S.keep p k1, p1, q1, fun σ2 ρ2 H2 k2 p2 S2 q2 => w1 σ2 ρ2 c1 H2 (k1.trans k2) p2 S2 q2⟩⟩⟩
def dSet (i : Nat) (ta : DE) : DS := fun E ρ c => ta ρ c fun d c1 => E.nx (ρ.set i (some d)) c1
theorem st_set (i : Nat) {x : Str} {pos' : Pos} (hN : X.N.Nodup) (he : PD K l X e ta) (hi : X.N[i]? = some x := by rfl) (hx : Loc X.env.scope x := by first | exact Or.inl rfl | exact Or.inr rfl) (hs : swapsWith e (some (.Name x pos')) pos.line X.env = pure false := by rfl)
    (hf : X.fn x = true ∨ X.env.scope.names.lookup x = some .local := by first | exact .inl rfl | exact .inr rfl) : PSt K l X (.Assign [.Name x pos'] e pos) (dSet i ta) :=
  ⟨he.k, (ps_set hN hi hx he.pe hs hf).imp fun D σ H ⟨ρ, c, E, S, p, q, w1, w2⟩ => ⟨ρ, c, _, S, p, q, fun v d c1 H1 k1 p1 r1 q1 => w1 _ _ c1 H1 k1 p1 ((S.keep p k1).set r1) q1⟩⟩
def dRet (ta : DE) : DS := fun E ρ c => ta ρ c E.rt
theorem st_ret (he : PD K l X e ta) : PSt K l X (.Return (some e) pos) (dRet ta) :=
  ⟨he.k, (ps_ret he.pe).imp fun D σ H ⟨ρ, c, E, S, p, q, w1, w2⟩ => ⟨ρ, c, _, S, p, q, w2⟩⟩
def dIfS (ba : DB) (s t : DS) : DS := fun E ρ c => ba ρ c fun k c1 => if k = true then s E ρ c1 else t E ρ c1
theorem st_if {t : Expr} {xs ys : List Stmt} (ht : PB K l X t ba) (ha : PSts K l X xs s1) (hb : PSts K l X ys s2) : PSt K l X (.If t xs ys pos) (dIfS ba s1 s2) := by
  refine ⟨ht.k, (ps_if ht.pt ha.ps hb.ps).imp fun D σ H ⟨ρ, c, E, S, p, q, w1, w2⟩ => ⟨ρ, c, _, S, p, q, fun k c1 H1 k1 p1 q1 => ?_⟩⟩
  cases k with
  | true =>
    rw [if_pos rfl] at q1
    exact iteT ⟨ρ, c1, E, S.keep p k1, p1, q1, fun σ2 ρ2 c2 H2 k2 p2 S2 q2 => w1 σ2 ρ2 c2 H2 (k1.trans k2) p2 S2 q2, fun v d c2 H2 k2 p2 r2 q2 => w2 v d c2 H2 (k1.trans k2) p2 r2 q2⟩
  | false =>
    rw [if_neg Bool.false_ne_true] at q1
    exact iteF ⟨ρ, c1, E, S.keep p k1, p1, q1, fun σ2 ρ2 c2 H2 k2 p2 S2 q2 => w1 σ2 ρ2 c2 H2 (k1.trans k2) p2 S2 q2, fun v d c2 H2 k2 p2 r2 q2 => w2 v d c2 H2 (k1.trans k2) p2 r2 q2⟩
def dDo (ta : DE) : DS := fun E ρ c => ta ρ c fun _ c1 => E.nx ρ c1
theorem st_do (he : PD K l X e ta) (hs : swapsWith e none pos.line X.env = pure false := by rfl) : PSt K l X (.Expr e pos) (dDo ta) :=
  ⟨he.k, (ps_expr he.pe hs).imp fun D σ H ⟨ρ, c, E, S, p, q, w1, w2⟩ => ⟨ρ, c, _, S, p, q, fun v d c1 H1 k1 p1 _ q1 => w1 σ ρ c1 H1 k1 p1 (S.keep p k1) q1⟩⟩
def dNever : DS := fun _ _ _ => False
theorem st_never (k : X.K = K := by rfl) : PSts K l X rest dNever := ⟨k, pss_never.imp fun D σ H ⟨ρ, c, E, S, p, q, _⟩ => q.elim⟩
/-- a, b = x, y -/
def dPar (i j : Nat) (tr : DA) : DS := fun E ρ c => tr ρ c fun ds c1 => ∃ d e, ds = [d, e] ∧ E.nx ((ρ.set i (some d)).set j (some e)) c1
theorem st_par (i j : Nat) {x y : Str} {px py pt : Pos} {kt k2 : Nat} {pt2 : Pos} (hc : X.calm = true) (hN : X.N.Nodup) (ha : PAr K l X [a, b] tr) (hw : swappedStores [.Tuple [.Name x px, .Name y py] kt pt] (.Tuple [a, b] k2 pt2) X.env = pure (some [x, y]) := by rfl)
    (hi : X.N[i]? = some x := by rfl) (hj : X.N[j]? = some y := by rfl) (hij : i ≠ j := by decide) (hx : X.env.scope.names.lookup x = some .local := by rfl) (hy : X.env.scope.names.lookup y = some .local := by rfl)
    (hs : swapsWithSole [.Tuple [.Name x px, .Name y py] kt pt] (.Tuple [a, b] k2 pt2) pos.line X.env = pure false := by rfl) :
    PSt K l X (.Assign [.Tuple [.Name x px, .Name y py] kt pt] (.Tuple [a, b] k2 pt2) pos) (dPar i j tr) :=
  ⟨ha.k, (ps_par hc hN hi hj hij hx hy ha.pa hw hs).imp fun D σ H ⟨ρ, c, E, S, p, q, w1, w2⟩ => ⟨ρ, c, _, S, p, q, fun vs ds c1 H1 k1 p1 r1 ⟨d, e, z, q1⟩ => by
    subst z
    obtain ⟨v, w, rfl, r2, r3⟩ := is_two r1
    exact ⟨v, w, rfl, w1 _ _ c1 H1 k1 p1 (((S.keep p k1).set r2).set r3) q1⟩⟩⟩

/-! ### the pool's numbers stored -/
def dPut (ti ta : DE) (tp : DE) : DS := fun E ρ c => ta ρ c fun d c1 => tp ρ c1 fun q c2 => q = .pool ∧ ti ρ c2 fun i c3 => ∃ x : Int, d = .int x ∧ 0 ≤ x ∧ ((i = .int 0 ∧ E.nx ρ c3) ∨ (i = .int 2 ∧ ∃ c4 : Nat, x ≤ (c4 : Int) ∧ E.nx ρ c4))
theorem st_put {o i : Expr} {tp ti : DE} {p2 : Pos} (ho : PD K l X o tp) (hi : PD K l X i ti) (he : PD K l X e ta)
    (hg : ∀ v, assign (.Subscript o i p2) X.env v = (do
      let ov ← holding [v] (eval o X.env)
      let iv ← holding [v, ov] (eval i X.env)
      standAt p2
      holding [v, ov, iv] (setItem ov iv v)
      release [v, ov, iv] []) := by intro _; rfl)
    (hs : swapsWithSole [.Subscript o i p2] e pos.line X.env = pure false := by rfl) (hw : swappedStores [.Subscript o i p2] e X.env = pure none := by rfl) (h1 : (assignEach [.Subscript o i p2] X.env).map (·.2) = [assign (.Subscript o i p2) X.env] := by rfl) :
    PSt K l X (.Assign [.Subscript o i p2] e pos) (dPut ti ta tp) := by
  refine ⟨he.k, (ps_asg he.pe (pg_sub ho.pe hi.pe set_list hg) hs hw h1).imp fun D σ H ⟨ρ, c, E, S, p, q, w1, w2⟩ => ?_⟩
  refine ⟨ρ, c, _, S, p, q, fun v d c1 H1 k1 p1 r1 q1 => ?_⟩
  refine ⟨ρ, c1, _, S.keep p k1, p1, q1, fun u d2 c2 H2 k2 p2 r2 ⟨e2, q2⟩ => ?_⟩
  subst e2
  refine ⟨ρ, c2, _, (S.keep p k1).keep p1 k2, p2, q2, fun w d3 c3 H3 k3 p3 r3 q3 => ?_⟩
  obtain ⟨a0, rfl, rfl⟩ := r2
  obtain ⟨x, e3, x0, q4⟩ := q3
  subst e3
  have r1 : v = .int x := r1
  subst r1
  obtain ⟨y0, y1, y2, hH, h1, h2, h3, h4, h5⟩ := id p3
  have kk : Keep (some a0) H H3 := (k1.trans k2).trans k3
  rcases q4 with ⟨e4, q5⟩ | ⟨e4, c4, hx, q5⟩
  · subst e4
    have r3 : w = .int 0 := r3
    subst r3
    refine ⟨a0, _, 0, 0, rfl, rfl, hH, rfl, ?_⟩
    exact w1 σ ρ c3 _ (kk.trans Keep.put) ⟨x, y1, y2, upd_same, x0, h2, h3, h4, h5⟩ (((S.keep p k1).keep p1 k2 |>.keep p2 k3).keep p3 Keep.put) q5
  · subst e4
    have r3 : w = .int 2 := r3
    subst r3
    refine ⟨a0, _, 2, 2, rfl, rfl, hH, rfl, ?_⟩
    exact w1 σ ρ c4 _ (kk.trans Keep.put) ⟨y0, y1, x, upd_same, h1, h2, h3, x0, hx⟩ (((S.keep p k1).keep p1 k2 |>.keep p2 k3).keep p3 Keep.put) q5
end
end K12
/-! Readings by data, further: loops, comprehensions, a whole def. -/
namespace K12
open PySem PySem.Spec PyProof.Rows L2

section
variable {K : PySem.W.Frag} {l : Option Addr} {X : Cx} {a b e : Expr} {es : List Expr} {pos : Pos} {ta tb : DE} {tr : DA} {ba bb : DB} {s1 s2 : DS} {body : List Stmt}

/-! ### loops -/
def dWhile (ba : DB) (s : DS) : DS := fun E ρ c => ∃ W : Nat → Dv → Prop, (∃ m, W m ρ) ∧ ∀ m ρ c, W m ρ → ba ρ c fun k c1 =>
  if k = true then ∃ N : Dv → Prop, (∀ ρ', N ρ' → ∃ m', m' < m ∧ W m' ρ') ∧ s { nx := fun ρ' _ => N ρ', rt := E.rt } ρ c1 else E.nx ρ c1
theorem st_while (hp : PassesOwn (model X.prog X.w) X.A X.env X.xe) (ht : PB K l X e ba) (hb : PSts K l X body s1) : PSt K l X (.While e body [] pos) (dWhile ba s1) := by
  refine ⟨ht.k, (ps_while hp ht.pt hb.ps).imp fun D σ H ⟨ρ, c, E, S, p, ⟨W, ⟨m0, w0⟩, turn⟩, h1, h2⟩ => ?_⟩
  refine ⟨fun m σ' H' => ∃ ρ' c', Keep l H H' ∧ Pool l H' c' ∧ StX K l H' σ' ρ' ∧ W m ρ', ⟨m0, ρ, c, Keep.refl, p, S, w0⟩, ?_⟩
  rintro m σ' H' ⟨ρ', c', kk, p', S', w'⟩
  refine ⟨ρ', c', _, S', p', turn m ρ' c' w', fun k c1 H1 k1 p1 q1 => ?_⟩
  cases k with
  | true =>
    rw [if_pos rfl] at q1
    obtain ⟨N, hN, q1⟩ := q1
    refine iteT ⟨fun σ2 H2 => ∃ ρ2 c2, Keep l H H2 ∧ Pool l H2 c2 ∧ StX K l H2 σ2 ρ2 ∧ N ρ2, ?_, ?_⟩
    · rintro σ2 H2 ⟨ρ2, c2, kk2, p2, S2, n2⟩
      obtain ⟨m', hm, w2⟩ := hN ρ2 n2
      exact ⟨m', hm, ρ2, c2, kk2, p2, S2, w2⟩
    · exact ⟨ρ', c1, _, S'.keep p' k1, p1, q1, fun σ2 ρ2 c2 H2 k2 p2 S2 q2 => ⟨ρ2, c2, (kk.trans k1).trans k2, p2, S2, q2⟩, fun v d c2 H2 k2 p2 r2 q2 => h2 v d c2 H2 ((kk.trans k1).trans k2) p2 r2 q2⟩
  | false =>
    rw [if_neg Bool.false_ne_true] at q1
    exact iteF (h1 σ' ρ' c1 H1 (kk.trans k1) p1 (S'.keep p' k1) q1)
/-- over a tuple of ints -/
def dForT (i : Nat) (ta : DE) (s : DS) : DS := fun E ρ c => ta ρ c fun d c1 => ∃ xs, d = .tup xs ∧ ∃ W : Nat → Dv → Nat → Prop, W 0 ρ c1 ∧
  (∀ j x ρ' c', xs[j]? = some x → W j ρ' c' → s { nx := W (j + 1), rt := E.rt } (ρ'.set i (some (.int x))) c') ∧ ∀ ρ' c', W xs.length ρ' c' → E.nx ρ' c'
theorem st_forT (i : Nat) {x : Str} {px : Pos} (hp : PassesOwn (model X.prog X.w) X.A X.env X.xe) (hc : X.calm = true) (hN : X.N.Nodup) (ha : PD K l X a ta) (hb : PSts K l X body s1) (hi : X.N[i]? = some x := by rfl) (hx : Loc X.env.scope x := by first | exact Or.inl rfl | exact Or.inr rfl)
    (hf : X.fn x = true ∨ X.env.scope.names.lookup x = some .local := by first | exact .inl rfl | exact .inr rfl) (hs : ∀ x, foldedSetIterable a X.env x = pure x := by intro _; rfl) : PSt K l X (.For (.Name x px) a body [] pos) (dForT i ta s1) := by
  have k := ha.k
  subst k
  refine ⟨rfl, (ps_for hp hc (pi_tup ha.pe) (pg_name hN hi hx hf) hb.ps hs).imp fun D σ H ⟨ρ, c, E, S, p, q, h1, h2⟩ => ?_⟩
  refine ⟨ρ, c, _, S, p, q, fun v d c1 H1 k1 p1 r1 ⟨xs, e, W, w0, step, fin⟩ => ?_⟩
  subst e
  obtain ⟨A, rfl, hA⟩ := r1
  refine ⟨A, rfl, ⟨_, hA⟩, for_tup (K := X.K) (a := A) (xs := xs.map V.int) (fun j σ' H' => ∃ ρ' c', Keep l H1 H' ∧ Pool l H' c' ∧ StX X.K l H' σ' ρ' ∧ W j ρ' c') ⟨ρ, c1, Keep.refl, p1, S.keep p k1, w0⟩ ?_ ?_ ?_⟩
  · rintro j σ' H' _ ⟨ρ', c', kk, _, _, _⟩
    exact sqT_keep p1 kk hA
  · rintro j x σ' H' hj ⟨ρ', c', kk, p', S', w'⟩
    rw [List.getElem?_map] at hj
    cases ej : xs[j]? with
    | none =>
      rw [ej] at hj
      cases hj
    | some y =>
      rw [ej] at hj
      cases hj
      exact ⟨ρ'.set i (some (.int y)), c', _, S'.set rfl, p', step j y ρ' c' ej w', fun σ2 ρ2 c2 H2 k2 p2 S2 q2 => ⟨ρ2, c2, kk.trans k2, p2, S2, q2⟩, fun v d c2 H2 k2 p2 r2 q2 => h2 v d c2 H2 ((k1.trans kk).trans k2) p2 r2 q2⟩
  · rintro σ' H' ⟨ρ', c', kk, p', S', w'⟩
    rw [List.length_map] at w'
    exact h1 σ' ρ' c' H' (k1.trans kk) p' S' (fin ρ' c' w')
/-- over range(n) -/
def dForR (i : Nat) (tr : DA) (s : DS) : DS := fun E ρ c => tr ρ c fun ds c1 => ∃ n : Nat, ds = [.int (n : Int)] ∧ n ≤ 100000 ∧ ∃ W : Nat → Dv → Nat → Prop, W 0 ρ c1 ∧
  (∀ j ρ' c', j < n → W j ρ' c' → s { nx := W (j + 1), rt := E.rt } (ρ'.set i (some (.int (j : Int)))) c') ∧ ∀ ρ' c', W n ρ' c' → E.nx ρ' c'
theorem st_forR (i : Nat) {x : Str} {px pr p2 : Pos} (hp : PassesOwn (model X.prog X.w) X.A X.env X.xe) (hc : X.calm = true) (hN : X.N.Nodup) (hm : X.mg "range" = none) (ha : PAr K l X [a] tr) (hb : PSts K l X body s1) (hg : Gl X "range" := by rfl) (hi : X.N[i]? = some x := by rfl)
    (hx : Loc X.env.scope x := by first | exact Or.inl rfl | exact Or.inr rfl) (hse : starEach [a] X.env = [(false, eval a X.env)] := by rfl)
    (hf : X.fn x = true ∨ X.env.scope.names.lookup x = some .local := by first | exact .inl rfl | exact .inr rfl) (hs : ∀ x, foldedSetIterable (.Call (.Name "range" pr) [a] [] p2) X.env x = pure x := by intro _; rfl) :
    PSt K l X (.For (.Name x px) (.Call (.Name "range" pr) [a] [] p2) body [] pos) (dForR i tr s1) := by
  have k := ha.k
  subst k
  refine ⟨rfl, (ps_for hp hc (pi_range1 hg hm ha.pa hse) (pg_name hN hi hx hf) hb.ps hs).imp fun D σ H ⟨ρ, c, E, S, p, q, h1, h2⟩ => ?_⟩
  refine ⟨ρ, c, _, S, p, q, fun vs ds c1 H1 k1 p1 r1 ⟨n, e, hn, W, w0, step, fin⟩ => ?_⟩
  subst e
  obtain ⟨v, rfl, rv⟩ := is_one r1
  have rv : v = .int (n : Int) := rv
  subst rv
  refine ⟨(n : Int), rfl, by omega, by omega, for_range (lo := 0) (n := (n : Int).toNat) (fun j σ' H' => ∃ ρ' c', Keep l H1 H' ∧ Pool l H' c' ∧ StX X.K l H' σ' ρ' ∧ W j ρ' c') ⟨ρ, c1, Keep.refl, p1, S.keep p k1, w0⟩ ?_ ?_⟩
  · rintro j σ' H' hj ⟨ρ', c', kk, p', S', w'⟩
    have hj : j < n := by omega
    have e0 : (0 : Int) + (j : Int) = (j : Int) := Int.zero_add _
    rw [e0]
    exact ⟨ρ'.set i (some (.int (j : Int))), c', _, S'.set rfl, p', step j ρ' c' hj w', fun σ2 ρ2 c2 H2 k2 p2 S2 q2 => ⟨ρ2, c2, kk.trans k2, p2, S2, q2⟩, fun v d c2 H2 k2 p2 r2 q2 => h2 v d c2 H2 ((k1.trans kk).trans k2) p2 r2 q2⟩
  · rintro σ' H' ⟨ρ', c', kk, p', S', w'⟩
    rw [Int.toNat_natCast] at w'
    exact h1 σ' ρ' c' H' (k1.trans kk) p' S' (fin ρ' c' w')

/-! ### comprehensions -/
structure PIf (K : PySem.W.Frag) (l : Option Addr) (X : Cx) (ifs : List Expr) (t : DB) : Prop where
  k : X.K = K
  pt : PTs X ifs (cnB K l t)
theorem _root_.L2.PTs.imp {X : Cx} {ifs : List Expr} {t u : TT} (h : PTs X ifs t) (i : ∀ σ H Q, u σ H Q → t σ H Q) : PTs X ifs u := ⟨fun pins s σ H Q I z => h.run pins s σ H Q I (i σ H Q z)⟩
def dYes : DB := fun _ c P => P true c
theorem if_0 (k : X.K = K := by rfl) : PIf K l X [] dYes := ⟨k, pts_nil.imp fun σ H Q ⟨ρ, c, P, S, p, q, h⟩ => h true c H Keep.refl p q⟩
theorem if_1 (h : PB K l X e ba) : PIf K l X [e] ba := ⟨h.k, pts_one h.pt⟩

theorem pool_put {H : Hp} {c : Nat} {D : Addr} {o : HO} (p : Pool l H c) (n : some D ≠ l) : Pool l (upd H D o) c := by
  cases l with
  | none => exact trivial
  | some a =>
    obtain ⟨x, y, z, e, q⟩ := p
    have na : a ≠ D := fun z => n (by rw [z])
    exact ⟨x, y, z, by rw [upd_ne na]; exact e, q⟩
theorem keep_put {H H' : Hp} {D : Addr} {o : HO} (k : Keep l H H') (n : H D = none) : Keep l H (upd H' D o) := fun a u na e => by
  rw [upd_ne (ne_of_none e n)]
  exact k a u na e
/-- what is walked, item by item; what is made: R by the turn, the items made, the counter -/
def LcB {α : Type} (dk : α → Dt) (mk : List α → Dt) (i : Nat) (bt : DB) (te : DE) (ρ : Dv) (items : List Dt) (c1 : Nat) (P : Dt → Nat → Prop) : Prop := ∃ R : Nat → List α → Nat → Prop, R 0 [] c1 ∧
  (∀ j x acc c', items[j]? = some x → R j acc c' → acc.length ≤ 10000 ∧ bt (ρ.set i (some x)) c' fun k c2 => if k = true then te (ρ.set i (some x)) c2 fun d c3 => ∃ y, d = dk y ∧ R (j + 1) (acc ++ [y]) c3 else R (j + 1) acc c2) ∧
  ∀ acc c', R items.length acc c' → P (mk acc) c'
def dLc {α : Type} (dk : α → Dt) (mk : List α → Dt) (src : DA) (i : Nat) (bt : DB) (te : DE) : DE := fun ρ c P => src ρ c fun items c1 => LcB dk mk i bt te ρ items c1 P
/-- one turn -/
theorem lc_turn {α : Type} {dk : α → Dt} {em : α → V} (hk : ∀ (H : Hp) v y, Is K l H v (dk y) → v = em y) {i : Nat} {bt : DB} {te : DE} {ρ : Dv} {σ : L2.St} {H0 H : Hp} {D : Addr} {c' : Nat} {v : V} {x : Dt} {acc : List α} {N1 : List α → Nat → Prop} {Q : Hp → Prop}
    (nD : H0 D = none) (nl : some D ≠ l) (S : StX K l H0 σ ρ) (p0 : ∃ c0, Pool l H0 c0) (kk : Keep l H0 H) (p : Pool l H c') (hD : H D = some (.lst (acc.map em))) (hl : acc.length ≤ 10000) (rx : Is K l H v x)
    (t : bt (ρ.set i (some x)) c' fun k c2 => if k = true then te (ρ.set i (some x)) c2 fun d c3 => ∃ y, d = dk y ∧ N1 (acc ++ [y]) c3 else N1 acc c2)
    (fin : ∀ acc' c2 H2, Keep l H0 H2 → Pool l H2 c2 → H2 D = some (.lst (acc'.map em)) → N1 acc' c2 → Q H2) :
    gName i v (wipe σ [i]) H fun σ2 H2 => wipe σ2 [i] = wipe σ [i] ∧ cnB K l bt σ2 H2 fun b H3 => if b = true then cnE K l te σ2 H3 fun y H4 => ∃ ac, H4 D = some (.lst ac) ∧ ac.length < sizeLine ∧ Q (upd H4 D (.lst (ac ++ [y]))) else Q H3 := by
  obtain ⟨c0, p0⟩ := p0
  have Sx : StX K l H ((wipe σ [i]).set i (some v)) (ρ.set i (some x)) := by
    have e1 : (wipe σ [i]).set i (some v) = σ.set i (some v) := by
      show (σ.set i none).set i (some v) = _
      rw [List.set_set]
    rw [e1]
    exact (S.keep p0 kk).set rx
  refine ⟨?_, ρ.set i (some x), c', _, Sx, p, t, fun k c2 H3 k3 p3 q3 => ?_⟩
  · show (((σ.set i none).set i (some v)).set i none) = σ.set i none
    rw [List.set_set, List.set_set]
  · cases k with
    | true =>
      rw [if_pos rfl] at q3
      refine iteT ⟨ρ.set i (some x), c2, _, Sx.keep p k3, p3, q3, fun y d c3 H4 k4 p4 r4 ⟨w, e, n⟩ => ?_⟩
      subst e
      have ey := hk H4 y w r4
      subst ey
      have hD4 : H4 D = some (.lst (acc.map em)) := (k3.trans k4) D _ nl hD
      refine ⟨_, hD4, by rw [List.length_map]; exact Nat.lt_of_le_of_lt hl (by decide), ?_⟩
      exact fin (acc ++ [w]) c3 _ (keep_put (kk.trans (k3.trans k4)) nD) (pool_put p4 nl) (by rw [upd_same, List.map_append]; rfl) n
    | false =>
      rw [if_neg Bool.false_ne_true] at q3
      exact iteF (fin acc c2 H3 (kk.trans k3) p3 (k3 D _ nl hD) q3)
/-- the source is a tuple -/
def dItT (ta : DE) : DA := fun ρ c P => ta ρ c fun d c1 => ∃ ds, items? d = some ds ∧ P ds c1
/-- a list of ints -/
def dItL (ta : DE) : DA := fun ρ c P => ta ρ c fun d c1 => ∃ xs, d = .lst xs ∧ P (xs.map .int) c1
/-- a range -/
def dItR (tr : DA) : DA := fun ρ c P => tr ρ c fun ds c1 => ∃ n : Nat, ds = [.int (n : Int)] ∧ n ≤ 100000 ∧ P ((List.range n).map fun (j : Nat) => Dt.int (j : Int)) c1
section
variable {α : Type} {dk : α → Dt} {em : α → V} {mk : List α → Dt} {elt iter : Expr} {ifs : List Expr} {nm : Str} {pn : Pos} {scope : Scope} {bt : DB} {te : DE} {i : Nat}
/-- the layer's reading of a comprehension over a tuple -/
theorem lcT_imp {ta : DE} (hk : ∀ (H : Hp) v y, Is K l H v (dk y) → v = em y) (hmk : ∀ (H : Hp) D acc, H D = some (.lst (acc.map em)) → some D ≠ l → Is K l H (.ref D) (mk acc)) (σ : L2.St) (H : Hp) (Q : VK) (h : cnE K l (dLc dk mk (dItT ta) i bt te) σ H Q) :
    tLc (iTup K (cnE K l ta)) (gName i) (cnB K l bt) (cnE K l te) [i] σ H Q := by
  obtain ⟨ρ, c, P, S, p, q, h⟩ := h
  refine ⟨ρ, c, _, S, p, q, fun v d c1 H1 k1 p1 r1 ⟨items, e, R, w0, step, fin⟩ => ?_⟩
  obtain ⟨A, vs, rfl, hA, pr⟩ := items_of r1 e
  refine ⟨A, rfl, ⟨_, hA⟩, fun D nD => ?_⟩
  have nl := new_ne p1 nD
  have hlen : vs.length = items.length := Paired.length pr
  refine lc_tup (K := K) (a := A) (xs := vs) (fun j H' => ∃ acc c', Keep l H1 H' ∧ Pool l H' c' ∧ H' D = some (.lst (acc.map em)) ∧ R j acc c') ⟨[], c1, Keep.new nD, pool_new p1 nD, upd_same, w0⟩ ?_ ?_ ?_
  · rintro j H' _ ⟨_, _, kk, _⟩
    exact sqT_keep p1 kk hA
  · rintro j v H' hj ⟨acc, c', kk, p', hD, w'⟩
    have hji : j < items.length := by
      have z := (List.getElem?_eq_some_iff.mp hj).1
      omega
    obtain ⟨u, e2, rx⟩ := paired_at pr (List.getElem?_eq_getElem hji)
    rw [hj] at e2
    cases e2
    obtain ⟨hl, t⟩ := step j _ acc c' (List.getElem?_eq_getElem hji) w'
    exact lc_turn hk nD nl (S.keep p k1) ⟨_, p1⟩ kk p' hD hl (rx.keep p1 kk) t fun acc' c2 H2 k2 p2 hD2 n2 => ⟨acc', c2, k2, p2, hD2, n2⟩
  · rintro H' ⟨acc, c', kk, p', hD, w'⟩
    rw [hlen] at w'
    exact h _ (mk acc) c' H' (k1.trans kk) p' (hmk H' D acc hD nl) (fin acc c' w')
theorem lcL_imp {ta : DE} (hk : ∀ (H : Hp) v y, Is K l H v (dk y) → v = em y) (hmk : ∀ (H : Hp) D acc, H D = some (.lst (acc.map em)) → some D ≠ l → Is K l H (.ref D) (mk acc)) (σ : L2.St) (H : Hp) (Q : VK) (h : cnE K l (dLc dk mk (dItL ta) i bt te) σ H Q) :
    tLc (iList K (cnE K l ta)) (gName i) (cnB K l bt) (cnE K l te) [i] σ H Q := by
  obtain ⟨ρ, c, P, S, p, q, h⟩ := h
  refine ⟨ρ, c, _, S, p, q, fun v d c1 H1 k1 p1 r1 ⟨xs, e, R, w0, step, fin⟩ => ?_⟩
  subst e
  obtain ⟨A, rfl, hA, nA⟩ := r1
  refine ⟨A, rfl, ⟨_, .of hA⟩, fun D nD => ?_⟩
  have nl := new_ne p1 nD
  refine lc_list (K := K) (a := A) (xs := xs.map V.int) (fun j H' => ∃ acc c', Keep l H1 H' ∧ Pool l H' c' ∧ H' D = some (.lst (acc.map em)) ∧ R j acc c') ⟨[], c1, Keep.new nD, pool_new p1 nD, upd_same, w0⟩ ?_ ?_ ?_
  · rintro j H' _ ⟨_, _, kk, _⟩
    exact .of (kk A _ nA hA)
  · rintro j v H' hj ⟨acc, c', kk, p', hD, w'⟩
    rw [List.getElem?_map] at hj
    cases ej : xs[j]? with
    | none =>
      rw [ej] at hj
      cases hj
    | some y =>
      rw [ej] at hj
      cases hj
      obtain ⟨hl, t⟩ := step j (.int y) acc c' (by rw [List.getElem?_map, ej]; rfl) w'
      exact lc_turn hk nD nl (S.keep p k1) ⟨_, p1⟩ kk p' hD hl (show Is K l H' (V.int y) (.int y) from rfl) t fun acc' c2 H2 k2 p2 hD2 n2 => ⟨acc', c2, k2, p2, hD2, n2⟩
  · rintro H' ⟨acc, c', kk, p', hD, w'⟩
    rw [List.length_map] at w'
    rw [List.length_map] at fin
    exact h _ (mk acc) c' H' (k1.trans kk) p' (hmk H' D acc hD nl) (fin acc c' w')
theorem lcR_imp {tr : DA} (hk : ∀ (H : Hp) v y, Is K l H v (dk y) → v = em y) (hmk : ∀ (H : Hp) D acc, H D = some (.lst (acc.map em)) → some D ≠ l → Is K l H (.ref D) (mk acc)) (σ : L2.St) (H : Hp) (Q : VK) (h : cnE K l (dLc dk mk (dItR tr) i bt te) σ H Q) :
    tLc (iRng1 (cnA K l tr)) (gName i) (cnB K l bt) (cnE K l te) [i] σ H Q := by
  obtain ⟨ρ, c, P, S, p, q, h⟩ := h
  refine ⟨ρ, c, _, S, p, q, fun vs ds c1 H1 k1 p1 r1 ⟨n, e, hn, R, w0, step, fin⟩ => ?_⟩
  subst e
  obtain ⟨v, rfl, rv⟩ := is_one r1
  have rv : v = .int (n : Int) := rv
  subst rv
  refine ⟨(n : Int), rfl, by omega, by omega, fun D nD => ?_⟩
  have nl := new_ne p1 nD
  refine lc_range (lo := 0) (n := (n : Int).toNat) (fun j H' => ∃ acc c', Keep l H1 H' ∧ Pool l H' c' ∧ H' D = some (.lst (acc.map em)) ∧ R j acc c') ⟨[], c1, Keep.new nD, pool_new p1 nD, upd_same, w0⟩ ?_ ?_
  · rintro j H' hj ⟨acc, c', kk, p', hD, w'⟩
    have hj : j < n := by omega
    have e0 : (0 : Int) + (j : Int) = (j : Int) := Int.zero_add _
    rw [e0]
    obtain ⟨hl, t⟩ := step j (.int (j : Int)) acc c' (by rw [List.getElem?_map, List.getElem?_range hj]; rfl) w'
    exact lc_turn hk nD nl (S.keep p k1) ⟨_, p1⟩ kk p' hD hl (show Is K l H' (V.int (j : Int)) (.int (j : Int)) from rfl) t fun acc' c2 H2 k2 p2 hD2 n2 => ⟨acc', c2, k2, p2, hD2, n2⟩
  · rintro H' ⟨acc, c', kk, p', hD, w'⟩
    rw [Int.toNat_natCast] at w'
    rw [List.length_map, List.length_range] at fin
    exact h _ (mk acc) c' H' (k1.trans kk) p' (hmk H' D acc hD nl) (fin acc c' w')
theorem hk_int : ∀ (H : Hp) v y, Is K l H v (Dt.int y) → v = V.int y := fun _ _ _ h => h
theorem hk_bl : ∀ (H : Hp) v y, Is K l H v (Dt.bl y) → v = V.bl y := fun _ _ _ h => h
theorem hm_int : ∀ (H : Hp) D acc, H D = some (.lst (acc.map V.int)) → some D ≠ l → Is K l H (.ref D) (Dt.lst acc) := fun _ D _ h n => ⟨D, rfl, h, n⟩
theorem hm_bl : ∀ (H : Hp) D acc, H D = some (.lst (acc.map V.bl)) → some D ≠ l → Is K l H (.ref D) (Dt.lbs acc) := fun _ D _ h n => ⟨D, rfl, h, n⟩
abbrev dLcI := @dLc Int Dt.int Dt.lst
abbrev dLcB := @dLc Bool Dt.bl Dt.lbs
/-- in every block of the comprehension -/
abbrev Blk (X : Cx) (scope : Scope) (F : Cx → Prop) : Prop := ∀ (s : Shared) (H : Hp) (C : Addr) (cl : List (Str × Addr)) (fp : List Addr), F (X.blk s H scope (compEnvC scope cl C X.env) fp)
theorem pd_lcT (i : Nat) (hc : X.calm = true) (hN : X.N.Nodup) (ha : PD K l X iter ta) (ok : BlkOk X.N X.env.scope scope [(nm, i)]) (ht : Blk X scope fun Y => PIf K l Y ifs bt) (he : Blk X scope fun Y => PD K l Y elt te)
    (hg : Blk X scope fun Y => PG Y (.Name nm pn) (gName i) := by intro _ _ _ _ _; exact pg_name (by assumption) rfl (Or.inl rfl)) (hs : ∀ x, foldedSetIterable iter X.env x = pure x := by intro _; rfl) :
    PD K l X (.ListComp elt [⟨.Name nm pn, iter, ifs, 0⟩] scope pos) (dLcI (dItT ta) i bt te) := by
  have k := ha.k
  subst k
  exact ⟨rfl, (pe_lc hc hN (pi_tup ha.pe) ok hg (fun s H C cl fp => (ht s H C cl fp).pt) (fun s H C cl fp => (he s H C cl fp).pe) hs).imp (lcT_imp hk_int hm_int)⟩
theorem pd_lcTB (i : Nat) (hc : X.calm = true) (hN : X.N.Nodup) (ha : PD K l X iter ta) (ok : BlkOk X.N X.env.scope scope [(nm, i)]) (ht : Blk X scope fun Y => PIf K l Y ifs bt) (he : Blk X scope fun Y => PD K l Y elt te)
    (hg : Blk X scope fun Y => PG Y (.Name nm pn) (gName i) := by intro _ _ _ _ _; exact pg_name (by assumption) rfl (Or.inl rfl)) (hs : ∀ x, foldedSetIterable iter X.env x = pure x := by intro _; rfl) :
    PD K l X (.ListComp elt [⟨.Name nm pn, iter, ifs, 0⟩] scope pos) (dLcB (dItT ta) i bt te) := by
  have k := ha.k
  subst k
  exact ⟨rfl, (pe_lc hc hN (pi_tup ha.pe) ok hg (fun s H C cl fp => (ht s H C cl fp).pt) (fun s H C cl fp => (he s H C cl fp).pe) hs).imp (lcT_imp hk_bl hm_bl)⟩
theorem pd_lcL (i : Nat) (hc : X.calm = true) (hN : X.N.Nodup) (ha : PD K l X iter ta) (ok : BlkOk X.N X.env.scope scope [(nm, i)]) (ht : Blk X scope fun Y => PIf K l Y ifs bt) (he : Blk X scope fun Y => PD K l Y elt te)
    (hg : Blk X scope fun Y => PG Y (.Name nm pn) (gName i) := by intro _ _ _ _ _; exact pg_name (by assumption) rfl (Or.inl rfl)) (hs : ∀ x, foldedSetIterable iter X.env x = pure x := by intro _; rfl) :
    PD K l X (.ListComp elt [⟨.Name nm pn, iter, ifs, 0⟩] scope pos) (dLcI (dItL ta) i bt te) := by
  have k := ha.k
  subst k
  exact ⟨rfl, (pe_lc hc hN (pi_list ha.pe) ok hg (fun s H C cl fp => (ht s H C cl fp).pt) (fun s H C cl fp => (he s H C cl fp).pe) hs).imp (lcL_imp hk_int hm_int)⟩
theorem pd_lcR (i : Nat) {pr p2 : Pos} (hc : X.calm = true) (hN : X.N.Nodup) (hm : X.mg "range" = none) (ha : PAr K l X [a] tr) (ok : BlkOk X.N X.env.scope scope [(nm, i)]) (ht : Blk X scope fun Y => PIf K l Y ifs bt) (he : Blk X scope fun Y => PD K l Y elt te)
    (hgr : Gl X "range" := by rfl) (hse : starEach [a] X.env = [(false, eval a X.env)] := by rfl) (hg : Blk X scope fun Y => PG Y (.Name nm pn) (gName i) := by intro _ _ _ _ _; exact pg_name (by assumption) rfl (Or.inl rfl))
    (hs : ∀ x, foldedSetIterable (.Call (.Name "range" pr) [a] [] p2) X.env x = pure x := by intro _; rfl) :
    PD K l X (.ListComp elt [⟨.Name nm pn, .Call (.Name "range" pr) [a] [] p2, ifs, 0⟩] scope pos) (dLcI (dItR tr) i bt te) := by
  have k := ha.k
  subst k
  exact ⟨rfl, (pe_lc hc hN (pi_range1 hgr hm ha.pa hse) ok hg (fun s H C cl fp => (ht s H C cl fp).pt) (fun s H C cl fp => (he s H C cl fp).pe) hs).imp (lcR_imp hk_int hm_int)⟩
/-- y = [..] -/
theorem st_lcT (y : Nat) {yn : Str} {py spos : Pos} (i : Nat) (hc : X.calm = true) (hN : X.N.Nodup) (ha : PD K l X iter ta) (ok : BlkOk X.N X.env.scope scope [(nm, i)]) (ht : Blk X scope fun Y => PIf K l Y ifs bt) (he : Blk X scope fun Y => PD K l Y elt te)
    (hsw : swapsWith (.ListComp elt [⟨.Name nm pn, iter, ifs, 0⟩] scope pos) (some (.Name yn py)) spos.line X.env = pure true) (hy : X.N[y]? = some yn := by rfl) (hyl : X.env.scope.names.lookup yn = some .local := by rfl)
    (hg : Blk X scope fun Y => PG Y (.Name nm pn) (gName i) := by intro _ _ _ _ _; exact pg_name (by assumption) rfl (Or.inl rfl)) (hs : ∀ x, foldedSetIterable iter X.env x = pure x := by intro _; rfl) :
    PSt K l X (.Assign [.Name yn py] (.ListComp elt [⟨.Name nm pn, iter, ifs, 0⟩] scope pos) spos) (dSet y (dLcI (dItT ta) i bt te)) := by
  have k := ha.k
  subst k
  refine ⟨rfl, (ps_setLc hc hN hy hyl hsw (pi_tup ha.pe) ok hg (fun s H C cl fp => (ht s H C cl fp).pt) (fun s H C cl fp => (he s H C cl fp).pe) hs).imp fun D σ H ⟨ρ, c, E, S, p, q, w1, w2⟩ => ?_⟩
  exact lcT_imp hk_int hm_int σ H _ ⟨ρ, c, fun d c1 => E.nx (ρ.set y (some d)) c1, S, p, q, fun v d c1 H1 k1 p1 r1 q1 => w1 _ _ c1 H1 k1 p1 ((S.keep p k1).set r1) q1⟩
theorem st_lcR (y : Nat) {yn : Str} {py spos pr p2 : Pos} (i : Nat) (hc : X.calm = true) (hN : X.N.Nodup) (hm : X.mg "range" = none) (ha : PAr K l X [a] tr) (ok : BlkOk X.N X.env.scope scope [(nm, i)]) (ht : Blk X scope fun Y => PIf K l Y ifs bt) (he : Blk X scope fun Y => PD K l Y elt te)
    (hsw : swapsWith (.ListComp elt [⟨.Name nm pn, .Call (.Name "range" pr) [a] [] p2, ifs, 0⟩] scope pos) (some (.Name yn py)) spos.line X.env = pure true) (hy : X.N[y]? = some yn := by rfl) (hyl : X.env.scope.names.lookup yn = some .local := by rfl)
    (hgr : Gl X "range" := by rfl) (hse : starEach [a] X.env = [(false, eval a X.env)] := by rfl)
    (hg : Blk X scope fun Y => PG Y (.Name nm pn) (gName i) := by intro _ _ _ _ _; exact pg_name (by assumption) rfl (Or.inl rfl)) (hs : ∀ x, foldedSetIterable (.Call (.Name "range" pr) [a] [] p2) X.env x = pure x := by intro _; rfl) :
    PSt K l X (.Assign [.Name yn py] (.ListComp elt [⟨.Name nm pn, .Call (.Name "range" pr) [a] [] p2, ifs, 0⟩] scope pos) spos) (dSet y (dLcI (dItR tr) i bt te)) := by
  have k := ha.k
  subst k
  refine ⟨rfl, (ps_setLc hc hN hy hyl hsw (pi_range1 hgr hm ha.pa hse) ok hg (fun s H C cl fp => (ht s H C cl fp).pt) (fun s H C cl fp => (he s H C cl fp).pe) hs).imp fun D σ H ⟨ρ, c, E, S, p, q, w1, w2⟩ => ?_⟩
  exact lcR_imp hk_int hm_int σ H _ ⟨ρ, c, fun d c1 => E.nx (ρ.set y (some d)) c1, S, p, q, fun v d c1 H1 k1 p1 r1 q1 => w1 _ _ c1 H1 k1 p1 ((S.keep p k1).set r1) q1⟩
end
end

/-! ### comprehensions whose items go one by one -/
theorem item_of {β : Type} {dk : β → Dt} {xs : List β} {j : Nat} {x : Dt} (h : (xs.map dk)[j]? = some x) : ∃ y, xs[j]? = some y ∧ x = dk y := by
  rw [List.getElem?_map] at h
  cases e : xs[j]? with
  | none =>
    rw [e] at h
    cases h
  | some y =>
    rw [e] at h
    exact ⟨y, rfl, (Option.some.inj h).symm⟩
theorem take_one {β : Type} {xs : List β} {j : Nat} {y : β} (h : xs[j]? = some y) : xs.take (j + 1) = xs.take j ++ [y] := by
  rw [List.take_add_one, h]
  rfl
/-- each item y of xs, dk y to walk over, gives a filter and an item made -/
theorem lcb_gen {α β : Type} {da : α → Dt} {mk : List α → Dt} {dk : β → Dt} {i c : Nat} {bt : DB} {te : DE} {ρ : Dv} {P : Dt → Nat → Prop} {xs : List β} (p : β → Bool) (g : β → α) (hl : xs.length ≤ 10000)
    (hb : ∀ y ∈ xs, ∀ Q : Bool → Nat → Prop, Q (p y) c → bt (ρ.set i (some (dk y))) c Q) (he : ∀ y ∈ xs, p y = true → ∀ Q : Dt → Nat → Prop, Q (da (g y)) c → te (ρ.set i (some (dk y))) c Q)
    (k : P (mk ((xs.filter p).map g)) c) : LcB da mk i bt te ρ (xs.map dk) c P := by
  refine ⟨fun j acc c' => c' = c ∧ acc = ((xs.take j).filter p).map g, ⟨rfl, rfl⟩, ?_, ?_⟩
  · rintro j x acc c' hj ⟨rfl, rfl⟩
    obtain ⟨y, hy, rfl⟩ := item_of hj
    have hm := List.mem_of_getElem? hy
    refine ⟨?_, hb y hm _ ?_⟩
    · rw [List.length_map]
      refine Nat.le_trans (List.length_filter_le _ _) (Nat.le_trans ?_ hl)
      rw [List.length_take]
      omega
    · cases e : p y with
      | true =>
        rw [if_pos rfl]
        refine he y hm e _ ⟨g y, rfl, rfl, ?_⟩
        rw [take_one hy, List.filter_append, List.filter_cons, e, if_pos rfl, List.map_append]
        rfl
      | false =>
        rw [if_neg Bool.false_ne_true]
        refine ⟨rfl, ?_⟩
        rw [take_one hy, List.filter_append, List.filter_cons, e, if_neg Bool.false_ne_true, List.filter_nil, List.append_nil]
  · rintro acc c' ⟨rfl, rfl⟩
    rw [List.length_map, List.take_length]
    exact k
theorem lcb_map {α β : Type} {da : α → Dt} {mk : List α → Dt} {dk : β → Dt} {i c : Nat} {te : DE} {ρ : Dv} {P : Dt → Nat → Prop} {xs : List β} (g : β → α) (hl : xs.length ≤ 10000)
    (he : ∀ y ∈ xs, ∀ Q : Dt → Nat → Prop, Q (da (g y)) c → te (ρ.set i (some (dk y))) c Q) (k : P (mk (xs.map g)) c) : LcB da mk i dYes te ρ (xs.map dk) c P := by
  refine lcb_gen (fun _ => true) g hl (fun _ _ Q q => q) (fun y hy _ => he y hy) ?_
  have e : xs.filter (fun _ => true) = xs := List.filter_eq_self.mpr fun _ _ => rfl
  rw [e]
  exact k

/-! ### a whole def -/
section
variable {P : Program} {w : World} {K : PySem.W.Frag} {mg : Str → Option Value} {base : Heap}
/-- a def of the text as it stands behind the top, and its binding -/
structure Df (K : PySem.W.Frag) (mg : Str → Option Value) (x : Str) (st : Stmt) (f : Addr) (fd : FuncData) : Prop where
  fn : Fun K x x st f fd
  at_ : mg x = some (.ref f)
theorem start_StX {l : Option Addr} {H : Hp} {N : List Str} {vs : List V} {ds : List Dt} (h : Paired (Is K l H) vs ds) : StX K l H (L2.start N vs) (ds.map some ++ List.replicate (N.length - ds.length) none) := by
  have hl := Paired.length h
  refine ⟨by unfold L2.start; simp [hl], fun i d e => ?_⟩
  unfold L2.start
  by_cases hi : i < ds.length
  · rw [List.getElem?_append_left (by simpa using hi), List.getElem?_map] at e
    cases q : ds[i]? with
    | none =>
      rw [q] at e
      cases e
    | some d' =>
      rw [q] at e
      cases e
      obtain ⟨v, e2, r⟩ := paired_at h q
      exact ⟨v, by rw [List.getElem?_append_left (by rw [List.length_map, hl]; exact hi), List.getElem?_map, e2]; rfl, r⟩
  · rw [List.getElem?_append_right (by simpa using hi), List.getElem?_replicate] at e
    split at e <;> cases e
abbrev slots (N : List Str) (ds : List Dt) : Dv := ds.map some ++ List.replicate (N.length - ds.length) none
/-- THE RULE for a def that takes and tells flat things -/
theorem fnok_of {x : Str} {st : Stmt} {f : Addr} {fd : FuncData} {N ps : List Str} {k : Nat} {R : Rel} (D : Df K mg x st f fd) (S : FnScope N ps (defScope st)) (len : ∀ ds r, R ds r → ds.length = ps.length)
    (body : ∀ (cdv : Value) (A : Around) (fr : List Env) (s : Shared) (H : Hp) (E : XK) (ds : List Dt) (r : Dt), Room k (A.deeper (envOfC x (defScope st) s.heap.objs.size f cdv)) → R ds r →
      ∃ t, PSts K none (cxOf CX0 P w K mg base N x (defScope st) f cdv A fr s H E).nox (defBody st) t ∧ t { nx := fun _ _ => r = .non, rt := fun d _ => d = r } (slots N ds) 0) : FnOk P w K mg base CX0 (k + 1) f fd ps (spP K R) := by
  refine D.fn.ok S (fun vs H Q E ⟨ds, r, h1, h2, _⟩ => (Paired.length h1).trans (len ds r h2)) fun cdv A fr s H vs Q E hr h => ?_
  obtain ⟨ds, r, h1, h2, h3⟩ := h
  obtain ⟨t, hT, q⟩ := body cdv A fr s H E ds r hr h2
  refine ⟨_, hT.ps, slots N ds, 0, _, start_StX h1, trivial, q, fun σ' ρ' c' H' k' p' S' e => ?_, fun v d c' H' k' p' r' e => ?_⟩
  · subst e
    exact h3 .non H' k' rfl
  · subst e
    exact h3 v H' k' r'
theorem kp_of {x : Str} {st : Stmt} {f : Addr} {fd : FuncData} {N ps : List Str} {k : Nat} {R : Rel} (D : Df K mg x st f fd) (S : FnScope N ps (defScope st)) (hb : Binds K fd ps []) (len : ∀ ds r, R ds r → ds.length = ps.length) (fl : ∀ ds r, R ds r → (∀ d ∈ ds, flat d = true) ∧ flat r = true)
    (body : ∀ (cdv : Value) (A : Around) (fr : List Env) (s : Shared) (H : Hp) (E : XK) (ds : List Dt) (r : Dt), Room k (A.deeper (envOfC x (defScope st) s.heap.objs.size f cdv)) → R ds r →
      ∃ t, PSts K none (cxOf CX0 P w K mg base N x (defScope st) f cdv A fr s H E).nox (defBody st) t ∧ t { nx := fun _ _ => r = .non, rt := fun d _ => d = r } (slots N ds) 0) : KP P w K mg base x (k + 1) R :=
  ⟨⟨f, fd, ps, D.at_, D.fn.kp, hb, fnok_of D S len body⟩, fl⟩
/-- .. for one that turns the pool -/
theorem kl_of {x : Str} {st : Stmt} {f : Addr} {fd : FuncData} {N ps : List Str} {k : Nat} {A : Pre} {C : Post} (D : Df K mg x st f fd) (S : FnScope N ps (defScope st)) (hb : Binds K fd ps []) (len : ∀ ds c, A ds c → ds.length = ps.length)
    (body : ∀ (a0 : Addr) (cdv : Value) (Ar : Around) (fr : List Env) (s : Shared) (H : Hp) (E : XK) (ds : List Dt) (c : Nat), Room k (Ar.deeper (envOfC x (defScope st) s.heap.objs.size f cdv)) → A ds c →
      ∃ t, PSts K (some a0) (cxOf CX0 P w K mg base N x (defScope st) f cdv Ar fr s H E).nox (defBody st) t ∧ t { nx := fun _ c' => C ds c .non c', rt := fun d c' => C ds c d c' } (slots N ds) c) : KL P w K mg base x (k + 1) A C := by
  refine ⟨⟨f, fd, ps, D.at_, D.fn.kp, hb, D.fn.ok S (fun vs H Q E ⟨a, ds, c, h1, _, h2, _⟩ => (Paired.length h1).trans (len ds c h2)) fun cdv Ar fr s H vs Q E hr h => ?_⟩⟩
  obtain ⟨a0, ds, c, h1, p, h2, h3⟩ := h
  obtain ⟨t, hT, q⟩ := body a0 cdv Ar fr s H E ds c hr h2
  refine ⟨_, hT.ps, slots N ds, c, _, start_StX h1, p, q, fun σ' ρ' c' H' k' p' S' e => ?_, fun v d c' H' k' p' r' e => ?_⟩
  · exact h3 .non .non c' H' k' p' rfl e
  · exact h3 v d c' H' k' p' r' e
end
end K12
/-! The first defs: pairs, dot, cross. -/
namespace K12
open PySem PySem.Spec PyProof.Rows L2

def topS (i : Nat) : Stmt := PySem.Challenge.pw_leafglobe_k12_whole_turned_to_goals.main.body.getD i (.Pass ⟨0, 0, 0, 0⟩)
/-- no name of a built-in is taken -/
structure Blt (mg : Str → Option Value) : Prop where
  abs_ : mg "abs" = none
  isinstance_ : mg "isinstance" = none
  tuple_ : mg "tuple" = none
  len_ : mg "len" = none
  all_ : mg "all" = none
  sum_ : mg "sum" = none
  range_ : mg "range" = none
  max_ : mg "max" = none
  min_ : mg "min" = none
  repr_ : mg "repr" = none
  int_ : mg "int" = none
  bool_ : mg "bool" = none

/-! ### sizes -/
class Bd (i : Int) (n : outParam Nat) : Prop where
  h : i.natAbs < 2 ^ n
theorem pow_le {n m : Nat} (h : n ≤ m) : (2 : Nat) ^ n ≤ 2 ^ m := Nat.pow_le_pow_right (by decide) h
instance {i j : Int} {n m : Nat} [a : Bd i n] [b : Bd j m] : Bd (i + j) (max n m + 1) := ⟨by
  have h1 := Nat.lt_of_lt_of_le a.h (pow_le (Nat.le_max_left n m))
  have h2 := Nat.lt_of_lt_of_le b.h (pow_le (Nat.le_max_right n m))
  rw [Nat.pow_succ]
  omega⟩
instance {i j : Int} {n m : Nat} [a : Bd i n] [b : Bd j m] : Bd (i - j) (max n m + 1) := ⟨by
  have h1 := Nat.lt_of_lt_of_le a.h (pow_le (Nat.le_max_left n m))
  have h2 := Nat.lt_of_lt_of_le b.h (pow_le (Nat.le_max_right n m))
  rw [Nat.pow_succ]
  omega⟩
instance {i j : Int} {n m : Nat} [a : Bd i n] [b : Bd j m] : Bd (i * j) (n + m) := ⟨wide_lt a.h b.h⟩
instance {i : Int} {n : Nat} [a : Bd i n] : Bd (-i) n := ⟨by rw [Int.natAbs_neg]; exact a.h⟩
instance : Bd 0 1 := ⟨by decide⟩
instance : Bd 1 1 := ⟨by decide⟩
instance : Bd 2 2 := ⟨by decide⟩
theorem Bd.le {i : Int} {n m : Nat} (a : Bd i n) (h : n ≤ m) : i.natAbs < 2 ^ m := Nat.lt_of_lt_of_le a.h (pow_le h)
theorem mul_ok {i j : Int} {n m : Nat} [a : Bd i n] [b : Bd j m] (h : n + m ≤ 999990 := by decide) : CMulW i j :=
  wide_mul (a.le (Nat.le_succ n)) (b.le (Nat.le_succ m)) (Nat.succ_pos n) (Nat.succ_pos m) (by omega)
/-- all numbers of a row -/
def Sml (n : Nat) (xs : List Int) : Prop := ∀ x ∈ xs, x.natAbs < 2 ^ n

/-! ### items of rows -/
theorem atI_0 {a : Int} {r : List Int} : atI (a :: r) 0 = some a := atI_nat (j := 0) rfl
theorem atI_1 {a b : Int} {r : List Int} : atI (a :: b :: r) 1 = some b := atI_nat (j := 1) rfl
theorem atI_2 {a b c : Int} {r : List Int} : atI (a :: b :: c :: r) 2 = some c := atI_nat (j := 2) rfl
theorem atI_3 {a b c d : Int} {r : List Int} : atI (a :: b :: c :: d :: r) 3 = some d := atI_nat (j := 3) rfl
theorem abs_nn (a : Int) : 0 ≤ (if a < 0 then -a else a) := by split <;> omega
theorem abs_gcd (a b : Int) : Int.gcd (if a < 0 then -a else a) (if b < 0 then -b else b) = Int.gcd a b := by
  unfold Int.gcd
  congr 1 <;> split <;> simp
theorem gcd_turn (x y : Int) : Int.gcd (x % y) y = Int.gcd x y := by
  have e : x = y * (x / y) + x % y := (Int.mul_ediv_add_emod x y).symm
  conv => rhs; rw [e, Int.add_comm, Int.gcd_add_mul_left_left]
theorem gF_app (l : List Int) (g : Nat) (x : Int) : gF g (l ++ [x]) = Nat.gcd (gF g l) x.natAbs := by
  unfold gF
  rw [List.foldl_append]
  rfl

local macro_rules | `(tactic| walk_at "rd") => `(tactic| simp (maxSteps := 2000000) only [dSeq, dRet, dSet, dAsg, dIfS, dDo, dNever, dNext, dPar, dOp, dI, dIc, dIb, dTb, dNotB, dStr, dNeg, dIx, dIxL, dIxR, dVar, dC, dCons, dNil, dCa, dLen, dAbs, dMax, dMin, dIntB, dTupOf, dSum, dAll, dIsi, isInt, isBl, isTup, dAndV, dNotV, dB, dNot, dAnd, dOr, dIf, dCall, dTupI, dTupR, dLstI, dLstR, ints?, tups?, dTake, dDrop, dCatT, dCatL, dItT, dItL, dItR, items?, dLc, dForT, dForR, gN, gN0, gN1, gT, gS, slots,
  atI_0, atI_1, atI_2, atI_3, List.map_cons, List.map_nil, List.length_cons, List.length_nil, List.replicate, List.cons_append, List.nil_append, List.append_nil, List.getElem?_cons_zero, List.getElem?_cons_succ, List.set_cons_zero, List.set_cons_succ, Option.some.injEq, Option.map_some, Dt.int.injEq, Dt.bl.injEq, Dt.tup.injEq, Dt.lst.injEq, Dt.lbs.injEq, Dt.rows.injEq, Dt.str.injEq, List.cons.injEq, List.take_succ_cons, List.take_zero, List.drop_succ_cons, List.drop_zero,
  exists_eq_left, exists_eq_left', exists_and_left, exists_and_right, and_true, true_and, reduceCtorEq, false_and, false_or, or_false, exists_false, exists_const, and_self, and_assoc, Nat.reduceAdd, Nat.reduceSub, Nat.reduceLT, Nat.reduceLeDiff, Nat.zero_add, ne_eq, not_false_eq_true, Bool.not_false, Bool.not_true, if_true, if_false, if_pos, Bool.false_eq_true])
section
variable {P : Program} {w : World} {K : PySem.W.Frag} {mg : Str → Option Value} {base : Heap} {f : Addr} {fd : FuncData}

abbrev s_is_whole : Stmt := topS 6
abbrev N_is_whole : List Str := ["thing"]
theorem sc_is_whole : FnScope N_is_whole ["thing"] (defScope s_is_whole) := ⟨rfl, rfl, rfl, by decide +kernel, rfl, by decide +kernel, by decide +kernel⟩
def R_is_whole : Rel := fun ds r => ∃ i, ds = [.int i] ∧ r = .bl true
theorem kp_is_whole (D : Df K mg "is_whole" s_is_whole f fd) (B : Blt mg) : KP P w K mg base "is_whole" 1 R_is_whole := by
  refine kp_of D sc_is_whole (D.fn.binds fun _ _ _ _ _ _ us hl => match us, hl with | [_], _ => rfl) (by rintro ds r ⟨i, rfl, rfl⟩; rfl) (by rintro ds r ⟨i, rfl, rfl⟩; simp [flat]) fun cdv A fr s H E ds r hr h => ?_
  obtain ⟨i, rfl, rfl⟩ := h
  refine ⟨_, (ps_1 (st_ret (pd_and (pd_isi isi_int B.isinstance_ B.int_ (by decide +kernel) (pd_v 0)) (pd_one (pd_not (pd_isi isi_bl B.isinstance_ B.bool_ (by decide +kernel) (pd_v 0))))))), ?_⟩
  walk_at "rd"

abbrev s_are_whole : Stmt := topS 7
abbrev N_are_whole : List Str := ["thing", "many", "part"]
theorem sc_are_whole : FnScope N_are_whole ["thing", "many"] (defScope s_are_whole) := ⟨rfl, rfl, rfl, by decide +kernel, rfl, by decide +kernel, by decide +kernel⟩
def R_are_whole : Rel := fun ds r => ∃ xs n, ds = [.tup xs, .int n] ∧ xs.length ≤ 10000 ∧ r = .bl (decide ((xs.length : Int) = n))
theorem kp_are_whole (D : Df K mg "are_whole" s_are_whole f fd) (B : Blt mg) (F_is_whole : KP P w K mg base "is_whole" 1 R_is_whole) : KP P w K mg base "are_whole" 2 R_are_whole := by
  refine kp_of D sc_are_whole (D.fn.binds fun _ _ _ _ _ _ us hl => match us, hl with | [_, _], _ => rfl) (by rintro ds r ⟨xs, n, rfl, hl, rfl⟩; rfl) (by rintro ds r ⟨xs, n, rfl, hl, rfl⟩; simp [flat]) fun cdv A fr s H E ds r hr h => ?_
  obtain ⟨xs, n, rfl, hl, rfl⟩ := h
  refine ⟨_, (ps_1 (st_ret (pd_and (pd_isi isi_tup B.isinstance_ B.tuple_ (by decide +kernel) (pd_v 0)) (pd_and (pd_eq (pd_callB call_len_seq cad_len B.len_ (by decide +kernel) (pa_1 (pd_v 0) pa_0)) (pd_v 1)) (pd_one (pd_callB (cr_all rfl) cad_all B.all_ (by decide +kernel) (pa_1 (pd_lcTB 2 rfl sc_are_whole.nd (pd_v 0) (blkOk_by (N := N_are_whole) (sc := defScope s_are_whole) (by decide +kernel)) (fun _ _ _ _ _ => if_0) (fun _ _ _ _ _ => (pd_call F_is_whole hr (pa_1 (pd_v 2) pa_0))) (hg := fun _ _ _ _ _ => pg_name (i := 2) sc_are_whole.nd rfl (Or.inl rfl))) pa_0))))))), ?_⟩
  walk_at "rd"
  by_cases e : (xs.length : Int) = n
  · rw [decide_eq_true e, if_pos rfl]
    refine lcb_map (fun _ => true) hl (fun y _ Q q => ?_) ?_
    · walk_at "rd"
      exact ⟨_, ⟨y, rfl, rfl⟩, q⟩
    · exact ⟨_, rfl, by simp⟩
  · rw [decide_eq_false e, if_neg Bool.false_ne_true]

abbrev s_shared_part : Stmt := topS 8
abbrev N_shared_part : List Str := ["one", "other"]
theorem sc_shared_part : FnScope N_shared_part ["one", "other"] (defScope s_shared_part) := ⟨rfl, rfl, rfl, by decide +kernel, rfl, by decide +kernel, by decide +kernel⟩
def R_shared_part : Rel := fun ds r => ∃ a b, ds = [.int a, .int b] ∧ r = .int (Int.gcd a b)
theorem kp_shared_part (D : Df K mg "shared_part" s_shared_part f fd) (B : Blt mg) : KP P w K mg base "shared_part" 1 R_shared_part := by
  refine kp_of D sc_shared_part (D.fn.binds fun _ _ _ _ _ _ us hl => match us, hl with | [_, _], _ => rfl) (by rintro ds r ⟨a, b, rfl, rfl⟩; rfl) (by rintro ds r ⟨a, b, rfl, rfl⟩; simp [flat]) fun cdv A fr s H E ds r hr h => ?_
  obtain ⟨a, b, rfl, rfl⟩ := h
  refine ⟨_, (ps_2 (st_par 0 1 rfl sc_shared_part.nd (pa_1 (pd_callB call_abs cad_abs B.abs_ (by decide +kernel) (pa_1 (pd_v 0) pa_0)) (pa_1 (pd_callB call_abs cad_abs B.abs_ (by decide +kernel) (pa_1 (pd_v 1) pa_0)) pa_0)))
      (ps_2 (st_while PassesOwn.never (pb_ne (pd_v 1) pd_int) (ps_1 (st_par 0 1 rfl sc_shared_part.nd (pa_1 (pd_v 1) (pa_1 (pd_mod (pd_v 0) (pd_v 1)) pa_0)))))
      (ps_1 (st_ret (pd_v 0))))), ?_⟩
  walk_at "rd"
  refine ⟨fun m ρ => ∃ x y : Int, ρ = [some (.int x), some (.int y)] ∧ 0 ≤ x ∧ 0 ≤ y ∧ Int.gcd x y = Int.gcd a b ∧ m = y.toNat, ⟨_, _, _, rfl, abs_nn a, abs_nn b, abs_gcd a b, rfl⟩, ?_⟩
  rintro m ρ c ⟨x, y, rfl, hx, hy, hg, rfl⟩
  walk_at "rd"
  by_cases e : y = 0
  · subst e
    simp only [decide_true, Bool.not_true, Bool.false_eq_true, if_false]
    rw [← hg]
    simp [Int.gcd]
    omega
  · rw [decide_eq_false e, Bool.not_false, if_pos rfl]
    refine ⟨_, ?_, by omega, rfl⟩
    rintro ρ' rfl
    have h2 := Int.emod_nonneg x e
    have h3 := Int.emod_lt_of_pos x (show 0 < y by omega)
    refine ⟨_, ?_, y, x % y, rfl, hy, h2, ?_, rfl⟩
    · omega
    · rw [← hg, Int.gcd_comm y]
      exact gcd_turn x y

abbrev s_part_of_all : Stmt := topS 9
abbrev N_part_of_all : List Str := ["row", "found", "number"]
theorem sc_part_of_all : FnScope N_part_of_all ["row"] (defScope s_part_of_all) := ⟨rfl, rfl, rfl, by decide +kernel, rfl, by decide +kernel, by decide +kernel⟩
def R_part_of_all : Rel := fun ds r => ∃ xs, ds = [.tup xs] ∧ r = .int (gcdL xs)
theorem kp_part_of_all (D : Df K mg "part_of_all" s_part_of_all f fd) (B : Blt mg) (F_shared_part : KP P w K mg base "shared_part" 1 R_shared_part) : KP P w K mg base "part_of_all" 2 R_part_of_all := by
  refine kp_of D sc_part_of_all (D.fn.binds fun _ _ _ _ _ _ us hl => match us, hl with | [_], _ => rfl) (by rintro ds r ⟨xs, rfl, rfl⟩; rfl) (by rintro ds r ⟨xs, rfl, rfl⟩; simp [flat]) fun cdv A fr s H E ds r hr h => ?_
  obtain ⟨xs, rfl, rfl⟩ := h
  refine ⟨_, (ps_2 (st_set 1 sc_part_of_all.nd pd_int)
      (ps_2 (st_forT 2 PassesOwn.never rfl sc_part_of_all.nd (pd_v 0) (ps_1 (st_set 1 sc_part_of_all.nd (pd_call F_shared_part hr (pa_1 (pd_v 1) (pa_1 (pd_v 2) pa_0))))))
      (ps_1 (st_ret (pd_v 1))))), ?_⟩
  walk_at "rd"
  refine ⟨fun j ρ _ => ∃ o, ρ = [some (.tup xs), some (.int (gF 0 (xs.take j) : Nat)), o], ⟨_, rfl⟩, ?_, ?_⟩
  · rintro j x ρ c hj ⟨o, rfl⟩
    walk_at "rd"
    refine ⟨_, ⟨_, _, rfl, rfl⟩, ?_⟩
    rw [take_one hj, gF_app]
    exact ⟨rfl, _, rfl⟩
  · rintro ρ c ⟨o, rfl⟩
    walk_at "rd"
    rw [List.take_length]
    rfl

abbrev s_lowest_row : Stmt := topS 10
abbrev N_lowest_row : List Str := ["row", "part", "number"]
theorem sc_lowest_row : FnScope N_lowest_row ["row"] (defScope s_lowest_row) := ⟨rfl, rfl, rfl, by decide +kernel, rfl, by decide +kernel, by decide +kernel⟩
def R_lowest_row : Rel := fun ds r => ∃ xs, ds = [.tup xs] ∧ xs.length ≤ 10000 ∧ gcdL xs ≠ 0 ∧ gcdL xs < 2 ^ 9000 ∧ r = .tup (low xs)
theorem kp_lowest_row (D : Df K mg "lowest_row" s_lowest_row f fd) (B : Blt mg) (F_part_of_all : KP P w K mg base "part_of_all" 2 R_part_of_all) : KP P w K mg base "lowest_row" 3 R_lowest_row := by
  refine kp_of D sc_lowest_row (D.fn.binds fun _ _ _ _ _ _ us hl => match us, hl with | [_], _ => rfl) (by rintro ds r ⟨xs, rfl, hl, h0, hg, rfl⟩; rfl) (by rintro ds r ⟨xs, rfl, hl, h0, hg, rfl⟩; simp [flat]) fun cdv A fr s H E ds r hr h => ?_
  obtain ⟨xs, rfl, hl, h0, hg, rfl⟩ := h
  refine ⟨_, (ps_2 (st_set 1 sc_lowest_row.nd (pd_call F_part_of_all hr (pa_1 (pd_v 0) pa_0)))
      (ps_1 (st_ret (pd_callTy call_tuple_of cad_tupOf B.tuple_ (by decide +kernel) (pa_1 (pd_lcT 2 rfl sc_lowest_row.nd (pd_v 0) (blkOk_by (N := N_lowest_row) (sc := defScope s_lowest_row) (by decide +kernel)) (fun _ _ _ _ _ => if_0) (fun _ _ _ _ _ => (pd_div (pd_v 2) (pd_v 1))) (hg := fun _ _ _ _ _ => pg_name (i := 2) sc_lowest_row.nd rfl (Or.inl rfl))) pa_0))))), ?_⟩
  walk_at "rd"
  refine ⟨_, ⟨xs, rfl, rfl⟩, ?_⟩
  refine lcb_map (fun x => x / (gcdL xs : Int)) hl (fun y _ Q q => ?_) ?_
  · walk_at "rd"
    exact ⟨wide_div (b := 9000) (by omega) (by rw [Int.natAbs_natCast]; exact hg) (by decide) (by decide), q⟩
  · exact ⟨_, rfl, rfl⟩

abbrev s_is_lowest : Stmt := topS 11
abbrev N_is_lowest : List Str := ["thing", "many"]
theorem sc_is_lowest : FnScope N_is_lowest ["thing", "many"] (defScope s_is_lowest) := ⟨rfl, rfl, rfl, by decide +kernel, rfl, by decide +kernel, by decide +kernel⟩
def R_is_lowest : Rel := fun ds r => ∃ xs n, ds = [.tup xs, .int n] ∧ xs.length ≤ 10000 ∧ r = .bl (decide ((xs.length : Int) = n) && decide (gcdL xs = 1))
theorem kp_is_lowest (D : Df K mg "is_lowest" s_is_lowest f fd) (B : Blt mg) (F_are_whole : KP P w K mg base "are_whole" 2 R_are_whole) (F_part_of_all : KP P w K mg base "part_of_all" 2 R_part_of_all) : KP P w K mg base "is_lowest" 3 R_is_lowest := by
  refine kp_of D sc_is_lowest (D.fn.binds fun _ _ _ _ _ _ us hl => match us, hl with | [_, _], _ => rfl) (by rintro ds r ⟨xs, n, rfl, hl, rfl⟩; rfl) (by rintro ds r ⟨xs, n, rfl, hl, rfl⟩; simp [flat]) fun cdv A fr s H E ds r hr h => ?_
  obtain ⟨xs, n, rfl, hl, rfl⟩ := h
  refine ⟨_, (ps_1 (st_ret (pd_and (pd_call F_are_whole hr (pa_1 (pd_v 0) (pa_1 (pd_v 1) pa_0))) (pd_one (pd_eq (pd_call F_part_of_all hr (pa_1 (pd_v 0) pa_0)) pd_int))))), ?_⟩
  walk_at "rd"
  refine ⟨_, ⟨xs, n, rfl, hl, rfl⟩, _, rfl, ?_⟩
  by_cases e : (xs.length : Int) = n
  · rw [decide_eq_true e, if_pos rfl, Bool.true_and]
    refine ⟨_, ⟨xs, rfl, rfl⟩, _, rfl, ?_⟩
    exact decide_eq_decide.mpr (by omega)
  · rw [decide_eq_false e, if_neg Bool.false_ne_true, Bool.false_and]

abbrev s_dot : Stmt := topS 14
abbrev N_dot : List Str := ["one", "other"]
theorem sc_dot : FnScope N_dot ["one", "other"] (defScope s_dot) := ⟨rfl, rfl, rfl, by decide +kernel, rfl, by decide +kernel, by decide +kernel⟩
def R_dot : Rel := fun ds r => ∃ a b c x d e f y n m, ds = [.tup (a :: b :: c :: x), .tup (d :: e :: f :: y)] ∧ Sml n [a, b, c] ∧ Sml m [d, e, f] ∧ n + m ≤ 999980 ∧ r = .int (a * d + b * e + c * f)
theorem kp_dot (D : Df K mg "dot" s_dot f fd) (B : Blt mg) : KP P w K mg base "dot" 1 R_dot := by
  refine kp_of D sc_dot (D.fn.binds fun _ _ _ _ _ _ us hl => match us, hl with | [_, _], _ => rfl) (by rintro ds r ⟨a, b, c, x, d, e, f, y, n, m, rfl, h1, h2, h3, rfl⟩; rfl) (by rintro ds r ⟨a, b, c, x, d, e, f, y, n, m, rfl, h1, h2, h3, rfl⟩; simp [flat]) fun cdv A fr s H E ds r hr h => ?_
  obtain ⟨a, b, c, x, d, e, f, y, n, m, rfl, h1, h2, h3, rfl⟩ := h
  refine ⟨_, (ps_1 (st_ret (pd_add (pd_add (pd_mul (pd_ixT (pd_v 0) pd_int) (pd_ixT (pd_v 1) pd_int)) (pd_mul (pd_ixT (pd_v 0) pd_int) (pd_ixT (pd_v 1) pd_int))) (pd_mul (pd_ixT (pd_v 0) pd_int) (pd_ixT (pd_v 1) pd_int))))), ?_⟩
  have i1 : Bd a n := ⟨h1 _ (by simp)⟩
  have i2 : Bd b n := ⟨h1 _ (by simp)⟩
  have i3 : Bd c n := ⟨h1 _ (by simp)⟩
  have i4 : Bd d m := ⟨h2 _ (by simp)⟩
  have i5 : Bd e m := ⟨h2 _ (by simp)⟩
  have i6 : Bd f m := ⟨h2 _ (by simp)⟩
  have h4 : n + m ≤ 999990 := by omega
  walk_at "rd"
  exact ⟨mul_ok h4, mul_ok h4, mul_ok h4⟩

abbrev s_cross : Stmt := topS 15
abbrev N_cross : List Str := ["one", "other", "ax", "ay", "az", "bx", "by", "bz"]
theorem sc_cross : FnScope N_cross ["one", "other"] (defScope s_cross) := ⟨rfl, rfl, rfl, by decide +kernel, rfl, by decide +kernel, by decide +kernel⟩
def R_cross : Rel := fun ds r => ∃ a b c x d e f y n m, ds = [.tup [a, b, c, x], .tup [d, e, f, y]] ∧ Sml n [a, b, c] ∧ Sml m [d, e, f] ∧ n + m ≤ 999980 ∧ r = .tup [b * f - c * e, c * d - a * f, a * e - b * d]
theorem kp_cross (D : Df K mg "cross" s_cross f fd) (B : Blt mg) : KP P w K mg base "cross" 1 R_cross := by
  refine kp_of D sc_cross (D.fn.binds fun _ _ _ _ _ _ us hl => match us, hl with | [_, _], _ => rfl) (by rintro ds r ⟨a, b, c, x, d, e, f, y, n, m, rfl, h1, h2, h3, rfl⟩; rfl) (by rintro ds r ⟨a, b, c, x, d, e, f, y, n, m, rfl, h1, h2, h3, rfl⟩; simp [flat]) fun cdv A fr s H E ds r hr h => ?_
  obtain ⟨a, b, c, x, d, e, f, y, n, m, rfl, h1, h2, h3, rfl⟩ := h
  refine ⟨_, (ps_2 (st_asg (pd_tupR (pa_1 (pd_take (n := 3) (pd_v 0)) (pa_1 (pd_take (n := 3) (pd_v 1)) pa_0))) (pt_t (n := 2) rfl (pts_1 (pt_t (n := 3) rfl (pts_1 (pt_n 2 sc_cross.nd) (pts_1 (pt_n 3 sc_cross.nd) (pts_1 (pt_n 4 sc_cross.nd) pts_0)))) (pts_1 (pt_t (n := 3) rfl (pts_1 (pt_n 5 sc_cross.nd) (pts_1 (pt_n 6 sc_cross.nd) (pts_1 (pt_n 7 sc_cross.nd) pts_0)))) pts_0))))
      (ps_1 (st_ret (pd_tupI (pa_1 (pd_sub (pd_mul (pd_v 3) (pd_v 7)) (pd_mul (pd_v 4) (pd_v 6))) (pa_1 (pd_sub (pd_mul (pd_v 4) (pd_v 5)) (pd_mul (pd_v 2) (pd_v 7))) (pa_1 (pd_sub (pd_mul (pd_v 2) (pd_v 6)) (pd_mul (pd_v 3) (pd_v 5))) pa_0))))))), ?_⟩
  have i1 : Bd a n := ⟨h1 _ (by simp)⟩
  have i2 : Bd b n := ⟨h1 _ (by simp)⟩
  have i3 : Bd c n := ⟨h1 _ (by simp)⟩
  have i4 : Bd d m := ⟨h2 _ (by simp)⟩
  have i5 : Bd e m := ⟨h2 _ (by simp)⟩
  have i6 : Bd f m := ⟨h2 _ (by simp)⟩
  have h4 : n + m ≤ 999990 := by omega
  walk_at "rd"
  exact ⟨mul_ok h4, mul_ok h4, mul_ok h4, mul_ok h4, mul_ok h4, mul_ok h4⟩
end
end K12
/-! The defs of places and turns. -/
namespace K12
open PySem PySem.Spec PyProof.Rows L2
open K12.Q


structure Pl (n : Nat) (p : Q) : Prop where
  ok : IsPlace p
  sz : p.d.natAbs < 2 ^ n
theorem abs_of_sq {x d : Int} (h : x * x ≤ d * d) : x.natAbs ≤ d.natAbs := by
  rcases Nat.lt_or_ge d.natAbs x.natAbs with z | z
  · exfalso
    have h1 : d.natAbs * d.natAbs < x.natAbs * x.natAbs := Nat.mul_lt_mul'' z z
    have e1 : ((x.natAbs * x.natAbs : Nat) : Int) = x * x := by rw [Int.natCast_mul, Int.natAbs_mul_self']
    have e2 : ((d.natAbs * d.natAbs : Nat) : Int) = d * d := by rw [Int.natCast_mul, Int.natAbs_mul_self']
    omega
  · exact z
theorem place_abs {p : Q} (h : IsPlace p) : p.a.natAbs ≤ p.d.natAbs ∧ p.b.natAbs ≤ p.d.natAbs ∧ p.c.natAbs ≤ p.d.natAbs := by
  have n := h.n
  have s1 := sq_nn p.a
  have s2 := sq_nn p.b
  have s3 := sq_nn p.c
  exact ⟨abs_of_sq (by omega), abs_of_sq (by omega), abs_of_sq (by omega)⟩
theorem Pl.sml {n : Nat} {p : Q} (h : Pl n p) : Sml n p.l := by
  obtain ⟨h1, h2, h3⟩ := place_abs h.ok
  have z := h.sz
  intro x hx
  simp only [Q.l, List.mem_cons, List.not_mem_nil, or_false] at hx
  rcases hx with rfl | rfl | rfl | rfl <;> omega
theorem Sml.le {n m : Nat} {xs : List Int} (h : Sml n xs) (l : n ≤ m) : Sml m xs := fun x hx => Nat.lt_of_lt_of_le (h x hx) (pow_le l)
theorem Sml.three {n : Nat} {q : Q} (h : Sml n q.l) : Sml n [q.a, q.b, q.c] := fun x hx => h x (by simp only [Q.l, List.mem_cons, List.not_mem_nil, or_false] at hx ⊢; rcases hx with z | z | z <;> simp [z])
theorem Sml.bd {n : Nat} {q : Q} (h : Sml n q.l) : Bd q.a n ∧ Bd q.b n ∧ Bd q.c n ∧ Bd q.d n := ⟨⟨h _ (by simp [Q.l])⟩, ⟨h _ (by simp [Q.l])⟩, ⟨h _ (by simp [Q.l])⟩, ⟨h _ (by simp [Q.l])⟩⟩
theorem Pl.le {n m : Nat} {p : Q} (h : Pl n p) (l : n ≤ m) : Pl m p := ⟨h.ok, Nat.lt_of_lt_of_le h.sz (pow_le l)⟩
theorem Pl.opp {n : Nat} {p : Q} (h : Pl n p) : Pl n (opp p) := ⟨opp_place h.ok, h.sz⟩
theorem bits_le {i : Int} {n : Nat} (h : i.natAbs < 2 ^ n) (h0 : 0 < n) : Builtin.Int.intBits i ≤ n + 1 := by
  have z := PySem.Flt.log2_lt_of h0 h
  unfold Builtin.Int.intBits
  split <;> omega
theorem lead_filter : ∀ {xs : List Int}, lead xs ≠ 0 → ∃ r, xs.filter (fun x => !decide (x = 0)) = lead xs :: r
  | [], h => absurd rfl h
  | x :: r, h => by
    by_cases e : x = 0
    · have h' : lead (x :: r) = lead r := if_pos e
      rw [h'] at h ⊢
      obtain ⟨s, z⟩ := lead_filter h
      exact ⟨s, by rw [List.filter_cons, decide_eq_true e]; exact z⟩
    · have h' : lead (x :: r) = x := if_neg e
      rw [h']
      exact ⟨_, by rw [List.filter_cons, decide_eq_false e]; rfl⟩
theorem lead_ne {q : Q} (h : q.g ≠ 0) : lead (lw q).l ≠ 0 := fun z => by
  have t := (ti_turn h).ld
  unfold ti at t
  split at t
  · omega
  · rw [l_neg, lead_neg, z] at t
    omega
theorem gcd_small {n : Nat} {q : Q} (h : Sml n q.l) (g0 : q.g ≠ 0) : q.g < 2 ^ n := by
  obtain ⟨i1, i2, i3, i4⟩ := h.bd
  by_cases ha : q.a = 0
  · by_cases hb : q.b = 0
    · by_cases hc : q.c = 0
      · by_cases hd : q.d = 0
        · refine absurd ?_ g0
          show gcdL [q.a, q.b, q.c, q.d] = 0
          rw [ha, hb, hc, hd]
          rfl
        · exact Nat.lt_of_le_of_lt (gcdL_le (x := q.d) (by simp [Q.l]) hd) i4.h
      · exact Nat.lt_of_le_of_lt (gcdL_le (x := q.c) (by simp [Q.l]) hc) i3.h
    · exact Nat.lt_of_le_of_lt (gcdL_le (x := q.b) (by simp [Q.l]) hb) i2.h
  · exact Nat.lt_of_le_of_lt (gcdL_le (x := q.a) (by simp [Q.l]) ha) i1.h
def rowsQ (t : Q) : List (List Int) := [[t.a * t.a + t.b * t.b - t.c * t.c - t.d * t.d, 2 * (t.b * t.c - t.a * t.d), 2 * (t.b * t.d + t.a * t.c)], [2 * (t.b * t.c + t.a * t.d), t.a * t.a - t.b * t.b + t.c * t.c - t.d * t.d, 2 * (t.c * t.d - t.a * t.b)],
  [2 * (t.b * t.d - t.a * t.c), 2 * (t.c * t.d + t.a * t.b), t.a * t.a - t.b * t.b - t.c * t.c + t.d * t.d]]
def row3 (p : Q) : List Int → Int
  | a :: b :: c :: _ => a * p.a + b * p.b + c * p.c
  | _ => 0
theorem rot_rows (t p : Q) : (rowsQ t).map (row3 p) ++ [t.N * p.d] = (rot t p).l := rfl
theorem rot_sml {n m : Nat} {t p : Q} (ht : Sml n t.l) (hp : Sml m p.l) : Sml (2 * n + m + 10) (rot t p).l := by
  obtain ⟨i1, i2, i3, i4⟩ := ht.bd
  obtain ⟨j1, j2, j3, j4⟩ := hp.bd
  intro x hx
  have key : ∀ {y : Int} {k : Nat}, Bd y k → k ≤ 2 * n + m + 10 → y.natAbs < 2 ^ (2 * n + m + 10) := fun b l => b.le l
  simp only [Q.l, rot, N, List.mem_cons, List.not_mem_nil, or_false] at hx
  rcases hx with rfl | rfl | rfl | rfl
  · exact key inferInstance (by omega)
  · exact key inferInstance (by omega)
  · exact key inferInstance (by omega)
  · exact key inferInstance (by omega)

local macro_rules | `(tactic| walk_at "rd") => `(tactic| simp (maxSteps := 2000000) only [dSeq, dRet, dSet, dAsg, dIfS, dDo, dNever, dNext, dPar, dOp, dI, dIc, dIb, dTb, dNotB, dStr, dNeg, dIx, dIxL, dIxR, dVar, dC, dCons, dNil, dCa, dLen, dAbs, dMax, dMin, dIntB, dTupOf, dSum, dAll, dIsi, isInt, isBl, isTup, dAndV, dNotV, dB, dNot, dAnd, dOr, dIf, dCall, dTupI, dTupR, dLstI, dLstR, ints?, tups?, dTake, dDrop, dCatT, dCatL, dItT, dItL, dItR, items?, dLc, Q.l, dForT, dForR, gN, gN0, gN1, gT, gS, slots,
  atI_0, atI_1, atI_2, atI_3, List.map_cons, List.map_nil, List.length_cons, List.length_nil, List.replicate, List.cons_append, List.nil_append, List.append_nil, List.getElem?_cons_zero, List.getElem?_cons_succ, List.set_cons_zero, List.set_cons_succ, Option.some.injEq, Option.map_some, Dt.int.injEq, Dt.bl.injEq, Dt.tup.injEq, Dt.lst.injEq, Dt.lbs.injEq, Dt.rows.injEq, Dt.str.injEq, List.cons.injEq, List.take_succ_cons, List.take_zero, List.drop_succ_cons, List.drop_zero,
  exists_eq_left, exists_eq_left', exists_and_left, exists_and_right, and_true, true_and, reduceCtorEq, false_and, false_or, or_false, exists_false, exists_const, and_self, and_assoc, Nat.reduceAdd, Nat.reduceSub, Nat.reduceLT, Nat.reduceLeDiff, Nat.zero_add, ne_eq, not_false_eq_true, Bool.not_false, Bool.not_true, if_true, if_false, if_pos, Bool.false_eq_true])
section
variable {P : Program} {w : World} {K : PySem.W.Frag} {mg : Str → Option Value} {base : Heap} {f : Addr} {fd : FuncData}

abbrev s_is_place : Stmt := topS 16
abbrev N_is_place : List Str := ["thing"]
theorem sc_is_place : FnScope N_is_place ["thing"] (defScope s_is_place) := ⟨rfl, rfl, rfl, by decide +kernel, rfl, by decide +kernel, by decide +kernel⟩
def R_is_place : Rel := fun ds r => ∃ p : K12.Q, ds = [.tup p.l] ∧ Pl 1000 p ∧ r = .bl true
theorem kp_is_place (D : Df K mg "is_place" s_is_place f fd) (B : Blt mg) (F_is_lowest : KP P w K mg base "is_lowest" 3 R_is_lowest) (F_dot : KP P w K mg base "dot" 1 R_dot) : KP P w K mg base "is_place" 4 R_is_place := by
  refine kp_of D sc_is_place (D.fn.binds fun _ _ _ _ _ _ us hl => match us, hl with | [_], _ => rfl) (by rintro ds r ⟨p, rfl, hp, rfl⟩; rfl) (by rintro ds r ⟨p, rfl, hp, rfl⟩; simp [flat]) fun cdv A fr s H E ds r hr h => ?_
  obtain ⟨p, rfl, hp, rfl⟩ := h
  refine ⟨_, (ps_1 (st_ret (pd_and (pd_call F_is_lowest hr (pa_1 (pd_v 0) (pa_1 pd_int pa_0))) (pd_and (pd_ge (pd_ixT (pd_v 0) pd_int) pd_int) (pd_one (pd_eq (pd_call F_dot hr (pa_1 (pd_v 0) (pa_1 (pd_v 0) pa_0))) (pd_pow (pd_ixT (pd_v 0) pd_int) pd_int))))))), ?_⟩
  have hs := hp.sml
  obtain ⟨i1, i2, i3, i4⟩ := hs.bd
  walk_at "rd"
  refine ⟨_, ⟨p.l, 4, rfl, by show 4 ≤ 10000; decide, rfl⟩, _, rfl, ?_⟩
  have e1 : gcdL p.l = 1 := hp.ok.g
  have e2 : (decide ((p.l.length : Int) = 4) && decide (gcdL p.l = 1)) = true := by
    rw [decide_eq_true e1, Bool.and_true]
    exact decide_eq_true rfl
  rw [e2, if_pos rfl, decide_eq_true hp.ok.d, if_pos rfl]
  refine ⟨_, ⟨p.a, p.b, p.c, [p.d], p.a, p.b, p.c, [p.d], 1000, 1000, rfl, hs.three, hs.three, by decide, rfl⟩, ?_⟩
  have e3 : p.d ^ (2 : Int).toNat = p.d * p.d := by
    show p.d ^ 2 = _
    rw [Int.pow_succ, Int.pow_succ, Int.pow_zero, Int.one_mul]
  have hb := bits_le hp.sz (by decide)
  refine ⟨⟨by decide, ?_⟩, _, rfl, ?_⟩
  · have h27 : (2 : Int) ^ 27 = 134217728 := by decide
    rw [h27]
    omega
  · rw [e3]
    exact decide_eq_true hp.ok.n

abbrev s_is_mark : Stmt := topS 17
abbrev N_is_mark : List Str := ["thing"]
theorem sc_is_mark : FnScope N_is_mark ["thing"] (defScope s_is_mark) := ⟨rfl, rfl, rfl, by decide +kernel, rfl, by decide +kernel, by decide +kernel⟩
def R_is_mark : Rel := fun ds r => ∃ p : K12.Q, ds = [.tup p.l] ∧ r = .bl false
theorem kp_is_mark (D : Df K mg "is_mark" s_is_mark f fd) (B : Blt mg) (F_is_lowest : KP P w K mg base "is_lowest" 3 R_is_lowest) : KP P w K mg base "is_mark" 4 R_is_mark := by
  refine kp_of D sc_is_mark (D.fn.binds fun _ _ _ _ _ _ us hl => match us, hl with | [_], _ => rfl) (by rintro ds r ⟨p, rfl, rfl⟩; rfl) (by rintro ds r ⟨p, rfl, rfl⟩; simp [flat]) fun cdv A fr s H E ds r hr h => ?_
  obtain ⟨p, rfl, rfl⟩ := h
  refine ⟨_, (ps_1 (st_ret (pd_call F_is_lowest hr (pa_1 (pd_v 0) (pa_1 pd_int pa_0))))), ?_⟩
  walk_at "rd"
  refine ⟨_, ⟨p.l, 3, rfl, by show 4 ≤ 10000; decide, rfl⟩, ?_⟩
  have e : decide ((p.l.length : Int) = 3) = false := decide_eq_false (by show ¬ (4 : Int) = 3; decide)
  rw [e, Bool.false_and]

abbrev s_need_place : Stmt := topS 18
abbrev N_need_place : List Str := ["thing"]
theorem sc_need_place : FnScope N_need_place ["thing"] (defScope s_need_place) := ⟨rfl, rfl, rfl, by decide +kernel, rfl, by decide +kernel, by decide +kernel⟩
def R_need_place : Rel := fun ds r => ∃ p : K12.Q, ds = [.tup p.l] ∧ Pl 1000 p ∧ r = .non
theorem kp_need_place (D : Df K mg "need_place" s_need_place f fd) (B : Blt mg) (F_is_place : KP P w K mg base "is_place" 4 R_is_place) : KP P w K mg base "need_place" 5 R_need_place := by
  refine kp_of D sc_need_place (D.fn.binds fun _ _ _ _ _ _ us hl => match us, hl with | [_], _ => rfl) (by rintro ds r ⟨p, rfl, hp, rfl⟩; rfl) (by rintro ds r ⟨p, rfl, hp, rfl⟩; simp [flat]) fun cdv A fr s H E ds r hr h => ?_
  obtain ⟨p, rfl, hp, rfl⟩ := h
  refine ⟨_, (ps_1 (st_if (pb_not (pb_of (pd_call F_is_place hr (pa_1 (pd_v 0) pa_0)))) st_never ps_0)), ?_⟩
  walk_at "rd"
  exact ⟨_, ⟨p, rfl, hp, rfl⟩, _, rfl, by simp⟩

abbrev s_need_mark : Stmt := topS 19
abbrev N_need_mark : List Str := ["thing"]
theorem sc_need_mark : FnScope N_need_mark ["thing"] (defScope s_need_mark) := ⟨rfl, rfl, rfl, by decide +kernel, rfl, by decide +kernel, by decide +kernel⟩
def R_need_mark : Rel := fun ds r => ∃ p : K12.Q, ds = [.tup p.l] ∧ Pl 1000 p ∧ r = .non
theorem kp_need_mark (D : Df K mg "need_mark" s_need_mark f fd) (B : Blt mg) (F_is_place : KP P w K mg base "is_place" 4 R_is_place) (F_is_mark : KP P w K mg base "is_mark" 4 R_is_mark) : KP P w K mg base "need_mark" 5 R_need_mark := by
  refine kp_of D sc_need_mark (D.fn.binds fun _ _ _ _ _ _ us hl => match us, hl with | [_], _ => rfl) (by rintro ds r ⟨p, rfl, hp, rfl⟩; rfl) (by rintro ds r ⟨p, rfl, hp, rfl⟩; simp [flat]) fun cdv A fr s H E ds r hr h => ?_
  obtain ⟨p, rfl, hp, rfl⟩ := h
  refine ⟨_, (ps_1 (st_if (pb_w (pw_and' (pb_not (pb_of (pd_call F_is_mark hr (pa_1 (pd_v 0) pa_0)))) (pw_and1' (pb_not (pb_of (pd_call F_is_place hr (pa_1 (pd_v 0) pa_0))))))) st_never ps_0)), ?_⟩
  walk_at "rd"
  refine ⟨_, ⟨p, rfl, rfl⟩, _, rfl, ?_⟩
  rw [Bool.not_false, if_pos rfl]
  exact ⟨_, ⟨p, rfl, hp, rfl⟩, _, rfl, by simp⟩

abbrev s_are_apart : Stmt := topS 20
abbrev N_are_apart : List Str := ["one", "other"]
theorem sc_are_apart : FnScope N_are_apart ["one", "other"] (defScope s_are_apart) := ⟨rfl, rfl, rfl, by decide +kernel, rfl, by decide +kernel, by decide +kernel⟩
def R_are_apart : Rel := fun ds r => ∃ p q : K12.Q, ds = [.tup p.l, .tup q.l] ∧ Sml 1000 p.l ∧ Sml 1000 q.l ∧ r = .bl (!decide (crs p q = [0, 0, 0]))
theorem kp_are_apart (D : Df K mg "are_apart" s_are_apart f fd) (B : Blt mg) (F_cross : KP P w K mg base "cross" 1 R_cross) : KP P w K mg base "are_apart" 2 R_are_apart := by
  refine kp_of D sc_are_apart (D.fn.binds fun _ _ _ _ _ _ us hl => match us, hl with | [_, _], _ => rfl) (by rintro ds r ⟨p, q, rfl, h1, h2, rfl⟩; rfl) (by rintro ds r ⟨p, q, rfl, h1, h2, rfl⟩; simp [flat]) fun cdv A fr s H E ds r hr h => ?_
  obtain ⟨p, q, rfl, h1, h2, rfl⟩ := h
  refine ⟨_, (ps_1 (st_ret (pd_neT hr.units (pd_call F_cross hr (pa_1 (pd_v 0) (pa_1 (pd_v 1) pa_0))) (pd_tupI (pa_1 pd_int (pa_1 pd_int (pa_1 pd_int pa_0))))))), ?_⟩
  walk_at "rd"
  exact ⟨_, ⟨p.a, p.b, p.c, p.d, q.a, q.b, q.c, q.d, 1000, 1000, rfl, h1.three, h2.three, by decide, rfl⟩, _, rfl, rfl⟩

abbrev s_opposite_of : Stmt := topS 21
abbrev N_opposite_of : List Str := ["mark", "x", "y", "z", "rest"]
theorem sc_opposite_of : FnScope N_opposite_of ["mark"] (defScope s_opposite_of) := ⟨rfl, rfl, rfl, by decide +kernel, rfl, by decide +kernel, by decide +kernel⟩
def R_opposite_of : Rel := fun ds r => ∃ p : K12.Q, ds = [.tup p.l] ∧ Pl 1000 p ∧ r = .tup (opp p).l
theorem kp_opposite_of (D : Df K mg "opposite_of" s_opposite_of f fd) (B : Blt mg) (F_need_mark : KP P w K mg base "need_mark" 5 R_need_mark) : KP P w K mg base "opposite_of" 6 R_opposite_of := by
  refine kp_of D sc_opposite_of (D.fn.binds fun _ _ _ _ _ _ us hl => match us, hl with | [_], _ => rfl) (by rintro ds r ⟨p, rfl, hp, rfl⟩; rfl) (by rintro ds r ⟨p, rfl, hp, rfl⟩; simp [flat]) fun cdv A fr s H E ds r hr h => ?_
  obtain ⟨p, rfl, hp, rfl⟩ := h
  refine ⟨_, (ps_2 (st_do (pd_call F_need_mark hr (pa_1 (pd_v 0) pa_0)))
      (ps_2 (st_asg (pd_v 0) (pt_s (n := 4) (i := 3) rfl (pts_1 (pt_n 1 sc_opposite_of.nd) (pts_1 (pt_n 2 sc_opposite_of.nd) (pts_1 (pt_n 3 sc_opposite_of.nd) (pts_star (pt_n 4 sc_opposite_of.nd) pts_0)))) rfl rfl))
      (ps_1 (st_ret (pd_catT (pd_tupI (pa_1 (pd_neg (pd_v 1)) (pa_1 (pd_neg (pd_v 2)) (pa_1 (pd_neg (pd_v 3)) pa_0)))) (pd_callTy call_tuple_of cad_tupOf B.tuple_ (by decide +kernel) (pa_1 (pd_v 4) pa_0))))))), ?_⟩
  walk_at "rd"
  exact ⟨⟨_, p, rfl, hp, rfl⟩, rfl, rfl, rfl, rfl⟩

abbrev s_leader : Stmt := topS 24
abbrev N_leader : List Str := ["row", "number"]
theorem sc_leader : FnScope N_leader ["row"] (defScope s_leader) := ⟨rfl, rfl, rfl, by decide +kernel, rfl, by decide +kernel, by decide +kernel⟩
def R_leader : Rel := fun ds r => ∃ q : K12.Q, ds = [.tup q.l] ∧ lead q.l ≠ 0 ∧ r = .int (lead q.l)
theorem kp_leader (D : Df K mg "leader" s_leader f fd) (B : Blt mg) : KP P w K mg base "leader" 1 R_leader := by
  refine kp_of D sc_leader (D.fn.binds fun _ _ _ _ _ _ us hl => match us, hl with | [_], _ => rfl) (by rintro ds r ⟨q, rfl, hl, rfl⟩; rfl) (by rintro ds r ⟨q, rfl, hl, rfl⟩; simp [flat]) fun cdv A fr s H E ds r hr h => ?_
  obtain ⟨q, rfl, hl, rfl⟩ := h
  refine ⟨_, (ps_1 (st_ret (pd_ixL (pd_lcT 1 rfl sc_leader.nd (pd_v 0) (blkOk_by (N := N_leader) (sc := defScope s_leader) (by decide +kernel)) (fun _ _ _ _ _ => (if_1 (pb_ne (pd_v 1) pd_int))) (fun _ _ _ _ _ => (pd_v 1)) (hg := fun _ _ _ _ _ => pg_name (i := 1) sc_leader.nd rfl (Or.inl rfl))) pd_int))), ?_⟩
  have key := lead_filter hl
  walk_at "rd"
  refine lcb_gen (xs := q.l) (dk := Dt.int) (fun x => !decide (x = 0)) (fun x => x) (by show 4 ≤ 10000; decide) (fun y _ Q z => ?_) (fun y _ _ Q z => ?_) ?_
  · walk_at "rd"
    exact z
  · walk_at "rd"
    exact z
  · obtain ⟨r, e⟩ := key
    refine ⟨lead q.l, ⟨_, rfl, ?_⟩, rfl⟩
    rw [List.map_id', e]
    exact atI_0

abbrev s_is_turn : Stmt := topS 25
abbrev N_is_turn : List Str := ["thing"]
theorem sc_is_turn : FnScope N_is_turn ["thing"] (defScope s_is_turn) := ⟨rfl, rfl, rfl, by decide +kernel, rfl, by decide +kernel, by decide +kernel⟩
def R_is_turn : Rel := fun ds r => ∃ q : K12.Q, ds = [.tup q.l] ∧ IsTurn q ∧ r = .bl true
theorem kp_is_turn (D : Df K mg "is_turn" s_is_turn f fd) (B : Blt mg) (F_is_lowest : KP P w K mg base "is_lowest" 3 R_is_lowest) (F_leader : KP P w K mg base "leader" 1 R_leader) : KP P w K mg base "is_turn" 4 R_is_turn := by
  refine kp_of D sc_is_turn (D.fn.binds fun _ _ _ _ _ _ us hl => match us, hl with | [_], _ => rfl) (by rintro ds r ⟨q, rfl, ht, rfl⟩; rfl) (by rintro ds r ⟨q, rfl, ht, rfl⟩; simp [flat]) fun cdv A fr s H E ds r hr h => ?_
  obtain ⟨q, rfl, ht, rfl⟩ := h
  refine ⟨_, (ps_1 (st_ret (pd_and (pd_call F_is_lowest hr (pa_1 (pd_v 0) (pa_1 pd_int pa_0))) (pd_one (pd_gt (pd_call F_leader hr (pa_1 (pd_v 0) pa_0)) pd_int))))), ?_⟩
  walk_at "rd"
  refine ⟨_, ⟨q.l, 4, rfl, by show 4 ≤ 10000; decide, rfl⟩, _, rfl, ?_⟩
  have e1 : gcdL q.l = 1 := ht.g
  have e2 : (decide ((q.l.length : Int) = 4) && decide (gcdL q.l = 1)) = true := by
    rw [decide_eq_true e1, Bool.and_true]
    exact decide_eq_true rfl
  rw [e2, if_pos rfl]
  have ld := ht.ld
  exact ⟨_, ⟨q, rfl, by omega, rfl⟩, _, rfl, decide_eq_true ld⟩

abbrev s_need_turn : Stmt := topS 26
abbrev N_need_turn : List Str := ["thing"]
theorem sc_need_turn : FnScope N_need_turn ["thing"] (defScope s_need_turn) := ⟨rfl, rfl, rfl, by decide +kernel, rfl, by decide +kernel, by decide +kernel⟩
def R_need_turn : Rel := fun ds r => ∃ q : K12.Q, ds = [.tup q.l] ∧ IsTurn q ∧ r = .non
theorem kp_need_turn (D : Df K mg "need_turn" s_need_turn f fd) (B : Blt mg) (F_is_turn : KP P w K mg base "is_turn" 4 R_is_turn) : KP P w K mg base "need_turn" 5 R_need_turn := by
  refine kp_of D sc_need_turn (D.fn.binds fun _ _ _ _ _ _ us hl => match us, hl with | [_], _ => rfl) (by rintro ds r ⟨p, rfl, hp, rfl⟩; rfl) (by rintro ds r ⟨p, rfl, hp, rfl⟩; simp [flat]) fun cdv A fr s H E ds r hr h => ?_
  obtain ⟨p, rfl, hp, rfl⟩ := h
  refine ⟨_, (ps_1 (st_if (pb_not (pb_of (pd_call F_is_turn hr (pa_1 (pd_v 0) pa_0)))) st_never ps_0)), ?_⟩
  walk_at "rd"
  exact ⟨_, ⟨p, rfl, hp, rfl⟩, _, rfl, by simp⟩

abbrev s_turn_in : Stmt := topS 27
abbrev N_turn_in : List Str := ["row", "found", "number"]
theorem sc_turn_in : FnScope N_turn_in ["row"] (defScope s_turn_in) := ⟨rfl, rfl, rfl, by decide +kernel, rfl, by decide +kernel, by decide +kernel⟩
def R_turn_in : Rel := fun ds r => ∃ q : K12.Q, ds = [.tup q.l] ∧ q.g ≠ 0 ∧ q.g < 2 ^ 9000 ∧ r = .tup (ti q).l
theorem kp_turn_in (D : Df K mg "turn_in" s_turn_in f fd) (B : Blt mg) (F_lowest_row : KP P w K mg base "lowest_row" 3 R_lowest_row) (F_leader : KP P w K mg base "leader" 1 R_leader) : KP P w K mg base "turn_in" 4 R_turn_in := by
  refine kp_of D sc_turn_in (D.fn.binds fun _ _ _ _ _ _ us hl => match us, hl with | [_], _ => rfl) (by rintro ds r ⟨q, rfl, g0, hg, rfl⟩; rfl) (by rintro ds r ⟨q, rfl, g0, hg, rfl⟩; simp [flat]) fun cdv A fr s H E ds r hr h => ?_
  obtain ⟨q, rfl, g0, hg, rfl⟩ := h
  refine ⟨_, (ps_2 (st_set 1 sc_turn_in.nd (pd_call F_lowest_row hr (pa_1 (pd_v 0) pa_0)))
      (ps_1 (st_ret (pd_if (pb_gt (pd_call F_leader hr (pa_1 (pd_v 1) pa_0)) pd_int) (pd_v 1) (pd_callTy call_tuple_of cad_tupOf B.tuple_ (by decide +kernel) (pa_1 (pd_lcT 2 rfl sc_turn_in.nd (pd_v 1) (blkOk_by (N := N_turn_in) (sc := defScope s_turn_in) (by decide +kernel)) (fun _ _ _ _ _ => if_0) (fun _ _ _ _ _ => (pd_neg (pd_v 2))) (hg := fun _ _ _ _ _ => pg_name (i := 2) sc_turn_in.nd rfl (Or.inl rfl))) pa_0)))))), ?_⟩
  walk_at "rd"
  refine ⟨_, ⟨q.l, rfl, by show 4 ≤ 10000; decide, g0, hg, rfl⟩, ?_⟩
  refine ⟨_, ⟨lw q, rfl, lead_ne g0, rfl⟩, _, rfl, ?_⟩
  by_cases hl : 0 < lead (lw q).l
  · rw [decide_eq_true hl, if_pos rfl]
    have e : ti q = lw q := if_pos hl
    rw [e]
    rfl
  · rw [decide_eq_false hl, if_neg Bool.false_ne_true]
    have e : ti q = neg (lw q) := if_neg hl
    refine ⟨_, rfl, ?_⟩
    refine lcb_map (xs := low q.l) (dk := Dt.int) (fun x => -x) (by show 4 ≤ 10000; decide) (fun y _ Q z => ?_) ?_
    · walk_at "rd"
      exact z
    · refine ⟨_, rfl, ?_⟩
      rw [e]
      rfl

abbrev s_stretch_of : Stmt := topS 28
abbrev N_stretch_of : List Str := ["turn", "number"]
theorem sc_stretch_of : FnScope N_stretch_of ["turn"] (defScope s_stretch_of) := ⟨rfl, rfl, rfl, by decide +kernel, rfl, by decide +kernel, by decide +kernel⟩
def R_stretch_of : Rel := fun ds r => ∃ q : K12.Q, ds = [.tup q.l] ∧ Sml 1000 q.l ∧ r = .int q.N
theorem kp_stretch_of (D : Df K mg "stretch_of" s_stretch_of f fd) (B : Blt mg) : KP P w K mg base "stretch_of" 1 R_stretch_of := by
  refine kp_of D sc_stretch_of (D.fn.binds fun _ _ _ _ _ _ us hl => match us, hl with | [_], _ => rfl) (by rintro ds r ⟨q, rfl, hs, rfl⟩; rfl) (by rintro ds r ⟨q, rfl, hs, rfl⟩; simp [flat]) fun cdv A fr s H E ds r hr h => ?_
  obtain ⟨q, rfl, hs, rfl⟩ := h
  refine ⟨_, (ps_1 (st_ret (pd_callB (cr_sum rfl) cad_sum B.sum_ (by decide +kernel) (pa_1 (pd_lcT 1 rfl sc_stretch_of.nd (pd_v 0) (blkOk_by (N := N_stretch_of) (sc := defScope s_stretch_of) (by decide +kernel)) (fun _ _ _ _ _ => if_0) (fun _ _ _ _ _ => (pd_mul (pd_v 1) (pd_v 1))) (hg := fun _ _ _ _ _ => pg_name (i := 1) sc_stretch_of.nd rfl (Or.inl rfl))) pa_0)))), ?_⟩
  walk_at "rd"
  refine lcb_map (xs := q.l) (dk := Dt.int) (fun x => x * x) (by show 4 ≤ 10000; decide) (fun y hy Q z => ?_) ?_
  · have i : Bd y 1000 := ⟨hs y hy⟩
    walk_at "rd"
    exact ⟨mul_ok, z⟩
  · refine ⟨_, rfl, ?_⟩
    unfold Q.l Q.N
    simp only [List.map, List.sum_cons, List.sum_nil]
    omega

abbrev s_rows_of : Stmt := topS 29
abbrev N_rows_of : List Str := ["turn", "a", "b", "c", "d", "first", "second"]
theorem sc_rows_of : FnScope N_rows_of ["turn"] (defScope s_rows_of) := ⟨rfl, rfl, rfl, by decide +kernel, rfl, by decide +kernel, by decide +kernel⟩
def R_rows_of : Rel := fun ds r => ∃ q : K12.Q, ds = [.tup q.l] ∧ Sml 1000 q.l ∧ r = .rows (rowsQ q)
theorem kp_rows_of (D : Df K mg "rows_of" s_rows_of f fd) (B : Blt mg) : KP P w K mg base "rows_of" 1 R_rows_of := by
  refine kp_of D sc_rows_of (D.fn.binds fun _ _ _ _ _ _ us hl => match us, hl with | [_], _ => rfl) (by rintro ds r ⟨q, rfl, hs, rfl⟩; rfl) (by rintro ds r ⟨q, rfl, hs, rfl⟩; simp [flat]) fun cdv A fr s H E ds r hr h => ?_
  obtain ⟨q, rfl, hs, rfl⟩ := h
  refine ⟨_, (ps_2 (st_asg (pd_v 0) (pt_t (n := 4) rfl (pts_1 (pt_n 1 sc_rows_of.nd) (pts_1 (pt_n 2 sc_rows_of.nd) (pts_1 (pt_n 3 sc_rows_of.nd) (pts_1 (pt_n 4 sc_rows_of.nd) pts_0))))))
      (ps_2 (st_set 5 sc_rows_of.nd (pd_tupI (pa_1 (pd_sub (pd_sub (pd_add (pd_mul (pd_v 1) (pd_v 1)) (pd_mul (pd_v 2) (pd_v 2))) (pd_mul (pd_v 3) (pd_v 3))) (pd_mul (pd_v 4) (pd_v 4))) (pa_1 (pd_mul pd_int (pd_sub (pd_mul (pd_v 2) (pd_v 3)) (pd_mul (pd_v 1) (pd_v 4)))) (pa_1 (pd_mul pd_int (pd_add (pd_mul (pd_v 2) (pd_v 4)) (pd_mul (pd_v 1) (pd_v 3)))) pa_0)))))
      (ps_2 (st_set 6 sc_rows_of.nd (pd_tupI (pa_1 (pd_mul pd_int (pd_add (pd_mul (pd_v 2) (pd_v 3)) (pd_mul (pd_v 1) (pd_v 4)))) (pa_1 (pd_sub (pd_add (pd_sub (pd_mul (pd_v 1) (pd_v 1)) (pd_mul (pd_v 2) (pd_v 2))) (pd_mul (pd_v 3) (pd_v 3))) (pd_mul (pd_v 4) (pd_v 4))) (pa_1 (pd_mul pd_int (pd_sub (pd_mul (pd_v 3) (pd_v 4)) (pd_mul (pd_v 1) (pd_v 2)))) pa_0)))))
      (ps_1 (st_ret (pd_tupR (pa_1 (pd_v 5) (pa_1 (pd_v 6) (pa_1 (pd_tupI (pa_1 (pd_mul pd_int (pd_sub (pd_mul (pd_v 2) (pd_v 4)) (pd_mul (pd_v 1) (pd_v 3)))) (pa_1 (pd_mul pd_int (pd_add (pd_mul (pd_v 3) (pd_v 4)) (pd_mul (pd_v 1) (pd_v 2)))) (pa_1 (pd_add (pd_sub (pd_sub (pd_mul (pd_v 1) (pd_v 1)) (pd_mul (pd_v 2) (pd_v 2))) (pd_mul (pd_v 3) (pd_v 3))) (pd_mul (pd_v 4) (pd_v 4))) pa_0)))) pa_0))))))))), ?_⟩
  obtain ⟨i1, i2, i3, i4⟩ := hs.bd
  walk_at "rd"
  repeat' apply And.intro
  all_goals first | exact mul_ok | rfl
end
end K12
/-! Turned places. -/
namespace K12
open PySem PySem.Spec PyProof.Rows L2
open K12.Q

theorem rows_sml {n : Nat} {t : K12.Q} (h : Sml n t.l) : ∀ y ∈ rowsQ t, Sml (2 * n + 5) y := by
  obtain ⟨i1, i2, i3, i4⟩ := h.bd
  have key : ∀ {y : Int} {k : Nat}, Bd y k → k ≤ 2 * n + 5 → y.natAbs < 2 ^ (2 * n + 5) := fun b l => b.le l
  intro y hy x hx
  simp only [rowsQ, List.mem_cons, List.not_mem_nil, or_false] at hy
  rcases hy with rfl | rfl | rfl <;> (simp only [List.mem_cons, List.not_mem_nil, or_false] at hx; rcases hx with rfl | rfl | rfl <;> exact key inferInstance (by omega))
theorem sml_ti {n : Nat} {q : K12.Q} (h : Sml n q.l) (g0 : q.g ≠ 0) : Sml n (ti q).l := by
  obtain ⟨k, hk, e⟩ := ti_scale q g0
  have key : ∀ x y : Int, y = k * x → y.natAbs < 2 ^ n → x.natAbs < 2 ^ n := by
    intro x y e2 l
    rw [e2, Int.natAbs_mul] at l
    have k1 : 1 ≤ k.natAbs := Int.natAbs_pos.mpr hk
    exact Nat.lt_of_le_of_lt (Nat.le_mul_of_pos_left _ k1) l
  have h1 := h q.a (by simp [Q.l])
  have h2 := h q.b (by simp [Q.l])
  have h3 := h q.c (by simp [Q.l])
  have h4 := h q.d (by simp [Q.l])
  intro x hx
  simp only [Q.l, List.mem_cons, List.not_mem_nil, or_false] at hx
  rcases hx with rfl | rfl | rfl | rfl
  · exact key _ _ (congrArg K12.Q.a e) h1
  · exact key _ _ (congrArg K12.Q.b e) h2
  · exact key _ _ (congrArg K12.Q.c e) h3
  · exact key _ _ (congrArg K12.Q.d e) h4
theorem g_lt {n : Nat} {q : K12.Q} (h : Sml n q.l) (g0 : q.g ≠ 0) (hn : n ≤ 9000) : q.g < 2 ^ 9000 := Nat.lt_of_lt_of_le (gcd_small h g0) (pow_le hn)
theorem conj_sml {n : Nat} {q : K12.Q} (h : Sml n q.l) : Sml n (conj q).l := by
  have h1 := h q.a (by simp [Q.l])
  have h2 := h q.b (by simp [Q.l])
  have h3 := h q.c (by simp [Q.l])
  have h4 := h q.d (by simp [Q.l])
  intro x hx
  simp only [Q.l, conj, List.mem_cons, List.not_mem_nil, or_false] at hx
  rcases hx with rfl | rfl | rfl | rfl
  · exact h1
  · rw [Int.natAbs_neg]; exact h2
  · rw [Int.natAbs_neg]; exact h3
  · rw [Int.natAbs_neg]; exact h4
theorem mul_sml {n m : Nat} {o t : K12.Q} (ho : Sml n o.l) (ht : Sml m t.l) : Sml (n + m + 3) (mulQ o t).l := by
  obtain ⟨i1, i2, i3, i4⟩ := ho.bd
  obtain ⟨j1, j2, j3, j4⟩ := ht.bd
  have key : ∀ {y : Int} {k : Nat}, Bd y k → k ≤ n + m + 3 → y.natAbs < 2 ^ (n + m + 3) := fun b l => b.le l
  intro x hx
  simp only [Q.l, mulQ, List.mem_cons, List.not_mem_nil, or_false] at hx
  rcases hx with rfl | rfl | rfl | rfl <;> exact key inferInstance (by omega)
theorem qto_sml {n : Nat} {p q : K12.Q} (hp : Sml n p.l) (hq : Sml n q.l) : Sml (2 * n + 3) (qto p q).l := by
  obtain ⟨i1, i2, i3, i4⟩ := hp.bd
  obtain ⟨j1, j2, j3, j4⟩ := hq.bd
  have key : ∀ {y : Int} {k : Nat}, Bd y k → k ≤ 2 * n + 3 → y.natAbs < 2 ^ (2 * n + 3) := fun b l => b.le l
  intro x hx
  simp only [Q.l, qto, near, dt, List.mem_cons, List.not_mem_nil, or_false] at hx
  rcases hx with rfl | rfl | rfl | rfl <;> exact key inferInstance (by omega)

local macro_rules | `(tactic| walk_at "rd") => `(tactic| simp (maxSteps := 2000000) only [dSeq, dRet, dSet, dAsg, dIfS, dDo, dNever, dNext, dPar, dOp, dI, dIc, dIb, dTb, dNotB, dStr, dNeg, dIx, dIxL, dIxR, dVar, dC, dCons, dNil, dCa, dLen, dAbs, dMax, dMin, dIntB, dTupOf, dSum, dAll, dIsi, isInt, isBl, isTup, dAndV, dNotV, dB, dNot, dAnd, dOr, dIf, dCall, dTupI, dTupR, dLstI, dLstR, ints?, tups?, dTake, dDrop, dCatT, dCatL, dItT, dItL, dItR, items?, dLc, Q.l, dForT, dForR, gN, gN0, gN1, gT, gS, slots,
  atI_0, atI_1, atI_2, atI_3, List.map_cons, List.map_nil, List.length_cons, List.length_nil, List.replicate, List.cons_append, List.nil_append, List.append_nil, List.getElem?_cons_zero, List.getElem?_cons_succ, List.set_cons_zero, List.set_cons_succ, Option.some.injEq, Option.map_some, Dt.int.injEq, Dt.bl.injEq, Dt.tup.injEq, Dt.lst.injEq, Dt.lbs.injEq, Dt.rows.injEq, Dt.str.injEq, List.cons.injEq, List.take_succ_cons, List.take_zero, List.drop_succ_cons, List.drop_zero,
  exists_eq_left, exists_eq_left', exists_and_left, exists_and_right, and_true, true_and, reduceCtorEq, false_and, false_or, or_false, exists_false, exists_const, and_self, and_assoc, Nat.reduceAdd, Nat.reduceSub, Nat.reduceLT, Nat.reduceLeDiff, Nat.zero_add, ne_eq, not_false_eq_true, Bool.not_false, Bool.not_true, if_true, if_false, if_pos, Bool.false_eq_true])
section
variable {P : Program} {w : World} {K : PySem.W.Frag} {mg : Str → Option Value} {base : Heap} {f : Addr} {fd : FuncData}

abbrev s_turned_in : Stmt := topS 30
abbrev N_turned_in : List Str := ["turn", "mark", "found", "row", "number"]
theorem sc_turned_in : FnScope N_turned_in ["turn", "mark"] (defScope s_turned_in) := ⟨rfl, rfl, rfl, by decide +kernel, rfl, by decide +kernel, by decide +kernel⟩
def R_turned_in : Rel := fun ds r => ∃ t p : K12.Q, ds = [.tup t.l, .tup p.l] ∧ Sml 1000 t.l ∧ Sml 1000 p.l ∧ t.g ≠ 0 ∧ 1 ≤ p.d ∧ r = .tup (tb t p).l
theorem kp_turned_in (D : Df K mg "turned_in" s_turned_in f fd) (B : Blt mg) (F_rows_of : KP P w K mg base "rows_of" 1 R_rows_of) (F_dot : KP P w K mg base "dot" 1 R_dot) (F_stretch_of : KP P w K mg base "stretch_of" 1 R_stretch_of) (F_lowest_row : KP P w K mg base "lowest_row" 3 R_lowest_row) : KP P w K mg base "turned_in" 4 R_turned_in := by
  refine kp_of D sc_turned_in (D.fn.binds fun _ _ _ _ _ _ us hl => match us, hl with | [_, _], _ => rfl) (by rintro ds r ⟨t, p, rfl, ht, hp, g0, hd, rfl⟩; rfl) (by rintro ds r ⟨t, p, rfl, ht, hp, g0, hd, rfl⟩; simp [flat]) fun cdv A fr s H E ds r hr h => ?_
  obtain ⟨t, p, rfl, ht, hp, g0, hd, rfl⟩ := h
  refine ⟨_, (ps_2 (st_lcT 2 3 rfl sc_turned_in.nd (pd_call F_rows_of hr (pa_1 (pd_v 0) pa_0)) (blkOk_by (N := N_turned_in) (sc := defScope s_turned_in) (by decide +kernel)) (fun _ _ _ _ _ => if_0) (fun _ _ _ _ _ => (pd_call F_dot hr (pa_1 (pd_v 3) (pa_1 (pd_v 1) pa_0)))) (sw_true rfl rfl rfl (by decide +kernel)) (hg := fun _ _ _ _ _ => pg_name (i := 3) sc_turned_in.nd rfl (Or.inl rfl)))
      (ps_1 (st_ret (pd_call F_lowest_row hr (pa_1 (pd_callTy call_tuple_of cad_tupOf B.tuple_ (by decide +kernel) (pa_1 (pd_catL (pd_v 2) (pd_lcT 4 rfl sc_turned_in.nd (pd_drop (n := 3) (pd_v 1)) (blkOk_by (N := N_turned_in) (sc := defScope s_turned_in) (by decide +kernel)) (fun _ _ _ _ _ => if_0) (fun _ _ _ _ _ => (pd_mul (pd_call F_stretch_of hr (pa_1 (pd_v 0) pa_0)) (pd_v 4))) (hg := fun _ _ _ _ _ => pg_name (i := 4) sc_turned_in.nd rfl (Or.inl rfl)))) pa_0)) pa_0))))), ?_⟩
  have hr' := rows_sml ht
  obtain ⟨i1, i2, i3, i4⟩ := ht.bd
  obtain ⟨j1, j2, j3, j4⟩ := hp.bd
  have g1 : (rot t p).g ≠ 0 := g_ne_d (Int.ne_of_gt (Int.mul_pos (N_pos g0) (Int.lt_of_lt_of_le (by decide) hd)))
  walk_at "rd"
  refine ⟨_, ⟨t, rfl, ht, rfl⟩, _, rfl, ?_⟩
  refine lcb_map (xs := rowsQ t) (dk := Dt.tup) (row3 p) (by show 3 ≤ 10000; decide) (fun y hy Q z => ?_) ?_
  · have hy' := hr' y hy
    simp only [rowsQ, List.mem_cons, List.not_mem_nil, or_false] at hy
    rcases hy with rfl | rfl | rfl <;> (walk_at "rd"; exact ⟨_, ⟨_, _, _, [], p.a, p.b, p.c, [p.d], 2005, 1000, rfl, hy', hp.three, by decide, rfl⟩, z⟩)
  · walk_at "rd"
    refine lcb_map (xs := [p.d]) (dk := Dt.int) (fun x => t.N * x) (by show 1 ≤ 10000; decide) (fun y hy Q z => ?_) ?_
    · have ey : y = p.d := by simpa using hy
      subst ey
      have iN : Bd t.N 2003 := (inferInstance : Bd (t.a * t.a + t.b * t.b + t.c * t.c + t.d * t.d) _)
      walk_at "rd"
      exact ⟨_, ⟨t, rfl, ht, rfl⟩, _, rfl, mul_ok, z⟩
    · exact ⟨_, rfl, by show 3 + 1 ≤ 10000; decide, _, ⟨(rot t p).l, rfl, by show 4 ≤ 10000; decide, g1, g_lt (rot_sml ht hp) g1 (by decide), rfl⟩, rfl⟩

abbrev s_turned_by : Stmt := topS 31
abbrev N_turned_by : List Str := ["turn", "mark"]
theorem sc_turned_by : FnScope N_turned_by ["turn", "mark"] (defScope s_turned_by) := ⟨rfl, rfl, rfl, by decide +kernel, rfl, by decide +kernel, by decide +kernel⟩
def R_turned_by : Rel := fun ds r => ∃ t p : K12.Q, ds = [.tup t.l, .tup p.l] ∧ IsTurn t ∧ Sml 1000 t.l ∧ Pl 1000 p ∧ r = .tup (tb t p).l
theorem kp_turned_by (D : Df K mg "turned_by" s_turned_by f fd) (B : Blt mg) (F_need_turn : KP P w K mg base "need_turn" 5 R_need_turn) (F_need_mark : KP P w K mg base "need_mark" 5 R_need_mark) (F_turned_in : KP P w K mg base "turned_in" 4 R_turned_in) : KP P w K mg base "turned_by" 6 R_turned_by := by
  refine kp_of D sc_turned_by (D.fn.binds fun _ _ _ _ _ _ us hl => match us, hl with | [_, _], _ => rfl) (by rintro ds r ⟨t, p, rfl, ht, hs, hp, rfl⟩; rfl) (by rintro ds r ⟨t, p, rfl, ht, hs, hp, rfl⟩; simp [flat]) fun cdv A fr s H E ds r hr h => ?_
  obtain ⟨t, p, rfl, ht, hs, hp, rfl⟩ := h
  refine ⟨_, (ps_2 (st_do (pd_call F_need_turn hr (pa_1 (pd_v 0) pa_0)))
      (ps_2 (st_do (pd_call F_need_mark hr (pa_1 (pd_v 1) pa_0)))
      (ps_1 (st_ret (pd_call F_turned_in hr (pa_1 (pd_v 0) (pa_1 (pd_v 1) pa_0))))))), ?_⟩
  walk_at "rd"
  exact ⟨⟨_, t, rfl, ht, rfl⟩, ⟨_, p, rfl, hp, rfl⟩, _, ⟨t, p, rfl, hs, hp.sml, turn_g ht, hp.ok.d, rfl⟩, rfl⟩

abbrev s_turn_then : Stmt := topS 32
abbrev N_turn_then : List Str := ["one", "other", "a", "b", "c", "d", "e", "f", "g", "h", "first", "second", "third"]
theorem sc_turn_then : FnScope N_turn_then ["one", "other"] (defScope s_turn_then) := ⟨rfl, rfl, rfl, by decide +kernel, rfl, by decide +kernel, by decide +kernel⟩
def R_turn_then : Rel := fun ds r => ∃ t u : K12.Q, ds = [.tup t.l, .tup u.l] ∧ IsTurn t ∧ IsTurn u ∧ Sml 1000 t.l ∧ Sml 1000 u.l ∧ r = .tup (thenT t u).l
theorem kp_turn_then (D : Df K mg "turn_then" s_turn_then f fd) (B : Blt mg) (F_need_turn : KP P w K mg base "need_turn" 5 R_need_turn) (F_turn_in : KP P w K mg base "turn_in" 4 R_turn_in) : KP P w K mg base "turn_then" 6 R_turn_then := by
  refine kp_of D sc_turn_then (D.fn.binds fun _ _ _ _ _ _ us hl => match us, hl with | [_, _], _ => rfl) (by rintro ds r ⟨t, u, rfl, ht, hu, h1, h2, rfl⟩; rfl) (by rintro ds r ⟨t, u, rfl, ht, hu, h1, h2, rfl⟩; simp [flat]) fun cdv A fr s H E ds r hr h => ?_
  obtain ⟨t, u, rfl, ht, hu, h1, h2, rfl⟩ := h
  refine ⟨_, (ps_2 (st_do (pd_call F_need_turn hr (pa_1 (pd_v 0) pa_0)))
      (ps_2 (st_do (pd_call F_need_turn hr (pa_1 (pd_v 1) pa_0)))
      (ps_2 (st_asg (pd_tupR (pa_1 (pd_v 1) (pa_1 (pd_v 0) pa_0))) (pt_t (n := 2) rfl (pts_1 (pt_t (n := 4) rfl (pts_1 (pt_n 2 sc_turn_then.nd) (pts_1 (pt_n 3 sc_turn_then.nd) (pts_1 (pt_n 4 sc_turn_then.nd) (pts_1 (pt_n 5 sc_turn_then.nd) pts_0))))) (pts_1 (pt_t (n := 4) rfl (pts_1 (pt_n 6 sc_turn_then.nd) (pts_1 (pt_n 7 sc_turn_then.nd) (pts_1 (pt_n 8 sc_turn_then.nd) (pts_1 (pt_n 9 sc_turn_then.nd) pts_0))))) pts_0))))
      (ps_2 (st_set 10 sc_turn_then.nd (pd_sub (pd_sub (pd_sub (pd_mul (pd_v 2) (pd_v 6)) (pd_mul (pd_v 3) (pd_v 7))) (pd_mul (pd_v 4) (pd_v 8))) (pd_mul (pd_v 5) (pd_v 9))))
      (ps_2 (st_set 11 sc_turn_then.nd (pd_sub (pd_add (pd_add (pd_mul (pd_v 2) (pd_v 7)) (pd_mul (pd_v 3) (pd_v 6))) (pd_mul (pd_v 4) (pd_v 9))) (pd_mul (pd_v 5) (pd_v 8))))
      (ps_2 (st_set 12 sc_turn_then.nd (pd_add (pd_add (pd_sub (pd_mul (pd_v 2) (pd_v 8)) (pd_mul (pd_v 3) (pd_v 9))) (pd_mul (pd_v 4) (pd_v 6))) (pd_mul (pd_v 5) (pd_v 7))))
      (ps_1 (st_ret (pd_call F_turn_in hr (pa_1 (pd_tupI (pa_1 (pd_v 10) (pa_1 (pd_v 11) (pa_1 (pd_v 12) (pa_1 (pd_add (pd_sub (pd_add (pd_mul (pd_v 2) (pd_v 9)) (pd_mul (pd_v 3) (pd_v 8))) (pd_mul (pd_v 4) (pd_v 7))) (pd_mul (pd_v 5) (pd_v 6))) pa_0))))) pa_0)))))))))), ?_⟩
  obtain ⟨i1, i2, i3, i4⟩ := h1.bd
  obtain ⟨j1, j2, j3, j4⟩ := h2.bd
  have g0 : (mulQ u t).g ≠ 0 := g_of_N (by rw [N_mul]; exact Int.mul_pos (N_pos (turn_g hu)) (N_pos (turn_g ht)))
  walk_at "rd"
  refine ⟨⟨_, t, rfl, ht, rfl⟩, ⟨_, u, rfl, hu, rfl⟩, mul_ok, mul_ok, mul_ok, mul_ok, mul_ok, mul_ok, mul_ok, mul_ok, mul_ok, mul_ok, mul_ok, mul_ok, mul_ok, mul_ok, mul_ok, mul_ok, _, ⟨mulQ u t, rfl, g0, g_lt (mul_sml h2 h1) g0 (by decide), rfl⟩, rfl⟩

abbrev s_turn_undone : Stmt := topS 33
abbrev N_turn_undone : List Str := ["turn", "a", "rest", "number"]
theorem sc_turn_undone : FnScope N_turn_undone ["turn"] (defScope s_turn_undone) := ⟨rfl, rfl, rfl, by decide +kernel, rfl, by decide +kernel, by decide +kernel⟩
def R_turn_undone : Rel := fun ds r => ∃ t : K12.Q, ds = [.tup t.l] ∧ IsTurn t ∧ Sml 1000 t.l ∧ r = .tup (undone t).l
theorem kp_turn_undone (D : Df K mg "turn_undone" s_turn_undone f fd) (B : Blt mg) (F_need_turn : KP P w K mg base "need_turn" 5 R_need_turn) (F_turn_in : KP P w K mg base "turn_in" 4 R_turn_in) : KP P w K mg base "turn_undone" 6 R_turn_undone := by
  refine kp_of D sc_turn_undone (D.fn.binds fun _ _ _ _ _ _ us hl => match us, hl with | [_], _ => rfl) (by rintro ds r ⟨t, rfl, ht, h1, rfl⟩; rfl) (by rintro ds r ⟨t, rfl, ht, h1, rfl⟩; simp [flat]) fun cdv A fr s H E ds r hr h => ?_
  obtain ⟨t, rfl, ht, h1, rfl⟩ := h
  refine ⟨_, (ps_2 (st_do (pd_call F_need_turn hr (pa_1 (pd_v 0) pa_0)))
      (ps_2 (st_asg (pd_v 0) (pt_s (n := 2) (i := 1) rfl (pts_1 (pt_n 1 sc_turn_undone.nd) (pts_star (pt_n 2 sc_turn_undone.nd) pts_0)) rfl rfl))
      (ps_1 (st_ret (pd_call F_turn_in hr (pa_1 (pd_catT (pd_tupI (pa_1 (pd_v 1) pa_0)) (pd_callTy call_tuple_of cad_tupOf B.tuple_ (by decide +kernel) (pa_1 (pd_lcL 3 rfl sc_turn_undone.nd (pd_v 2) (blkOk_by (N := N_turn_undone) (sc := defScope s_turn_undone) (by decide +kernel)) (fun _ _ _ _ _ => if_0) (fun _ _ _ _ _ => (pd_neg (pd_v 3))) (hg := fun _ _ _ _ _ => pg_name (i := 3) sc_turn_undone.nd rfl (Or.inl rfl))) pa_0))) pa_0)))))), ?_⟩
  have g0 : (conj t).g ≠ 0 := g_of_N (by rw [N_conj]; exact N_pos (turn_g ht))
  walk_at "rd"
  refine ⟨⟨_, t, rfl, ht, rfl⟩, ?_⟩
  refine lcb_map (xs := [t.b, t.c, t.d]) (dk := Dt.int) (fun x => -x) (by show 3 ≤ 10000; decide) (fun y hy Q z => ?_) ?_
  · walk_at "rd"
    exact z
  · exact ⟨_, rfl, by simp, by show 1 + 3 ≤ 10000; decide, _, ⟨conj t, rfl, g0, g_lt (conj_sml h1) g0 (by decide), rfl⟩, rfl⟩

abbrev s_turn_to : Stmt := topS 34
abbrev N_turn_to : List Str := ["place", "goal", "near", "x", "y", "z", "w"]
theorem sc_turn_to : FnScope N_turn_to ["place", "goal"] (defScope s_turn_to) := ⟨rfl, rfl, rfl, by decide +kernel, rfl, by decide +kernel, by decide +kernel⟩
def R_turn_to : Rel := fun ds r => ∃ p q : K12.Q, ds = [.tup p.l, .tup q.l] ∧ Pl 200 p ∧ Pl 200 q ∧ r = .tup (turnTo p q).l
theorem fn_turn_to {aN : Addr} (D : Df K mg "turn_to" s_turn_to f fd) (B : Blt mg) (hNORTH_at : mg "NORTH" = some (.ref aN)) (hNORTH_is : ∀ H, SqT K H aN ([0, 0, 1, 1].map V.int)) (F_need_place : KP P w K mg base "need_place" 5 R_need_place) (F_dot : KP P w K mg base "dot" 1 R_dot)
    (F_cross : KP P w K mg base "cross" 1 R_cross) (F_turn_in : KP P w K mg base "turn_in" 4 R_turn_in) (F_are_apart : KP P w K mg base "are_apart" 2 R_are_apart) : FnOk P w K mg base CX0 6 f fd ["place", "goal"] (spP K R_turn_to) := by
  refine fnok_of D sc_turn_to (by rintro ds r ⟨p, q, rfl, _, _, rfl⟩; rfl) fun cdv A fr s H E ds r hr h => ?_
  obtain ⟨p, q, rfl, hp, hq, rfl⟩ := h
  have sp := hp.sml
  have sq := hq.sml
  obtain ⟨i1, i2, i3, i4⟩ := sp.bd
  obtain ⟨j1, j2, j3, j4⟩ := sq.bd
  refine ⟨_, (ps_2 (st_do (pd_call F_need_place hr (pa_1 (pd_v 0) pa_0)))
      (ps_2 (st_do (pd_call F_need_place hr (pa_1 (pd_v 1) pa_0)))
      (ps_2 (st_set 2 sc_turn_to.nd (pd_add (pd_call F_dot hr (pa_1 (pd_v 0) (pa_1 (pd_v 1) pa_0))) (pd_mul (pd_ixT (pd_v 0) pd_int) (pd_ixT (pd_v 1) pd_int))))
      (ps_2 (st_if (pb_gt (pd_v 2) pd_int) (ps_1 (st_ret (pd_call F_turn_in hr (pa_1 (pd_catT (pd_tupI (pa_1 (pd_v 2) pa_0)) (pd_call F_cross hr (pa_1 (pd_v 0) (pa_1 (pd_v 1) pa_0)))) pa_0)))) ps_0)
      (ps_2 (st_asg (pd_v 0) (pt_t (n := 4) rfl (pts_1 (pt_n 3 sc_turn_to.nd) (pts_1 (pt_n 4 sc_turn_to.nd) (pts_1 (pt_n 5 sc_turn_to.nd) (pts_1 (pt_n 6 sc_turn_to.nd) pts_0))))))
      (ps_1 (st_ret (pd_if (pb_of (pd_call F_are_apart hr (pa_1 (pd_v 0) (pa_1 (pd_globT rfl hNORTH_at hNORTH_is) pa_0)))) (pd_call F_turn_in hr (pa_1 (pd_tupI (pa_1 pd_int (pa_1 (pd_v 4) (pa_1 (pd_neg (pd_v 3)) (pa_1 pd_int pa_0))))) pa_0)) (pd_tupI (pa_1 pd_int (pa_1 pd_int (pa_1 pd_int (pa_1 pd_int pa_0))))))))))))), ?_⟩
  walk_at "rd"
  refine ⟨⟨_, p, rfl, hp.le (by decide), rfl⟩, ⟨_, q, rfl, hq.le (by decide), rfl⟩, _, ⟨p.a, p.b, p.c, [p.d], q.a, q.b, q.c, [q.d], 200, 200, rfl, sp.three, sq.three, by decide, rfl⟩, mul_ok, _, rfl, ?_⟩
  by_cases hn : 0 < near p q
  · have e : turnTo p q = ti (qto p q) := if_pos hn
    have g0 : (qto p q).g ≠ 0 := g_a (by show near p q ≠ 0; omega)
    rw [decide_eq_true (show 0 < p.a * q.a + p.b * q.b + p.c * q.c + p.d * q.d from hn), if_pos rfl, e]
    exact ⟨_, ⟨p.a, p.b, p.c, p.d, q.a, q.b, q.c, q.d, 200, 200, rfl, sp.three, sq.three, by decide, rfl⟩, _, rfl, by simp, by show 1 + 3 ≤ 10000; decide, _, ⟨qto p q, rfl, g0, g_lt (qto_sml sp sq) g0 (by decide), rfl⟩, rfl⟩
  · rw [decide_eq_false (show ¬ 0 < p.a * q.a + p.b * q.b + p.c * q.c + p.d * q.d from hn), if_neg Bool.false_ne_true]
    refine ⟨_, ⟨p, north, rfl, sp.le (by decide), (Pl.sml (n := 1) ⟨north_place, by decide⟩).le (by decide), rfl⟩, _, rfl, ?_⟩
    by_cases hc : crs p north = [0, 0, 0]
    · rw [decide_eq_true hc, Bool.not_true, if_neg Bool.false_ne_true]
      have e : turnTo p q = ⟨0, 1, 0, 0⟩ := by
        unfold turnTo
        rw [if_neg hn, if_neg (by rw [hc]; exact fun z => z rfl)]
      rw [e]
      exact ⟨rfl, rfl, rfl, rfl⟩
    · rw [decide_eq_false hc, Bool.not_false, if_pos rfl]
      have e : turnTo p q = ti ⟨0, p.b, -p.a, 0⟩ := by
        unfold turnTo
        rw [if_neg hn, if_pos hc]
      have g0 : (K12.Q.mk 0 p.b (-p.a) 0).g ≠ 0 := by
        rw [crs_north] at hc
        by_cases hb : p.b = 0
        · by_cases ha : p.a = 0
          · exact absurd (by rw [ha, hb]; rfl) hc
          · exact g_c (by show -p.a ≠ 0; omega)
        · exact g_b hb
      have hs : Sml 200 (K12.Q.mk 0 p.b (-p.a) 0).l := by
        intro x hx
        simp only [Q.l, List.mem_cons, List.not_mem_nil, or_false] at hx
        have i0 : Bd (0 : Int) 1 := inferInstance
        have i5 : Bd (-p.a) 200 := inferInstance
        rcases hx with rfl | rfl | rfl | rfl
        · exact i0.le (by decide)
        · exact i2.h
        · exact i5.h
        · exact i0.le (by decide)
      rw [e]
      exact ⟨_, ⟨⟨0, p.b, -p.a, 0⟩, rfl, g0, g_lt hs g0 (by decide), rfl⟩, rfl⟩
end
end K12
/-! The law's own defs: numbers and places. -/
namespace K12
open PySem PySem.Spec PyProof.Rows L2
open K12.Q


theorem mul64 {i j : Int} (hi : i.natAbs < 18446744073709551616) (hj : j.natAbs < 18446744073709551616) : CMulW i j := wide_mul (a := 64) (b := 64) hi hj (by decide) (by decide) (by decide)
theorem pow_ok {i j : Int} (hi : i.natAbs < 18446744073709551616) (h0 : 0 ≤ j) (h1 : j ≤ 100) : CPowW i j := by
  have b := bits_le (n := 64) hi (by decide)
  refine ⟨h0, ?_⟩
  have z : (Builtin.Int.intBits i : Int) * j ≤ 65 * 100 := Int.mul_le_mul (by omega) h1 h0 (by decide)
  have h27 : (2 : Int) ^ 27 = 134217728 := by decide
  omega

local macro_rules | `(tactic| walk_at "rd") => `(tactic| simp (maxSteps := 2000000) only [dSeq, dRet, dSet, dAsg, dIfS, dDo, dNever, dNext, dPar, dOp, dI, dIc, dIb, dTb, dNotB, dStr, dNeg, dIx, dIxL, dIxR, dVar, dC, dCons, dNil, dCa, dLen, dAbs, dMax, dMin, dIntB, dTupOf, dSum, dAll, dIsi, isInt, isBl, isTup, dAndV, dNotV, dB, dNot, dAnd, dOr, dIf, dCall, dTupI, dTupR, dLstI, dLstR, ints?, tups?, dTake, dDrop, dCatT, dCatL, dItT, dItL, dItR, items?, dLc, Q.l, dIxP, dIx2, dPut, dCallL, dSl3, Int.reduceLT, Int.reduceEq, Int.reduceNeg, dForT, dForR, gN, gN0, gN1, gT, gS, slots,
  atI_0, atI_1, atI_2, atI_3, List.map_cons, List.map_nil, List.length_cons, List.length_nil, List.replicate, List.cons_append, List.nil_append, List.append_nil, List.getElem?_cons_zero, List.getElem?_cons_succ, List.set_cons_zero, List.set_cons_succ, Option.some.injEq, Option.map_some, Dt.int.injEq, Dt.bl.injEq, Dt.tup.injEq, Dt.lst.injEq, Dt.lbs.injEq, Dt.rows.injEq, Dt.str.injEq, List.cons.injEq, List.take_succ_cons, List.take_zero, List.drop_succ_cons, List.drop_zero,
  exists_eq_left, exists_eq_left', exists_and_left, exists_and_right, and_true, true_and, reduceCtorEq, false_and, false_or, or_false, exists_false, exists_const, and_self, and_assoc, Nat.reduceAdd, Nat.reduceSub, Nat.reduceLT, Nat.reduceLeDiff, Nat.zero_add, ne_eq, not_false_eq_true, Bool.not_false, Bool.not_true, if_true, if_false, if_pos, Bool.false_eq_true])
section
variable {P : Program} {w : World} {K : PySem.W.Frag} {mg : Str → Option Value} {base : Heap} {f : Addr} {fd : FuncData}

abbrev s_law_take : Stmt := topS 37
abbrev N_law_take : List Str := ["_law_pool_here", "_law_many", "_law_digit", "_law_one", "_law_two"]
theorem sc_law_take : FnScope N_law_take ["_law_pool_here", "_law_many"] (defScope s_law_take) := ⟨rfl, rfl, rfl, by decide +kernel, rfl, by decide +kernel, by decide +kernel⟩
def A_law_take : Pre := fun ds c => ∃ m : Int, ds = [.pool, .int m] ∧ 0 < m ∧ m < 1073741824 ∧ c ≤ 1000000
def C_law_take : Post := fun ds c d c' => ∃ r m : Int, ds = [.pool, .int m] ∧ d = .int r ∧ 0 ≤ r ∧ r < m ∧ c' ≤ c + 1
theorem kl_law_take (D : Df K mg "_law_take" s_law_take f fd) (B : Blt mg) : KL P w K mg base "_law_take" 1 A_law_take C_law_take := by
  refine kl_of D sc_law_take (D.fn.binds fun _ _ _ _ _ _ us hl => match us, hl with | [_, _], _ => rfl) (by rintro ds c ⟨m, rfl, h0, h1, hc⟩; rfl) fun a0 cdv Ar fr s H E ds c hr h => ?_
  obtain ⟨m, rfl, h0, h1, hc⟩ := h
  refine ⟨_, (ps_2 (st_if (pb_gt (pd_ixP (pd_v 0) pd_int) pd_int) (ps_2 (st_set 2 sc_law_take.nd (pd_mod (pd_ixP (pd_v 0) pd_int) (pd_v 1)))
      (ps_2 (st_put (pd_v 0) pd_int (pd_div (pd_ixP (pd_v 0) pd_int) (pd_v 1)))
      (ps_1 (st_ret (pd_v 2))))) ps_0)
      (ps_2 (st_put (pd_v 0) pd_int (pd_add (pd_ix2 (pd_v 0) pd_int) pd_int))
      (ps_2 (st_set 3 sc_law_take.nd (pd_mod (pd_add (pd_add (pd_mul (pd_ixP (pd_v 0) pd_int) pd_int) (pd_mul pd_int (pd_ix2 (pd_v 0) pd_int))) pd_int) pd_int))
      (ps_2 (st_set 3 sc_law_take.nd (pd_mod (pd_pow (pd_v 3) pd_int) pd_int))
      (ps_2 (st_set 4 sc_law_take.nd (pd_mod (pd_pow (pd_add (pd_add (pd_v 3) (pd_mul (pd_mul pd_int (pd_ix2 (pd_v 0) pd_int)) (pd_ix2 (pd_v 0) pd_int))) (pd_mod (pd_ixP (pd_v 0) pd_int) pd_int)) pd_int) pd_int))
      (ps_1 (st_ret (pd_mod (pd_div (pd_mod (pd_mul (pd_v 4) pd_int) pd_int) pd_int) (pd_v 1))))))))), ?_⟩
  walk_at "rd"
  intro x0 hx0
  by_cases e : 0 < x0
  · rw [decide_eq_true e, if_pos rfl]
    intro x hx
    exact ⟨h0, fun y hy => ⟨wide_div (b := 64) h0 (by omega) (by decide) (by decide), Int.ediv_nonneg hy (by omega), x % m, m, rfl, rfl, Int.emod_nonneg _ (by omega), Int.emod_lt_of_pos _ h0, by omega⟩⟩
  · rw [decide_eq_false e, if_neg Bool.false_ne_true]
    intro z hz0 hz1
    refine ⟨by omega, c + 1, by omega, ?_⟩
    intro y hy0 hy1
    refine ⟨mul64 (by omega) (by omega), ?_⟩
    intro z2 h2 h3
    refine ⟨mul64 (by omega) (by omega), ?_⟩
    have a1 := Int.emod_nonneg (y * 48271 + 104729 * z2 + 101) (show (2147483629 : Int) ≠ 0 by decide)
    have a2 := Int.emod_lt_of_pos (y * 48271 + 104729 * z2 + 101) (show (0 : Int) < 2147483629 by decide)
    generalize (y * 48271 + 104729 * z2 + 101) % 2147483629 = u at a1 a2 ⊢
    refine ⟨pow_ok (by omega) (by decide) (by decide), ?_⟩
    have a3 := Int.emod_nonneg (u ^ Int.toNat 5) (show (2147483587 : Int) ≠ 0 by decide)
    have a4 := Int.emod_lt_of_pos (u ^ Int.toNat 5) (show (0 : Int) < 2147483587 by decide)
    generalize u ^ Int.toNat 5 % 2147483587 = v at a3 a4 ⊢
    intro z3 h4 h5
    refine ⟨mul64 (by omega) (by omega), ?_⟩
    intro z4 h6 h7
    have p1 : 0 ≤ 69621 * z3 * z4 := Int.mul_nonneg (by omega) h6
    have p2 : 69621 * z3 * z4 ≤ 69621 * 1000001 * 1000001 := Int.mul_le_mul (by omega) (by omega) h6 (by decide)
    refine ⟨mul64 (by omega) (by omega), ?_⟩
    intro y2 h8 h9
    generalize 69621 * z3 * z4 = q at p1 p2 ⊢
    have a5 := Int.emod_nonneg y2 (show (65537 : Int) ≠ 0 by decide)
    have a6 := Int.emod_lt_of_pos y2 (show (0 : Int) < 65537 by decide)
    generalize y2 % 65537 = y3 at a5 a6 ⊢
    refine ⟨pow_ok (by omega) (by decide) (by decide), ?_⟩
    have a7 := Int.emod_nonneg ((v + q + y3) ^ Int.toNat 3) (show (2147483563 : Int) ≠ 0 by decide)
    have a8 := Int.emod_lt_of_pos ((v + q + y3) ^ Int.toNat 3) (show (0 : Int) < 2147483563 by decide)
    generalize (v + q + y3) ^ Int.toNat 3 % 2147483563 = t at a7 a8 ⊢
    exact ⟨mul64 (by omega) (by omega), wide_div (b := 64) (by decide) (by decide) (by decide) (by decide), h0, _, m, rfl, rfl, Int.emod_nonneg _ (by omega), Int.emod_lt_of_pos _ h0, by omega⟩

abbrev s_law_shared : Stmt := topS 40
abbrev N_law_shared : List Str := ["_law_one", "_law_other"]
theorem sc_law_shared : FnScope N_law_shared ["_law_one", "_law_other"] (defScope s_law_shared) := ⟨rfl, rfl, rfl, by decide +kernel, rfl, by decide +kernel, by decide +kernel⟩
def R_law_shared : Rel := fun ds r => ∃ a b, ds = [.int a, .int b] ∧ r = .int (Int.gcd a b)
theorem kp_law_shared (D : Df K mg "_law_shared" s_law_shared f fd) (B : Blt mg) : KP P w K mg base "_law_shared" 1 R_law_shared := by
  refine kp_of D sc_law_shared (D.fn.binds fun _ _ _ _ _ _ us hl => match us, hl with | [_, _], _ => rfl) (by rintro ds r ⟨a, b, rfl, rfl⟩; rfl) (by rintro ds r ⟨a, b, rfl, rfl⟩; simp [flat]) fun cdv A fr s H E ds r hr h => ?_
  obtain ⟨a, b, rfl, rfl⟩ := h
  refine ⟨_, (ps_2 (st_par 0 1 rfl sc_law_shared.nd (pa_1 (pd_callB call_abs cad_abs B.abs_ (by decide +kernel) (pa_1 (pd_v 0) pa_0)) (pa_1 (pd_callB call_abs cad_abs B.abs_ (by decide +kernel) (pa_1 (pd_v 1) pa_0)) pa_0)))
      (ps_2 (st_while PassesOwn.never (pb_gt (pd_v 1) pd_int) (ps_1 (st_par 0 1 rfl sc_law_shared.nd (pa_1 (pd_v 1) (pa_1 (pd_mod (pd_v 0) (pd_v 1)) pa_0)))))
      (ps_1 (st_ret (pd_v 0))))), ?_⟩
  walk_at "rd"
  refine ⟨fun m ρ => ∃ x y : Int, ρ = [some (.int x), some (.int y)] ∧ 0 ≤ x ∧ 0 ≤ y ∧ Int.gcd x y = Int.gcd a b ∧ m = y.toNat, ⟨_, _, _, rfl, abs_nn a, abs_nn b, abs_gcd a b, rfl⟩, ?_⟩
  rintro m ρ c ⟨x, y, rfl, hx, hy, hg, rfl⟩
  walk_at "rd"
  by_cases e : 0 < y
  · rw [decide_eq_true e, if_pos rfl]
    refine ⟨_, ?_, e, rfl⟩
    rintro ρ' rfl
    have h2 := Int.emod_nonneg x (show y ≠ 0 by omega)
    have h3 := Int.emod_lt_of_pos x e
    refine ⟨_, ?_, y, x % y, rfl, hy, h2, ?_, rfl⟩
    · omega
    · rw [← hg, Int.gcd_comm y]
      exact gcd_turn x y
  · have y0 : y = 0 := by omega
    subst y0
    rw [decide_eq_false e, if_neg Bool.false_ne_true]
    rw [← hg]
    simp [Int.gcd]
    omega

abbrev s_law_lowest : Stmt := topS 41
abbrev N_law_lowest : List Str := ["_law_row", "_law_part", "_law_number"]
theorem sc_law_lowest : FnScope N_law_lowest ["_law_row"] (defScope s_law_lowest) := ⟨rfl, rfl, rfl, by decide +kernel, rfl, by decide +kernel, by decide +kernel⟩
def R_law_lowest : Rel := fun ds r => ∃ xs, ds = [.tup xs] ∧ xs.length ≤ 10000 ∧ gcdL xs ≠ 0 ∧ gcdL xs < 2 ^ 9000 ∧ r = .tup (low xs)
theorem kp_law_lowest (D : Df K mg "_law_lowest" s_law_lowest f fd) (B : Blt mg) (F_law_shared : KP P w K mg base "_law_shared" 1 R_law_shared) : KP P w K mg base "_law_lowest" 2 R_law_lowest := by
  refine kp_of D sc_law_lowest (D.fn.binds fun _ _ _ _ _ _ us hl => match us, hl with | [_], _ => rfl) (by rintro ds r ⟨xs, rfl, hl, h0, hg, rfl⟩; rfl) (by rintro ds r ⟨xs, rfl, hl, h0, hg, rfl⟩; simp [flat]) fun cdv A fr s H E ds r hr h => ?_
  obtain ⟨xs, rfl, hl, h0, hg, rfl⟩ := h
  refine ⟨_, (ps_2 (st_set 1 sc_law_lowest.nd pd_int)
      (ps_2 (st_forT 2 PassesOwn.never rfl sc_law_lowest.nd (pd_v 0) (ps_1 (st_set 1 sc_law_lowest.nd (pd_call F_law_shared hr (pa_1 (pd_v 1) (pa_1 (pd_v 2) pa_0))))))
      (ps_1 (st_ret (pd_callTy call_tuple_of cad_tupOf B.tuple_ (by decide +kernel) (pa_1 (pd_lcT 2 rfl sc_law_lowest.nd (pd_v 0) (blkOk_by (N := N_law_lowest) (sc := defScope s_law_lowest) (by decide +kernel)) (fun _ _ _ _ _ => if_0) (fun _ _ _ _ _ => (pd_div (pd_v 2) (pd_v 1))) (hg := fun _ _ _ _ _ => pg_name (i := 2) sc_law_lowest.nd rfl (Or.inl rfl))) pa_0)))))), ?_⟩
  walk_at "rd"
  refine ⟨fun j ρ _ => ∃ o, ρ = [some (.tup xs), some (.int (gF 0 (xs.take j) : Nat)), o], ⟨_, rfl⟩, ?_, ?_⟩
  · rintro j x ρ c hj ⟨o, rfl⟩
    walk_at "rd"
    refine ⟨_, ⟨_, _, rfl, rfl⟩, ?_⟩
    rw [take_one hj, gF_app]
    exact ⟨rfl, _, rfl⟩
  · rintro ρ c ⟨o, rfl⟩
    rw [List.take_length]
    walk_at "rd"
    refine lcb_map (fun x => x / (gcdL xs : Int)) hl (fun y _ Q q => ?_) ?_
    · walk_at "rd"
      exact ⟨wide_div (j := (gcdL xs : Int)) (b := 9000) (by omega) (by rw [Int.natAbs_natCast]; exact hg) (by decide) (by decide), q⟩
    · exact ⟨_, rfl, rfl⟩

abbrev s_law_at : Stmt := topS 42
abbrev N_law_at : List Str := ["_law_p", "_law_q", "_law_m"]
theorem sc_law_at : FnScope N_law_at ["_law_p", "_law_q", "_law_m"] (defScope s_law_at) := ⟨rfl, rfl, rfl, by decide +kernel, rfl, by decide +kernel, by decide +kernel⟩
def R_law_at : Rel := fun ds r => ∃ p q m : Int, ds = [.int p, .int q, .int m] ∧ p.natAbs < 2 ^ 64 ∧ q.natAbs < 2 ^ 64 ∧ m.natAbs < 2 ^ 64 ∧ 1 ≤ m ∧ r = .tup (lw (atQ p q m)).l
theorem kp_law_at (D : Df K mg "_law_at" s_law_at f fd) (B : Blt mg) (F_law_lowest : KP P w K mg base "_law_lowest" 2 R_law_lowest) : KP P w K mg base "_law_at" 3 R_law_at := by
  refine kp_of D sc_law_at (D.fn.binds fun _ _ _ _ _ _ us hl => match us, hl with | [_, _, _], _ => rfl) (by rintro ds r ⟨p, q, m, rfl, hp, hq, hm, h1, rfl⟩; rfl) (by rintro ds r ⟨p, q, m, rfl, hp, hq, hm, h1, rfl⟩; simp [flat]) fun cdv A fr s H E ds r hr h => ?_
  obtain ⟨p, q, m, rfl, hp, hq, hm, h1, rfl⟩ := h
  refine ⟨_, (ps_1 (st_ret (pd_call F_law_lowest hr (pa_1 (pd_tupI (pa_1 (pd_mul (pd_mul pd_int (pd_v 0)) (pd_v 2)) (pa_1 (pd_mul (pd_mul pd_int (pd_v 1)) (pd_v 2)) (pa_1 (pd_sub (pd_sub (pd_mul (pd_v 2) (pd_v 2)) (pd_mul (pd_v 0) (pd_v 0))) (pd_mul (pd_v 1) (pd_v 1))) (pa_1 (pd_add (pd_add (pd_mul (pd_v 2) (pd_v 2)) (pd_mul (pd_v 0) (pd_v 0))) (pd_mul (pd_v 1) (pd_v 1))) pa_0))))) pa_0)))), ?_⟩
  have i1 : Bd p 64 := ⟨hp⟩
  have i2 : Bd q 64 := ⟨hq⟩
  have i3 : Bd m 64 := ⟨hm⟩
  have hpl := at_place (p := p) (q := q) h1
  have g0 : (atQ p q m).g ≠ 0 := by
    refine g_ne_d ?_
    show m * m + p * p + q * q ≠ 0
    have s1 := sq_nn p
    have s2 := sq_nn q
    have s3 : 0 < m * m := Int.mul_pos (by omega) (by omega)
    omega
  have hs : Sml 200 (atQ p q m).l := by
    have key : ∀ {y : Int} {k : Nat}, Bd y k → k ≤ 200 → y.natAbs < 2 ^ 200 := fun b l => b.le l
    intro x hx
    simp only [Q.l, atQ, List.mem_cons, List.not_mem_nil, or_false] at hx
    rcases hx with rfl | rfl | rfl | rfl <;> exact key inferInstance (by decide)
  walk_at "rd"
  exact ⟨mul_ok, mul_ok, mul_ok, mul_ok, mul_ok, mul_ok, mul_ok, mul_ok, mul_ok, mul_ok, _, ⟨(atQ p q m).l, rfl, by show 4 ≤ 10000; decide, g0, g_lt hs g0 (by decide), rfl⟩, rfl⟩

abbrev s_law_opposite : Stmt := topS 43
abbrev N_law_opposite : List Str := ["_law_mark"]
theorem sc_law_opposite : FnScope N_law_opposite ["_law_mark"] (defScope s_law_opposite) := ⟨rfl, rfl, rfl, by decide +kernel, rfl, by decide +kernel, by decide +kernel⟩
def R_law_opposite : Rel := fun ds r => ∃ p : K12.Q, ds = [.tup p.l] ∧ r = .tup (opp p).l
theorem kp_law_opposite (D : Df K mg "_law_opposite" s_law_opposite f fd) (B : Blt mg) : KP P w K mg base "_law_opposite" 1 R_law_opposite := by
  refine kp_of D sc_law_opposite (D.fn.binds fun _ _ _ _ _ _ us hl => match us, hl with | [_], _ => rfl) (by rintro ds r ⟨p, rfl, rfl⟩; rfl) (by rintro ds r ⟨p, rfl, rfl⟩; simp [flat]) fun cdv A fr s H E ds r hr h => ?_
  obtain ⟨p, rfl, rfl⟩ := h
  refine ⟨_, (ps_1 (st_ret (pd_catT (pd_tupI (pa_1 (pd_sub pd_int (pd_ixT (pd_v 0) pd_int)) (pa_1 (pd_sub pd_int (pd_ixT (pd_v 0) pd_int)) (pa_1 (pd_sub pd_int (pd_ixT (pd_v 0) pd_int)) pa_0)))) (pd_drop (n := 3) (pd_v 0))))), ?_⟩
  walk_at "rd"
  exact ⟨Int.zero_sub _, Int.zero_sub _, Int.zero_sub _, rfl⟩

abbrev s_law_turned : Stmt := topS 44
abbrev N_law_turned : List Str := ["_law_turn", "_law_mark", "_law_a", "_law_b", "_law_c", "_law_d", "_law_x", "_law_y", "_law_z", "_law_one", "_law_two", "_law_three", "_law_size", "_law_w"]
theorem sc_law_turned : FnScope N_law_turned ["_law_turn", "_law_mark"] (defScope s_law_turned) := ⟨rfl, rfl, rfl, by decide +kernel, rfl, by decide +kernel, by decide +kernel⟩
def R_law_turned : Rel := fun ds r => ∃ t p : K12.Q, ds = [.tup t.l, .tup p.l] ∧ Sml 1000 t.l ∧ Sml 1000 p.l ∧ t.g ≠ 0 ∧ 1 ≤ p.d ∧ r = .tup (tb t p).l
theorem kp_law_turned (D : Df K mg "_law_turned" s_law_turned f fd) (B : Blt mg) (F_law_lowest : KP P w K mg base "_law_lowest" 2 R_law_lowest) : KP P w K mg base "_law_turned" 3 R_law_turned := by
  refine kp_of D sc_law_turned (D.fn.binds fun _ _ _ _ _ _ us hl => match us, hl with | [_, _], _ => rfl) (by rintro ds r ⟨t, p, rfl, ht, hp, g0, hd, rfl⟩; rfl) (by rintro ds r ⟨t, p, rfl, ht, hp, g0, hd, rfl⟩; simp [flat]) fun cdv A fr s H E ds r hr h => ?_
  obtain ⟨t, p, rfl, ht, hp, g0, hd, rfl⟩ := h
  refine ⟨_, (ps_2 (st_asg (pd_v 0) (pt_t (n := 4) rfl (pts_1 (pt_n 2 sc_law_turned.nd) (pts_1 (pt_n 3 sc_law_turned.nd) (pts_1 (pt_n 4 sc_law_turned.nd) (pts_1 (pt_n 5 sc_law_turned.nd) pts_0))))))
      (ps_2 (st_asg (pd_take (n := 3) (pd_v 1)) (pt_t (n := 3) rfl (pts_1 (pt_n 6 sc_law_turned.nd) (pts_1 (pt_n 7 sc_law_turned.nd) (pts_1 (pt_n 8 sc_law_turned.nd) pts_0)))))
      (ps_2 (st_set 9 sc_law_turned.nd (pd_mul (pd_sub (pd_sub (pd_add (pd_mul (pd_v 2) (pd_v 2)) (pd_mul (pd_v 3) (pd_v 3))) (pd_mul (pd_v 4) (pd_v 4))) (pd_mul (pd_v 5) (pd_v 5))) (pd_v 6)))
      (ps_2 (st_set 9 sc_law_turned.nd (pd_add (pd_v 9) (pd_mul (pd_mul pd_int (pd_sub (pd_mul (pd_v 3) (pd_v 4)) (pd_mul (pd_v 2) (pd_v 5)))) (pd_v 7))))
      (ps_2 (st_set 9 sc_law_turned.nd (pd_add (pd_v 9) (pd_mul (pd_mul pd_int (pd_add (pd_mul (pd_v 3) (pd_v 5)) (pd_mul (pd_v 2) (pd_v 4)))) (pd_v 8))))
      (ps_2 (st_set 10 sc_law_turned.nd (pd_mul (pd_sub (pd_add (pd_sub (pd_mul (pd_v 2) (pd_v 2)) (pd_mul (pd_v 3) (pd_v 3))) (pd_mul (pd_v 4) (pd_v 4))) (pd_mul (pd_v 5) (pd_v 5))) (pd_v 7)))
      (ps_2 (st_set 10 sc_law_turned.nd (pd_add (pd_v 10) (pd_mul (pd_mul pd_int (pd_add (pd_mul (pd_v 3) (pd_v 4)) (pd_mul (pd_v 2) (pd_v 5)))) (pd_v 6))))
      (ps_2 (st_set 10 sc_law_turned.nd (pd_add (pd_v 10) (pd_mul (pd_mul pd_int (pd_sub (pd_mul (pd_v 4) (pd_v 5)) (pd_mul (pd_v 2) (pd_v 3)))) (pd_v 8))))
      (ps_2 (st_set 11 sc_law_turned.nd (pd_mul (pd_add (pd_sub (pd_sub (pd_mul (pd_v 2) (pd_v 2)) (pd_mul (pd_v 3) (pd_v 3))) (pd_mul (pd_v 4) (pd_v 4))) (pd_mul (pd_v 5) (pd_v 5))) (pd_v 8)))
      (ps_2 (st_set 11 sc_law_turned.nd (pd_add (pd_v 11) (pd_mul (pd_mul pd_int (pd_sub (pd_mul (pd_v 3) (pd_v 5)) (pd_mul (pd_v 2) (pd_v 4)))) (pd_v 6))))
      (ps_2 (st_set 11 sc_law_turned.nd (pd_add (pd_v 11) (pd_mul (pd_mul pd_int (pd_add (pd_mul (pd_v 4) (pd_v 5)) (pd_mul (pd_v 2) (pd_v 3)))) (pd_v 7))))
      (ps_2 (st_set 12 sc_law_turned.nd (pd_add (pd_add (pd_add (pd_mul (pd_v 2) (pd_v 2)) (pd_mul (pd_v 3) (pd_v 3))) (pd_mul (pd_v 4) (pd_v 4))) (pd_mul (pd_v 5) (pd_v 5))))
      (ps_1 (st_ret (pd_call F_law_lowest hr (pa_1 (pd_catT (pd_tupI (pa_1 (pd_v 9) (pa_1 (pd_v 10) (pa_1 (pd_v 11) pa_0)))) (pd_callTy call_tuple_of cad_tupOf B.tuple_ (by decide +kernel) (pa_1 (pd_lcT 13 rfl sc_law_turned.nd (pd_drop (n := 3) (pd_v 1)) (blkOk_by (N := N_law_turned) (sc := defScope s_law_turned) (by decide +kernel)) (fun _ _ _ _ _ => if_0) (fun _ _ _ _ _ => (pd_mul (pd_v 12) (pd_v 13))) (hg := fun _ _ _ _ _ => pg_name (i := 13) sc_law_turned.nd rfl (Or.inl rfl))) pa_0))) pa_0)))))))))))))))), ?_⟩
  obtain ⟨i1, i2, i3, i4⟩ := ht.bd
  obtain ⟨j1, j2, j3, j4⟩ := hp.bd
  have g1 : (rot t p).g ≠ 0 := g_ne_d (Int.ne_of_gt (Int.mul_pos (N_pos g0) (Int.lt_of_lt_of_le (by decide) hd)))
  have e : [(t.a * t.a + t.b * t.b - t.c * t.c - t.d * t.d) * p.a + 2 * (t.b * t.c - t.a * t.d) * p.b + 2 * (t.b * t.d + t.a * t.c) * p.c,
      (t.a * t.a - t.b * t.b + t.c * t.c - t.d * t.d) * p.b + 2 * (t.b * t.c + t.a * t.d) * p.a + 2 * (t.c * t.d - t.a * t.b) * p.c,
      (t.a * t.a - t.b * t.b - t.c * t.c + t.d * t.d) * p.c + 2 * (t.b * t.d - t.a * t.c) * p.a + 2 * (t.c * t.d + t.a * t.b) * p.b, (t.a * t.a + t.b * t.b + t.c * t.c + t.d * t.d) * p.d] = (rot t p).l := by
    simp only [rot, Q.l, Q.N, List.cons.injEq, and_true, true_and]
    exact ⟨by omega, by omega⟩
  walk_at "rd"
  repeat (refine And.intro mul_ok ?_)
  refine lcb_map (xs := [p.d]) (dk := Dt.int) (fun x => (t.a * t.a + t.b * t.b + t.c * t.c + t.d * t.d) * x) (by show 1 ≤ 10000; decide) (fun y hy Q z => ?_) ?_
  · have ey : y = p.d := by simpa using hy
    subst ey
    walk_at "rd"
    exact ⟨mul_ok, z⟩
  · refine ⟨_, rfl, by simp, by show 3 + 1 ≤ 10000; decide, _, ⟨_, rfl, by show 4 ≤ 10000; decide, ?_, ?_, rfl⟩, ?_⟩
    · show gcdL [_, _, _, _] ≠ 0
      rw [e]
      exact g1
    · show gcdL [_, _, _, _] < _
      rw [e]
      exact g_lt (rot_sml ht hp) g1 (by decide)
    · show Dt.tup (low [_, _, _, _]) = _
      rw [e]
      rfl
end
end K12
/-! The law's own defs: places drawn. -/
namespace K12
open PySem PySem.Spec PyProof.Rows L2
open K12.Q
theorem cap3 {v : Int} {j : Nat} (h : v < 1000000 ^ j) (hj : j < 3) : v < 1000000000000 := by
  have e : j = 0 ∨ j = 1 ∨ j = 2 := by omega
  rcases e with rfl | rfl | rfl
  · have z : (1000000 : Int) ^ 0 = 1 := by decide
    omega
  · have z : (1000000 : Int) ^ 1 = 1000000 := by decide
    omega
  · have z : (1000000 : Int) ^ 2 = 1000000000000 := by decide
    omega

theorem tab4 {a b c d i : Int} (h0 : 0 ≤ i) (h1 : i < 4) : ∃ x, atI [a, b, c, d] i = some x ∧ (x = a ∨ x = b ∨ x = c ∨ x = d) := by
  have e : i = 0 ∨ i = 1 ∨ i = 2 ∨ i = 3 := by omega
  rcases e with rfl | rfl | rfl | rfl
  · exact ⟨a, atI_0, .inl rfl⟩
  · exact ⟨b, atI_1, .inr (.inl rfl)⟩
  · exact ⟨c, atI_2, .inr (.inr (.inl rfl))⟩
  · exact ⟨d, atI_3, .inr (.inr (.inr rfl))⟩
theorem lw_d_le (q : K12.Q) (h : q.g ≠ 0) : (lw q).d.natAbs ≤ q.d.natAbs := by
  have e : (q.g : Int) * (lw q).d = q.d := congrArg K12.Q.d (sm_lw q)
  rw [← e, Int.natAbs_mul, Int.natAbs_natCast]
  exact Nat.le_mul_of_pos_left _ (Nat.pos_of_ne_zero h)
theorem at_g {p q m : Int} (h1 : 1 ≤ m) : (atQ p q m).g ≠ 0 := by
  refine g_ne_d ?_
  show m * m + p * p + q * q ≠ 0
  have s1 := sq_nn p
  have s2 := sq_nn q
  have s3 : 0 < m * m := Int.mul_pos (by omega) (by omega)
  omega
theorem at_pl {p q m : Int} (hp : p.natAbs < 2 ^ 64) (hq : q.natAbs < 2 ^ 64) (hm : m.natAbs < 2 ^ 64) (h1 : 1 ≤ m) : Pl 200 (lw (atQ p q m)) := by
  have i1 : Bd p 64 := ⟨hp⟩
  have i2 : Bd q 64 := ⟨hq⟩
  have i3 : Bd m 64 := ⟨hm⟩
  refine ⟨at_place h1, Nat.lt_of_le_of_lt (lw_d_le _ (at_g h1)) ?_⟩
  have b : Bd (m * m + p * p + q * q) _ := inferInstance
  exact b.le (by decide)
theorem lw_sml {n : Nat} {q : K12.Q} (h : Sml n q.l) (g0 : q.g ≠ 0) : Sml n (lw q).l := by
  have key : ∀ x y : Int, (q.g : Int) * x = y → y.natAbs < 2 ^ n → x.natAbs < 2 ^ n := by
    intro x y e l
    rw [← e, Int.natAbs_mul, Int.natAbs_natCast] at l
    exact Nat.lt_of_le_of_lt (Nat.le_mul_of_pos_left _ (Nat.pos_of_ne_zero g0)) l
  have e := sm_lw q
  intro x hx
  have hx : x ∈ [(lw q).a, (lw q).b, (lw q).c, (lw q).d] := hx
  simp only [List.mem_cons, List.not_mem_nil, or_false] at hx
  rcases hx with rfl | rfl | rfl | rfl
  · exact key _ _ (congrArg K12.Q.a e) (h q.a (by simp [Q.l]))
  · exact key _ _ (congrArg K12.Q.b e) (h q.b (by simp [Q.l]))
  · exact key _ _ (congrArg K12.Q.c e) (h q.c (by simp [Q.l]))
  · exact key _ _ (congrArg K12.Q.d e) (h q.d (by simp [Q.l]))
/-- a place near another one -/
theorem near_pl {x s1 s2 s3 : Int} {p : K12.Q} (hx : 1 ≤ x) (hx2 : x ≤ 1000000000000000) (h1 : -1 ≤ s1 ∧ s1 ≤ 1) (h2 : -1 ≤ s2 ∧ s2 ≤ 1) (h3 : -1 ≤ s3 ∧ s3 ≤ 1) (hp : Pl 200 p) (hd : p.d ≤ 100000000000000000000) :
    (K12.Q.mk x s1 s2 s3).g ≠ 0 ∧ (K12.Q.mk x s1 s2 s3).g < 2 ^ 9000 ∧ Sml 1000 (lw (K12.Q.mk x s1 s2 s3)).l ∧ (lw (K12.Q.mk x s1 s2 s3)).g ≠ 0 ∧ Pl 200 (tb (lw (K12.Q.mk x s1 s2 s3)) p) := by
  have g0 : (K12.Q.mk x s1 s2 s3).g ≠ 0 := g_a (by show x ≠ 0; omega)
  have hs : Sml 50 (K12.Q.mk x s1 s2 s3).l := by
    have z : (2 : Nat) ^ 50 = 1125899906842624 := by decide
    intro y hy
    simp only [Q.l, List.mem_cons, List.not_mem_nil, or_false] at hy
    rw [z]
    rcases hy with rfl | rfl | rfl | rfl <;> omega
  have hw := lw_sml hs g0
  have g1 : (lw (K12.Q.mk x s1 s2 s3)).g ≠ 0 := by
    rw [g_lw g0]
    decide
  refine ⟨g0, g_lt hs g0 (by decide), hw.le (by decide), g1, place_tb g1 hp.ok, ?_⟩
  have gr : (rot (lw (K12.Q.mk x s1 s2 s3)) p).g ≠ 0 := g_ne_d (Int.ne_of_gt (Int.mul_pos (N_pos g1) (Int.lt_of_lt_of_le (by decide) hp.ok.d)))
  refine Nat.lt_of_le_of_lt (lw_d_le _ gr) ?_
  obtain ⟨i1, i2, i3, i4⟩ := hw.bd
  have d1 := hp.ok.d
  have i5 : Bd p.d 67 := ⟨by
    have z : (2 : Nat) ^ 67 = 147573952589676412928 := by decide
    rw [z]
    omega⟩
  generalize lw (K12.Q.mk x s1 s2 s3) = t at *
  have b : Bd ((t.a * t.a + t.b * t.b + t.c * t.c + t.d * t.d) * p.d) _ := inferInstance
  exact b.le (by decide)
theorem three_of {l : List Int} (h : l.length = 3) : ∃ a b c, l = [a, b, c] := by
  match l, h with
  | [a, b, c], _ => exact ⟨a, b, c, rfl⟩
theorem c6 : (10 ^ Int.toNat 6 : Int) = 1000000 := by decide
theorem c15 : (10 ^ Int.toNat 15 : Int) = 1000000000000000 := by decide
theorem c20 : (10 ^ Int.toNat 20 : Int) = 100000000000000000000 := by decide
theorem small64 {i : Int} (h : i.natAbs < 18446744073709551616) : i.natAbs < 2 ^ 64 := h
theorem c17 : (5 * 10 ^ Int.toNat 17 : Int) = 500000000000000000 := by decide

local macro_rules | `(tactic| walk_at "rd") => `(tactic| simp (maxSteps := 2000000) only [dSeq, dRet, dSet, dAsg, dIfS, dDo, dNever, dNext, dPar, dOp, dI, dIc, dIb, dTb, dNotB, dStr, dNeg, dIx, dIxL, dIxR, dVar, dC, dCons, dNil, dCa, dLen, dAbs, dMax, dMin, dIntB, dTupOf, dSum, dAll, dIsi, isInt, isBl, isTup, dAndV, dNotV, dB, dNot, dAnd, dOr, dIf, dCall, dTupI, dTupR, dLstI, dLstR, ints?, tups?, dTake, dDrop, dCatT, dCatL, dItT, dItL, dItR, items?, dLc, Q.l, dIxP, dIx2, dPut, dCallL, dSl3, Int.reduceLT, Int.reduceEq, Int.reduceNeg, dForT, dForR, gN, gN0, gN1, gT, gS, slots,
  atI_0, atI_1, atI_2, atI_3, List.map_cons, List.map_nil, List.length_cons, List.length_nil, List.replicate, List.cons_append, List.nil_append, List.append_nil, List.getElem?_cons_zero, List.getElem?_cons_succ, List.set_cons_zero, List.set_cons_succ, Option.some.injEq, Option.map_some, Dt.int.injEq, Dt.bl.injEq, Dt.tup.injEq, Dt.lst.injEq, Dt.lbs.injEq, Dt.rows.injEq, Dt.str.injEq, List.cons.injEq, List.take_succ_cons, List.take_zero, List.drop_succ_cons, List.drop_zero,
  exists_eq_left, exists_eq_left', exists_and_left, exists_and_right, and_true, true_and, reduceCtorEq, false_and, false_or, or_false, exists_false, exists_const, and_self, and_assoc, Nat.reduceAdd, Nat.reduceSub, Nat.reduceLT, Nat.reduceLeDiff, Nat.zero_add, ne_eq, not_false_eq_true, Bool.not_false, Bool.not_true, if_true, if_false, if_pos, Bool.false_eq_true])
section
variable {P : Program} {w : World} {K : PySem.W.Frag} {mg : Str → Option Value} {base : Heap} {f : Addr} {fd : FuncData}

abbrev s_law_great : Stmt := topS 39
abbrev N_law_great : List Str := ["_law_pool_here", "_law_found", "_law_turn"]
theorem sc_law_great : FnScope N_law_great ["_law_pool_here"] (defScope s_law_great) := ⟨rfl, rfl, rfl, by decide +kernel, rfl, by decide +kernel, by decide +kernel⟩
def A_law_great : Pre := fun ds c => ds = [.pool] ∧ c ≤ 900000
def C_law_great : Post := fun ds c d c' => ∃ r : Int, d = .int r ∧ 0 ≤ r ∧ r < 1000000000000000000 ∧ c' ≤ c + 3
theorem kl_law_great (D : Df K mg "_law_great" s_law_great f fd) (B : Blt mg) (F_law_take : KL P w K mg base "_law_take" 1 A_law_take C_law_take) : KL P w K mg base "_law_great" 2 A_law_great C_law_great := by
  refine kl_of D sc_law_great (D.fn.binds fun _ _ _ _ _ _ us hl => match us, hl with | [_], _ => rfl) (by rintro ds c ⟨rfl, hc⟩; rfl) fun a0 cdv Ar fr s H E ds c hr h => ?_
  obtain ⟨rfl, hc⟩ := h
  refine ⟨_, (ps_2 (st_set 1 sc_law_great.nd pd_int)
      (ps_2 (st_forR 2 PassesOwn.never rfl sc_law_great.nd B.range_ (pa_1 pd_int pa_0) (ps_1 (st_set 1 sc_law_great.nd (pd_add (pd_mul (pd_v 1) pd_int) (pd_callL F_law_take hr (pa_1 (pd_v 0) (pa_1 pd_int pa_0)))))))
      (ps_1 (st_ret (pd_v 1))))), ?_⟩
  walk_at "rd"
  refine ⟨3, rfl, by decide, fun j ρ c' => ∃ (v : Int) (o : Option Dt), ρ = [some .pool, some (.int v), o] ∧ 0 ≤ v ∧ v < 1000000 ^ j ∧ c' ≤ c + j, ⟨0, none, rfl, by decide, by decide, by omega⟩, ?_, ?_⟩
  · rintro j ρ c' hj ⟨v, o, rfl, h0, h1, h2⟩
    have h3 := cap3 h1 hj
    walk_at "rd"
    refine ⟨mul64 (by omega) (by decide), ⟨1000000, rfl, by decide, by decide, by omega⟩, ?_⟩
    rintro d c2 ⟨r, m, e1, rfl, r0, r1, hc2⟩
    have em : (1000000 : Int) = m := by simpa using e1
    subst em
    refine ⟨_, rfl, by omega, ?_, by omega⟩
    have z : (v + 1) * 1000000 ≤ 1000000 ^ j * 1000000 := Int.mul_le_mul_of_nonneg_right (by omega) (by decide)
    rw [Int.pow_succ]
    omega
  · rintro ρ c' ⟨v, o, rfl, h0, h1, h2⟩
    walk_at "rd"
    have z : (1000000 : Int) ^ 3 = 1000000000000000000 := by decide
    exact ⟨v, rfl, h0, by omega, by omega⟩

abbrev s_law_place : Stmt := topS 45
abbrev N_law_place : List Str := ["_law_pool_here", "_law_way", "_law_top", "_law_under"]
theorem sc_law_place : FnScope N_law_place ["_law_pool_here"] (defScope s_law_place) := ⟨rfl, rfl, rfl, by decide +kernel, rfl, by decide +kernel, by decide +kernel⟩
def A_law_place : Pre := fun ds c => ds = [.pool] ∧ c ≤ 800000
def C_law_place : Post := fun ds c d c' => ∃ p : K12.Q, d = .tup p.l ∧ Pl 200 p ∧ c' ≤ c + 12
theorem kl_law_place (D : Df K mg "_law_place" s_law_place f fd) (B : Blt mg) (F_law_take : KL P w K mg base "_law_take" 1 A_law_take C_law_take) (F_law_great : KL P w K mg base "_law_great" 2 A_law_great C_law_great) (F_law_at : KP P w K mg base "_law_at" 3 R_law_at) : KL P w K mg base "_law_place" 4 A_law_place C_law_place := by
  refine kl_of D sc_law_place (D.fn.binds fun _ _ _ _ _ _ us hl => match us, hl with | [_], _ => rfl) (by rintro ds c ⟨rfl, hc⟩; rfl) fun a0 cdv Ar fr s H E ds c hr h => ?_
  obtain ⟨rfl, hc⟩ := h
  refine ⟨_, (ps_2 (st_set 1 sc_law_place.nd (pd_callL F_law_take hr (pa_1 (pd_v 0) (pa_1 pd_int pa_0))))
      (ps_2 (st_if (pb_eq (pd_v 1) pd_int) (ps_1 (st_ret (pd_ixR (pd_lstR (pa_1 (pd_tupI (pa_1 pd_int (pa_1 pd_int (pa_1 pd_int (pa_1 pd_int pa_0))))) (pa_1 (pd_tupI (pa_1 pd_int (pa_1 pd_int (pa_1 (pd_neg pd_int) (pa_1 pd_int pa_0))))) (pa_1 (pd_tupI (pa_1 pd_int (pa_1 pd_int (pa_1 pd_int (pa_1 pd_int pa_0))))) (pa_1 (pd_tupI (pa_1 pd_int (pa_1 (pd_neg pd_int) (pa_1 pd_int (pa_1 pd_int pa_0))))) pa_0))))) (pd_callL F_law_take hr (pa_1 (pd_v 0) (pa_1 pd_int pa_0)))))) ps_0)
      (ps_2 (st_if (pb_eq (pd_v 1) pd_int) (ps_1 (st_ret (pd_call F_law_at hr (pa_1 (pd_sub (pd_callL F_law_great hr (pa_1 (pd_v 0) pa_0)) (pd_mul pd_int (pd_pow pd_int pd_int))) (pa_1 (pd_sub (pd_callL F_law_great hr (pa_1 (pd_v 0) pa_0)) (pd_mul pd_int (pd_pow pd_int pd_int))) (pa_1 (pd_add pd_int (pd_callL F_law_great hr (pa_1 (pd_v 0) pa_0))) pa_0)))))) ps_0)
      (ps_2 (st_set 2 sc_law_place.nd (pd_ixL (pd_lstI (pa_1 pd_int (pa_1 pd_int (pa_1 pd_int (pa_1 pd_int pa_0))))) (pd_callL F_law_take hr (pa_1 (pd_v 0) (pa_1 pd_int pa_0)))))
      (ps_2 (st_set 3 sc_law_place.nd (pd_add pd_int (pd_callL F_law_take hr (pa_1 (pd_v 0) (pa_1 (pd_ixL (pd_lstI (pa_1 pd_int (pa_1 pd_int (pa_1 pd_int (pa_1 pd_int pa_0))))) (pd_callL F_law_take hr (pa_1 (pd_v 0) (pa_1 pd_int pa_0)))) pa_0)))))
      (ps_1 (st_ret (pd_call F_law_at hr (pa_1 (pd_sub (pd_callL F_law_take hr (pa_1 (pd_v 0) (pa_1 (pd_add (pd_mul pd_int (pd_v 2)) pd_int) pa_0))) (pd_v 2)) (pa_1 (pd_sub (pd_callL F_law_take hr (pa_1 (pd_v 0) (pa_1 (pd_add (pd_mul pd_int (pd_v 2)) pd_int) pa_0))) (pd_v 2)) (pa_1 (pd_v 3) pa_0))))))))))), ?_⟩
  walk_at "rd"
  refine ⟨⟨8, rfl, by decide, by decide, by omega⟩, ?_⟩
  rintro d c2 ⟨y, m, e1, rfl, y0, y1, hc2⟩
  have em : (8 : Int) = m := by simpa using e1
  subst em
  refine ⟨y, rfl, ?_⟩
  by_cases e : y = 0
  · rw [decide_eq_true e, if_pos rfl]
    refine ⟨⟨4, rfl, by decide, by decide, by omega⟩, ?_⟩
    rintro d c3 ⟨k, m, e1, rfl, k0, k1, hc3⟩
    have em : (4 : Int) = m := by simpa using e1
    subst em
    refine ⟨k, rfl, ?_⟩
    have ek : k = 0 ∨ k = 1 ∨ k = 2 ∨ k = 3 := by omega
    rcases ek with rfl | rfl | rfl | rfl
    · exact ⟨_, ⟨_, rfl, atI_nat (j := 0) rfl⟩, ⟨0, 0, 1, 1⟩, rfl, ⟨⟨by decide, by decide, by decide⟩, by decide⟩, by omega⟩
    · exact ⟨_, ⟨_, rfl, atI_nat (j := 1) rfl⟩, ⟨0, 0, -1, 1⟩, rfl, ⟨⟨by decide, by decide, by decide⟩, by decide⟩, by omega⟩
    · exact ⟨_, ⟨_, rfl, atI_nat (j := 2) rfl⟩, ⟨1, 0, 0, 1⟩, rfl, ⟨⟨by decide, by decide, by decide⟩, by decide⟩, by omega⟩
    · exact ⟨_, ⟨_, rfl, atI_nat (j := 3) rfl⟩, ⟨0, -1, 0, 1⟩, rfl, ⟨⟨by decide, by decide, by decide⟩, by decide⟩, by omega⟩
  · rw [decide_eq_false e, if_neg Bool.false_ne_true]
    refine ⟨y, rfl, ?_⟩
    by_cases e1 : y = 1
    · rw [decide_eq_true e1, if_pos rfl, c17]
      refine ⟨⟨rfl, by omega⟩, ?_⟩
      rintro d c3 ⟨u, rfl, u0, u1, hc3⟩
      refine ⟨pow_ok (by decide) (by decide) (by decide), mul64 (by decide) (by decide), u, rfl, ⟨rfl, by omega⟩, ?_⟩
      rintro d c4 ⟨v, rfl, v0, v1, hc4⟩
      refine ⟨pow_ok (by decide) (by decide) (by decide), mul64 (by decide) (by decide), v, rfl, ⟨rfl, by omega⟩, ?_⟩
      rintro d c5 ⟨t, rfl, t0, t1, hc5⟩
      have b1 : (u - 500000000000000000).natAbs < 2 ^ 64 := small64 (by omega)
      have b2 : (v - 500000000000000000).natAbs < 2 ^ 64 := small64 (by omega)
      have b3 : (1 + t).natAbs < 2 ^ 64 := small64 (by omega)
      exact ⟨t, rfl, _, ⟨_, _, _, rfl, b1, b2, b3, by omega, rfl⟩, _, rfl, at_pl b1 b2 b3 (by omega), by omega⟩
    · rw [decide_eq_false e1, if_neg Bool.false_ne_true]
      refine ⟨⟨4, rfl, by decide, by decide, by omega⟩, ?_⟩
      rintro d c3 ⟨k, m, e1, rfl, k0, k1, hc3⟩
      have em : (4 : Int) = m := by simpa using e1
      subst em
      obtain ⟨top, et, ht⟩ := tab4 (a := 3) (b := 3) (c := 9) (d := 30) k0 k1
      refine ⟨k, rfl, top, et, ⟨4, rfl, by decide, by decide, by omega⟩, ?_⟩
      rintro d c4 ⟨k2, m, e1, rfl, k20, k21, hc4⟩
      have em : (4 : Int) = m := by simpa using e1
      subst em
      obtain ⟨un, eu, hu⟩ := tab4 (a := 1) (b := 3) (c := 9) (d := 30) k20 k21
      refine ⟨k2, rfl, un, eu, ⟨un, rfl, by omega, by omega, by omega⟩, ?_⟩
      rintro d c5 ⟨x, m, e1, rfl, x0, x1, hc5⟩
      have em : un = m := by simpa using e1
      subst em
      refine ⟨x, rfl, mul64 (by decide) (by omega), ⟨2 * top + 1, rfl, by omega, by omega, by omega⟩, ?_⟩
      rintro d c6 ⟨u, m, e1, rfl, u0, u1, hc6⟩
      have em : 2 * top + 1 = m := by simpa using e1
      subst em
      refine ⟨u, rfl, mul64 (by decide) (by omega), ⟨2 * top + 1, rfl, by omega, by omega, by omega⟩, ?_⟩
      rintro d c7 ⟨v, m, e1, rfl, v0, v1, hc7⟩
      have em : 2 * top + 1 = m := by simpa using e1
      subst em
      have b1 : (u - top).natAbs < 2 ^ 64 := small64 (by omega)
      have b2 : (v - top).natAbs < 2 ^ 64 := small64 (by omega)
      have b3 : (1 + x).natAbs < 2 ^ 64 := small64 (by omega)
      exact ⟨v, rfl, _, ⟨_, _, _, rfl, b1, b2, b3, by omega, rfl⟩, _, rfl, at_pl b1 b2 b3 (by omega), by omega⟩

abbrev s_law_goal : Stmt := topS 46
abbrev N_law_goal : List Str := ["_law_pool_here", "_law_spot", "_law_way", "_law_small", "_law_turn", "_law_far"]
theorem sc_law_goal : FnScope N_law_goal ["_law_pool_here", "_law_spot"] (defScope s_law_goal) := ⟨rfl, rfl, rfl, by decide +kernel, rfl, by decide +kernel, by decide +kernel⟩
def A_law_goal : Pre := fun ds c => ∃ p : K12.Q, ds = [.pool, .tup p.l] ∧ Pl 200 p ∧ c ≤ 700000
def C_law_goal : Post := fun ds c d c' => ∃ q : K12.Q, d = .tup q.l ∧ Pl 200 q ∧ c' ≤ c + 24
theorem kl_law_goal (D : Df K mg "_law_goal" s_law_goal f fd) (B : Blt mg) (F_law_take : KL P w K mg base "_law_take" 1 A_law_take C_law_take) (F_law_place : KL P w K mg base "_law_place" 4 A_law_place C_law_place) (F_law_opposite : KP P w K mg base "_law_opposite" 1 R_law_opposite) (F_law_lowest : KP P w K mg base "_law_lowest" 2 R_law_lowest) (F_law_turned : KP P w K mg base "_law_turned" 3 R_law_turned) : KL P w K mg base "_law_goal" 5 A_law_goal C_law_goal := by
  refine kl_of D sc_law_goal (D.fn.binds fun _ _ _ _ _ _ us hl => match us, hl with | [_, _], _ => rfl) (by rintro ds c ⟨p, rfl, hp, hc⟩; rfl) fun a0 cdv Ar fr s H E ds c hr h => ?_
  obtain ⟨p, rfl, hp, hc⟩ := h
  refine ⟨_, (ps_2 (st_set 2 sc_law_goal.nd (pd_callL F_law_take hr (pa_1 (pd_v 0) (pa_1 pd_int pa_0))))
      (ps_2 (st_if (pb_w (pw_or' (pb_lt (pd_v 2) pd_int) (pw_or1' (pb_w (pw_and' (pb_gt (pd_v 2) pd_int) (pw_and1' (pb_gt (pd_ixT (pd_v 1) pd_int) (pd_pow pd_int pd_int)))))))) (ps_1 (st_ret (pd_callL F_law_place hr (pa_1 (pd_v 0) pa_0)))) ps_0)
      (ps_2 (st_if (pb_lt (pd_v 2) pd_int) (ps_1 (st_ret (pd_ixR (pd_lstR (pa_1 (pd_v 1) (pa_1 (pd_call F_law_opposite hr (pa_1 (pd_v 1) pa_0)) pa_0))) (pd_sub (pd_v 2) pd_int)))) ps_0)
      (ps_2 (st_lcR 3 4 rfl sc_law_goal.nd B.range_ (pa_1 pd_int pa_0) (blkOk_by (N := N_law_goal) (sc := defScope s_law_goal) (by decide +kernel)) (fun _ _ _ _ _ => if_0) (fun _ _ _ _ _ => (pd_sub (pd_callL F_law_take hr (pa_1 (pd_v 0) (pa_1 pd_int pa_0))) pd_int)) (sw_true rfl rfl rfl (by decide +kernel)) (hg := fun _ _ _ _ _ => pg_name (i := 4) sc_law_goal.nd rfl (Or.inl rfl)))
      (ps_2 (st_set 5 sc_law_goal.nd (pd_ixL (pd_lstI (pa_1 pd_int (pa_1 pd_int (pa_1 (pd_pow pd_int pd_int) (pa_1 (pd_pow pd_int pd_int) pa_0))))) (pd_callL F_law_take hr (pa_1 (pd_v 0) (pa_1 (pd_add pd_int (pd_callTy call_int1 cad_intB B.int_ (by decide +kernel) (pa_1 (pd_lt (pd_ixT (pd_v 1) pd_int) (pd_pow pd_int pd_int)) pa_0))) pa_0)))))
      (ps_1 (st_ret (pd_call F_law_turned hr (pa_1 (pd_call F_law_lowest hr (pa_1 (pd_callTy call_tuple_of cad_tupOf B.tuple_ (by decide +kernel) (pa_1 (pd_catL (pd_lstI (pa_1 (pd_v 5) pa_0)) (pd_v 3)) pa_0)) pa_0)) (pa_1 (pd_ixR (pd_lstR (pa_1 (pd_v 1) (pa_1 (pd_call F_law_opposite hr (pa_1 (pd_v 1) pa_0)) pa_0))) (pd_sub (pd_v 2) pd_int)) pa_0)))))))))), ?_⟩
  walk_at "rd"
  refine ⟨⟨6, rfl, by decide, by decide, by omega⟩, ?_⟩
  rintro d c2 ⟨y, m, e1, rfl, y0, y1, hc2⟩
  have em : (6 : Int) = m := by simpa using e1
  subst em
  refine ⟨y, rfl, ?_⟩
  by_cases e2 : y < 2
  · rw [decide_eq_true e2, if_pos rfl]
    refine ⟨⟨rfl, by omega⟩, ?_⟩
    rintro d c3 ⟨q, rfl, hq, hc3⟩
    exact ⟨q, rfl, hq, by omega⟩
  · rw [decide_eq_false e2, if_neg Bool.false_ne_true]
    refine ⟨y, rfl, ?_⟩
    by_cases e3 : 3 < y
    · rw [decide_eq_true e3, if_pos rfl, c20]
      refine ⟨pow_ok (by decide) (by decide) (by decide), ?_⟩
      by_cases e4 : 100000000000000000000 < p.d
      · rw [decide_eq_true e4, if_pos rfl]
        refine ⟨⟨rfl, by omega⟩, ?_⟩
        rintro d c3 ⟨q, rfl, hq, hc3⟩
        exact ⟨q, rfl, hq, by omega⟩
      · rw [decide_eq_false e4, if_neg Bool.false_ne_true]
        refine ⟨y, rfl, ?_⟩
        rw [decide_eq_false (show ¬ y < 4 by omega), if_neg Bool.false_ne_true]
        refine ⟨3, rfl, by decide, ?_⟩
        refine ⟨fun j acc c' => acc.length = j ∧ (∀ x ∈ acc, -1 ≤ x ∧ x ≤ 1) ∧ c' ≤ c2 + j, ⟨rfl, by simp, by omega⟩, ?_, ?_⟩
        · rintro j x acc c' hj ⟨a1, a2, a3⟩
          have hj3 : j < 3 := by
            have z := (List.getElem?_eq_some_iff.mp hj).1
            rw [List.length_map, List.length_range] at z
            exact z
          refine ⟨by omega, ?_⟩
          walk_at "rd"
          refine ⟨⟨3, rfl, by decide, by decide, by omega⟩, ?_⟩
          rintro d c3 ⟨u, m, e1, rfl, u0, u1, hc3⟩
          have em : (3 : Int) = m := by simpa using e1
          subst em
          refine ⟨u, rfl, by rw [List.length_append, a1]; rfl, fun z hz => ?_, by omega⟩
          rcases List.mem_append.mp hz with hz | hz
          · exact a2 z hz
          · have ez : z = u - 1 := by simpa using hz
            omega
        · rintro acc c3 ⟨a1, a2, a3⟩
          have a1 : acc.length = 3 := by
            rw [a1, List.length_map, List.length_range]
          obtain ⟨s1, s2, s3, rfl⟩ := three_of a1
          have b1 := a2 s1 (by simp)
          have b2 := a2 s2 (by simp)
          have b3 := a2 s3 (by simp)
          rw [List.length_map, List.length_range] at a3
          rw [c6, c15]
          refine ⟨pow_ok (by decide) (by decide) (by decide), pow_ok (by decide) (by decide) (by decide), pow_ok (by decide) (by decide) (by decide), ⟨_, rfl, by split <;> decide, by split <;> decide, by omega⟩, ?_⟩
          rintro d c4 ⟨k, m, e1, rfl, k0, k1, hc4⟩
          have em := e1
          simp only [List.cons.injEq, Dt.int.injEq, and_true, true_and] at em
          have k4 : k < 4 := by
            rw [← em] at k1
            split at k1 <;> omega
          obtain ⟨far, ef, hf⟩ := tab4 (a := 10) (b := 1000) (c := 1000000) (d := 1000000000000000) k0 k4
          refine ⟨k, rfl, far, ef, _, rfl, by show 1 + 3 ≤ 10000; decide, ?_⟩
          have f1 : 1 ≤ far := by omega
          have f2 : far ≤ 1000000000000000 := by omega
          have d20 : p.d ≤ 100000000000000000000 := by omega
          have ey : y = 4 ∨ y = 5 := by omega
          rcases ey with rfl | rfl
          · obtain ⟨n1, n2, n3, n4, n5⟩ := near_pl f1 f2 b1 b2 b3 hp d20
            refine ⟨_, ⟨[far, s1, s2, s3], rfl, by show 4 ≤ 10000; decide, n1, n2, rfl⟩, _, ⟨p, rfl, rfl⟩, [p.l, (opp p).l], rfl, by show 2 ≤ 10000; decide, 4, rfl, ?_⟩
            exact ⟨p.l, ⟨_, rfl, atI_nat (j := 0) rfl⟩, _, ⟨_, p, rfl, n3, (hp.le (by decide)).sml, n4, hp.ok.d, rfl⟩, _, rfl, n5, by omega⟩
          · obtain ⟨n1, n2, n3, n4, n5⟩ := near_pl f1 f2 b1 b2 b3 hp.opp d20
            refine ⟨_, ⟨[far, s1, s2, s3], rfl, by show 4 ≤ 10000; decide, n1, n2, rfl⟩, _, ⟨p, rfl, rfl⟩, [p.l, (opp p).l], rfl, by show 2 ≤ 10000; decide, 5, rfl, ?_⟩
            exact ⟨(opp p).l, ⟨_, rfl, atI_nat (j := 1) rfl⟩, _, ⟨_, opp p, rfl, n3, (hp.opp.le (by decide)).sml, n4, hp.opp.ok.d, rfl⟩, _, rfl, n5, by omega⟩
    · rw [decide_eq_false e3, if_neg Bool.false_ne_true]
      refine ⟨y, rfl, ?_⟩
      rw [decide_eq_true (show y < 4 by omega), if_pos rfl]
      refine ⟨_, ⟨p, rfl, rfl⟩, [p.l, (opp p).l], rfl, by show 2 ≤ 10000; decide, y, rfl, ?_⟩
      have ey : y = 2 ∨ y = 3 := by omega
      rcases ey with rfl | rfl
      · exact ⟨_, ⟨_, rfl, atI_nat (j := 0) rfl⟩, p, rfl, hp, by omega⟩
      · exact ⟨_, ⟨_, rfl, atI_nat (j := 1) rfl⟩, opp p, rfl, hp.opp, by omega⟩
end
end K12
/-! The law's own defs: what it draws from, what it asks. -/
namespace K12
open PySem PySem.Spec PyProof.Rows L2
open K12.Q
/-! ### defs that tell SOME thing -/
def spN (K : PySem.W.Frag) (A : List Dt → Prop) (C : List Dt → Dt → Prop) : Sp := fun vs H Q _ => ∃ ds, Paired (Is K none H) vs ds ∧ A ds ∧ ∀ v d H', Keep none H H' → Is K none H' v d → C ds d → Q v H'
theorem fnN_of {P : Program} {w : World} {K : PySem.W.Frag} {mg : Str → Option Value} {base : Heap} {x : Str} {st : Stmt} {f : Addr} {fd : FuncData} {N ps : List Str} {k : Nat} {A : List Dt → Prop} {C : List Dt → Dt → Prop} (D : Df K mg x st f fd) (S : FnScope N ps (defScope st)) (len : ∀ ds, A ds → ds.length = ps.length)
    (body : ∀ (cdv : Value) (Ar : Around) (fr : List Env) (s : Shared) (H : Hp) (E : XK) (ds : List Dt), Room k (Ar.deeper (envOfC x (defScope st) s.heap.objs.size f cdv)) → A ds →
      ∃ t, PSts K none (cxOf CX0 P w K mg base N x (defScope st) f cdv Ar fr s H E).nox (defBody st) t ∧ t { nx := fun _ _ => C ds .non, rt := fun d _ => C ds d } (slots N ds) 0) : FnOk P w K mg base CX0 (k + 1) f fd ps (spN K A C) := by
  refine D.fn.ok S (fun vs H Q E ⟨ds, h1, h2, _⟩ => (Paired.length h1).trans (len ds h2)) fun cdv Ar fr s H vs Q E hr h => ?_
  obtain ⟨ds, h1, h2, h3⟩ := h
  obtain ⟨t, hT, q⟩ := body cdv Ar fr s H E ds hr h2
  exact ⟨_, hT.ps, slots N ds, 0, _, start_StX h1, trivial, q, fun σ' ρ' c' H' k' p' S' e => h3 .non .non H' k' rfl e, fun v d c' H' k' p' r' e => h3 v d H' k' r' e⟩

/-! ### the turn from place to place, called with a goal and without -/
structure KT (P : Program) (w : World) (K : PySem.W.Frag) (mg : Str → Option Value) (base : Heap) : Prop where
  ex : ∃ f fd ds aN, mg "turn_to" = some (.ref f) ∧ PySem.W.keepIn K (.ref f) = true ∧ FnOk P w K mg base CX0 6 f fd ["place", "goal"] (spP K R_turn_to) ∧ KBn K fd ["place", "goal"] 1 ["goal"] (fun us ws => us ++ ws) (fun vs zs => vs ++ zs) ∧
    Vals [.ref aN] ds ∧ Binds K fd ["place", "goal"] ds ∧ ∀ H, SqT K H aN ([0, 0, 1, 1].map V.int)
section
variable {K : PySem.W.Frag} {l : Option Addr} {X : Cx} {e g : Expr} {pos p kpos : Pos} {tg : DE} {tr : DA}
theorem flat_turn_to {ds : List Dt} {r : Dt} (h : R_turn_to ds r) : (∀ d ∈ ds, flat d = true) ∧ flat r = true := by
  obtain ⟨p, q, rfl, _, _, rfl⟩ := h
  simp [flat]
def dKw (tr : DA) (tg : DE) : DE := fun ρ c P => tr ρ c fun ds c1 => ds.length = 1 ∧ tg ρ c1 fun d c2 => ∃ r, R_turn_to (ds ++ [d]) r ∧ P r c2
theorem pd_callKw {k : Nat} (F : KT X.prog X.w K X.mg X.base) (hr : Room k X.A) (ha : PAr K l X [e] tr) (hk : PD K l X g tg) (hj : 6 ≤ k := by decide) (hg : Gl X "turn_to" := by rfl)
    (hall : (backToKw pos (keywordEach [⟨some "goal", g, kpos⟩] X.env)).all (·.1.isSome) = true := by rfl) (hks : (backToKw pos (keywordEach [⟨some "goal", g, kpos⟩] X.env)).filterMap (·.1) = (["goal"] : List Str) := by rfl)
    (he : starEach [e] X.env = (false, eval e X.env) :: starEach [] X.env := by rfl)
    (hpl : ((backTo pos (starEach [e] X.env)).any (·.1) || (backToKw pos (keywordEach [⟨some "goal", g, kpos⟩] X.env)).any (·.1.isNone)) = false := by rfl) :
    PD K l X (.Call (.Name "turn_to" p) [e] [⟨some "goal", g, kpos⟩] pos) (dKw tr tg) := by
  have k0 := ha.k
  subst k0
  obtain ⟨f, fd, ds0, aN, hm, kp, G, kb, _, _, _⟩ := F.ex
  refine ⟨rfl, (pe_callN G (hr.mono hj) hg hm kp kb pass0 ha.pa (pk_cons hk.pe pk_nil) hall hks (by decide) he hpl).imp fun σ H Q ⟨ρ, c, P, S, q0, q, h⟩ => ?_⟩
  refine ⟨ρ, c, _, S, q0, q, fun vs ds c1 H1 k1 p1 r1 ⟨hl, q1⟩ => ?_⟩
  refine ⟨ρ, c1, _, S.keep q0 k1, p1, q1, fun v d c2 H2 k2 p2 r2 ⟨r, hR, q2⟩ => ?_⟩
  obtain ⟨f1, f2⟩ := flat_turn_to hR
  refine ⟨(Paired.length r1).trans hl, rfl, ds ++ [d], r, ?_, hR, fun v H3 k3 r3 => h v r c2 H3 ((k1.trans k2).trans k3.wide) (pool_keep p2 k3) (flat_down f2 r3) q2⟩
  exact flats_down (paired_app (paired_keep p1 k2 r1) (.cons r2 .nil)) f1
def dCallD (tr : DA) : DE := fun ρ c P => tr ρ c fun ds c1 => ∃ r, R_turn_to (ds ++ [.tup [0, 0, 1, 1]]) r ∧ P r c1
theorem pd_callD {k : Nat} (F : KT X.prog X.w K X.mg X.base) (hr : Room k X.A) (ha : PAr K l X [e] tr) (hj : 6 ≤ k := by decide) (hg : Gl X "turn_to" := by rfl)
    (he : starEach [e] X.env = (false, eval e X.env) :: starEach [] X.env := by rfl) (hpl : (backTo pos (starEach [] X.env)).any (·.1) = false := by rfl) :
    PD K l X (.Call (.Name "turn_to" p) [e] [] pos) (dCallD tr) := by
  have k0 := ha.k
  subst k0
  obtain ⟨f, fd, ds0, aN, hm, kp, G, _, hv, hb, hT⟩ := F.ex
  refine ⟨rfl, (pe_call G (hr.mono hj) hg hm kp hb hv pass0 ha.pa (by decide) he hpl).imp fun σ H Q ⟨ρ, c, P, S, q0, q, h⟩ => ?_⟩
  refine ⟨ρ, c, _, S, q0, q, fun vs ds c1 H1 k1 p1 r1 ⟨r, hR, q1⟩ => ?_⟩
  obtain ⟨f1, f2⟩ := flat_turn_to hR
  refine ⟨ds ++ [.tup [0, 0, 1, 1]], r, ?_, hR, fun v H2 k2 r2 => h v r c1 H2 (k1.trans k2.wide) (pool_keep p1 k2) (flat_down f2 r2) q1⟩
  have rn : Is X.K l H1 (.ref aN) (.tup [0, 0, 1, 1]) := ⟨aN, rfl, hT H1⟩
  exact flats_down (paired_app r1 (.cons rn .nil)) f1
/-- repr of a tuple of four ints -/
def dRepr : D1 := fun ds P => ∃ a b c d : Int, ds = [.tup [a, b, c, d]] ∧ a.natAbs.log2 < 1920 ∧ b.natAbs.log2 < 1920 ∧ c.natAbs.log2 < 1920 ∧ d.natAbs.log2 < 1920 ∧ P (.str (data4 a b c d).shown)
theorem cad_repr : CaD K l (rRepr4 K) dRepr := fun H c vs ds P Q p r ⟨a, b, c', d, e, h1, h2, h3, h4, q⟩ h => by
  subst e
  obtain ⟨v, rfl, A, rfl, hA⟩ := is_one r
  exact ⟨A, a, b, c', d, rfl, hA, h1, h2, h3, h4, h _ (.str (data4 a b c' d).shown) H Keep.refl p rfl q⟩
end
/-- a def of flat things that is called where no repr is under way -/
theorem fnG_of' {P : Program} {w : World} {K : PySem.W.Frag} {mg : Str → Option Value} {base : Heap} {x : Str} {st : Stmt} {f : Addr} {fd : FuncData} {N ps : List Str} {k : Nat} {R : Rel} (D : Df K mg x st f fd) (S : FnScope N ps (defScope st)) (len : ∀ ds r, R ds r → ds.length = ps.length)
    (body : ∀ (cdv : Value) (A : Around) (fr : List Env) (s : Shared) (H : Hp) (E : XK) (ds : List Dt) (r : Dt), A.guards = some [] → Room k (A.deeper (envOfC x (defScope st) s.heap.objs.size f cdv)) → R ds r →
      ∃ t, PSts K none (cxOf CX0 P w K mg base N x (defScope st) f cdv A fr s H E).nox (defBody st) t ∧ t { nx := fun _ _ => r = .non, rt := fun d _ => d = r } (slots N ds) 0) : FnG P w K mg base (k + 1) f fd ps (spP K R) := by
  refine fnG_of D.fn S (fun vs H Q E ⟨ds, r, h1, h2, _⟩ => (Paired.length h1).trans (len ds r h2)) fun cdv A fr s H vs Q E hg hr h => ?_
  obtain ⟨ds, r, h1, h2, h3⟩ := h
  obtain ⟨t, hT, q⟩ := body cdv A fr s H E ds r hg hr h2
  refine ⟨_, hT.ps, slots N ds, 0, _, start_StX h1, trivial, q, fun σ' ρ' c' H' k' p' S' e => ?_, fun v d c' H' k' p' r' e => ?_⟩
  · subst e
    exact h3 .non H' k' rfl
  · subst e
    exact h3 v H' k' r'
theorem no_way {c : Bool} {A B : Prop} (h : c = false) (k : B) : if c = true then A else B := by
  rw [h, if_neg Bool.false_ne_true]
  exact k
theorem lg {p : K12.Q} (h : Pl 200 p) {x : Int} (hx : x ∈ p.l) : x.natAbs.log2 < 1920 := Nat.lt_of_lt_of_le (PySem.Flt.log2_lt_of (by decide) (h.sml x hx)) (by decide)
theorem turnTo_sml {p q : K12.Q} (hp : Pl 200 p) (hq : Pl 200 q) : Sml 403 (turnTo p q).l := by
  have sp := hp.sml
  obtain ⟨i1, i2, i3, i4⟩ := sp.bd
  unfold turnTo
  split
  · exact sml_ti (qto_sml sp hq.sml) (g_a (by show near p q ≠ 0; omega))
  · split
    · rename_i hc
      have g0 : (K12.Q.mk 0 p.b (-p.a) 0).g ≠ 0 := by
        rw [crs_north] at hc
        by_cases hb : p.b = 0
        · by_cases ha : p.a = 0
          · exact absurd (by rw [ha, hb]; rfl) hc
          · exact g_c (by show -p.a ≠ 0; omega)
        · exact g_b hb
      refine sml_ti ?_ g0
      intro x hx
      simp only [Q.l, List.mem_cons, List.not_mem_nil, or_false] at hx
      have i0 : Bd (0 : Int) 1 := inferInstance
      have i5 : Bd (-p.a) 200 := inferInstance
      rcases hx with rfl | rfl | rfl | rfl
      · exact i0.le (by decide)
      · exact i2.le (by decide)
      · exact i5.le (by decide)
      · exact i0.le (by decide)
    · intro x hx
      simp only [Q.l, List.mem_cons, List.not_mem_nil, or_false] at hx
      have i0 : Bd (0 : Int) 1 := inferInstance
      have i5 : Bd (1 : Int) 1 := inferInstance
      rcases hx with rfl | rfl | rfl | rfl
      · exact i0.le (by decide)
      · exact i5.le (by decide)
      · exact i0.le (by decide)
      · exact i0.le (by decide)
theorem units8 {A : Around} {k : Nat} (hr : Room k A) : A.units + 8 < cLine := by
  have z := hr.units
  omega

local macro_rules | `(tactic| walk_at "rd") => `(tactic| simp (maxSteps := 2000000) only [dSeq, dRet, dSet, dAsg, dIfS, dDo, dNever, dNext, dPar, dOp, dI, dIc, dIb, dTb, dNotB, dStr, dNeg, dIx, dIxL, dIxR, dVar, dC, dCons, dNil, dCa, dLen, dAbs, dMax, dMin, dIntB, dTupOf, dSum, dAll, dIsi, isInt, isBl, isTup, dAndV, dNotV, dB, dNot, dAnd, dOr, dIf, dCall, dTupI, dTupR, dLstI, dLstR, ints?, tups?, dTake, dDrop, dCatT, dCatL, dItT, dItL, dItR, items?, dLc, Q.l, dIxP, dIx2, dPut, dCallL, dSl3, dKw, dCallD, dRepr, Int.reduceLT, Int.reduceEq, Int.reduceNeg, dForT, dForR, gN, gN0, gN1, gT, gS, slots,
  atI_0, atI_1, atI_2, atI_3, List.map_cons, List.map_nil, List.length_cons, List.length_nil, List.replicate, List.cons_append, List.nil_append, List.append_nil, List.getElem?_cons_zero, List.getElem?_cons_succ, List.set_cons_zero, List.set_cons_succ, Option.some.injEq, Option.map_some, Dt.int.injEq, Dt.bl.injEq, Dt.tup.injEq, Dt.lst.injEq, Dt.lbs.injEq, Dt.rows.injEq, Dt.str.injEq, List.cons.injEq, List.take_succ_cons, List.take_zero, List.drop_succ_cons, List.drop_zero,
  exists_eq_left, exists_eq_left', exists_and_left, exists_and_right, and_true, true_and, reduceCtorEq, false_and, false_or, or_false, exists_false, exists_const, and_self, and_assoc, Nat.reduceAdd, Nat.reduceSub, Nat.reduceLT, Nat.reduceLeDiff, Nat.zero_add, ne_eq, not_false_eq_true, Bool.not_false, Bool.not_true, if_true, if_false, if_pos, Bool.false_eq_true])
section
variable {P : Program} {w : World} {K : PySem.W.Frag} {mg : Str → Option Value} {base : Heap} {f : Addr} {fd : FuncData}

abbrev s_law_pool : Stmt := topS 36
abbrev N_law_pool : List Str := ["_law_script", "_law_k", "_law_cell"]
theorem sc_law_pool : FnScope N_law_pool ["_law_script", "_law_k"] (defScope s_law_pool) := ⟨rfl, rfl, rfl, by decide +kernel, rfl, by decide +kernel, by decide +kernel⟩
def A_law_pool : List Dt → Prop := fun ds => ∃ ys k, ds = [.lst ys, .int k] ∧ 0 ≤ k ∧ k ≤ 5
def C_law_pool : List Dt → Dt → Prop := fun ds d => ∃ x y z : Int, d = .lst [x, y, z] ∧ 0 ≤ x ∧ 0 ≤ y ∧ y < 1000000007 ∧ 0 ≤ z ∧ z ≤ 40000
theorem fn_law_pool (D : Df K mg "_law_pool" s_law_pool f fd) (B : Blt mg) : FnOk P w K mg base CX0 1 f fd ["_law_script", "_law_k"] (spN K A_law_pool C_law_pool) := by
  refine fnN_of D sc_law_pool (by rintro ds ⟨ys, k, rfl, k0, k1⟩; rfl) fun cdv A fr s H E ds hr h => ?_
  obtain ⟨ys, k, rfl, k0, k1⟩ := h
  refine ⟨_, (ps_2 (st_set 2 sc_law_pool.nd pd_int)
      (ps_2 (st_if (pb_lt (pd_v 1) (pd_callB call_len_seq cad_len B.len_ (by decide +kernel) (pa_1 (pd_v 0) pa_0))) (ps_1 (st_set 2 sc_law_pool.nd (pd_ixL (pd_v 0) (pd_v 1)))) ps_0)
      (ps_1 (st_ret (pd_lstI (pa_1 (pd_callB (call_max2 rfl) cad_max B.max_ (by decide +kernel) (pa_1 pd_int (pa_1 (pd_sub (pd_v 2) (pd_pow pd_int pd_int)) pa_0))) (pa_1 (pd_mod (pd_v 2) pd_int) (pa_1 (pd_add (pd_mul pd_int (pd_v 1)) pd_int) pa_0)))))))), ?_⟩
  walk_at "rd"
  have m0 := fun x : Int => Int.emod_nonneg x (show (1000000007 : Int) ≠ 0 by decide)
  have m1 := fun x : Int => Int.emod_lt_of_pos x (show (0 : Int) < 1000000007 by decide)
  by_cases e : k < (ys.length : Int)
  · rw [decide_eq_true e, if_pos rfl]
    have hk : k.toNat < ys.length := by omega
    have ea : atI ys k = some ys[k.toNat] := by
      have z := atI_nat (List.getElem?_eq_getElem hk)
      rw [Int.toNat_of_nonneg k0] at z
      exact z
    exact ⟨_, ea, pow_ok (by decide) (by decide) (by decide), mul64 (by decide) (by omega), _, _, _, rfl, by split <;> omega, m0 _, m1 _, by omega, by omega⟩
  · rw [decide_eq_false e, if_neg Bool.false_ne_true]
    exact ⟨pow_ok (by decide) (by decide) (by decide), mul64 (by decide) (by omega), _, _, _, rfl, by split <;> omega, m0 _, m1 _, by omega, by omega⟩

abbrev s_law_folded : Stmt := topS 38
abbrev N_law_folded : List Str := ["_law_script", "_law_top", "_law_k"]
theorem sc_law_folded : FnScope N_law_folded ["_law_script", "_law_top"] (defScope s_law_folded) := ⟨rfl, rfl, rfl, by decide +kernel, rfl, by decide +kernel, by decide +kernel⟩
def A_law_folded : List Dt → Prop := fun ds => ∃ ns, ds = [.seq ns, .int 5] ∧ ns.length ≤ 1000
def C_law_folded : List Dt → Dt → Prop := fun ds d => ∃ ys, d = .lst ys ∧ ys.length ≤ 5
theorem fn_law_folded (D : Df K mg "_law_folded" s_law_folded f fd) (B : Blt mg) : FnOk P w K mg base CX0 1 f fd ["_law_script", "_law_top"] (spN K A_law_folded C_law_folded) := by
  refine fnN_of D sc_law_folded (by rintro ds ⟨ns, rfl, hl⟩; rfl) fun cdv A fr s H E ds hr h => ?_
  obtain ⟨ns, rfl, hl⟩ := h
  refine ⟨_, (ps_1 (st_ret (pd_lcR 2 rfl sc_law_folded.nd B.range_ (pa_1 (pd_callB (call_max2 rfl) cad_max B.max_ (by decide +kernel) (pa_1 pd_int (pa_1 (pd_callB (call_min2 rfl) cad_min B.min_ (by decide +kernel) (pa_1 (pd_v 1) (pa_1 (pd_callB call_len_seq cad_len B.len_ (by decide +kernel) (pa_1 (pd_v 0) pa_0)) pa_0))) pa_0))) pa_0) (blkOk_by (N := N_law_folded) (sc := defScope s_law_folded) (by decide +kernel)) (fun _ _ _ _ _ => if_0) (fun _ _ _ _ _ => (pd_callB (cr_sum rfl) cad_sum B.sum_ (by decide +kernel) (pa_1 (pd_slice3 (pd_v 0) (pd_v 2) pd_int (pd_v 1)) pa_0))) (hg := fun _ _ _ _ _ => pg_name (i := 2) sc_law_folded.nd rfl (Or.inl rfl))))), ?_⟩
  walk_at "rd"
  have hV : ∀ m : Int, 0 ≤ m → 0 ≤ (if (if m < 5 then m else 5) > 1 then if m < 5 then m else 5 else 1) ∧ (if (if m < 5 then m else 5) > 1 then if m < 5 then m else 5 else 1) ≤ 5 := by
    intro m hm
    by_cases h5 : m < 5
    · rw [if_pos h5]
      split <;> omega
    · rw [if_neg h5]
      split <;> omega
  obtain ⟨v0, v5⟩ := hV (ns.length : Int) (by omega)
  refine ⟨ns, rfl, _, (Int.toNat_of_nonneg v0).symm, by omega, ?_⟩
  refine ⟨fun j acc c' => acc.length = j ∧ j ≤ 5, ⟨rfl, by decide⟩, ?_, ?_⟩
  · rintro j x acc c' hj ⟨a1, a2⟩
    have hj5 : j < 5 := by
      have z := (List.getElem?_eq_some_iff.mp hj).1
      rw [List.length_map, List.length_range] at z
      omega
    obtain ⟨y, _, rfl⟩ := item_of hj
    refine ⟨by omega, ?_⟩
    walk_at "rd"
    exact ⟨⟨ns, rfl⟩, ⟨_, rfl⟩, fun ys => ⟨by rw [List.length_append, a1]; rfl, by omega⟩⟩
  · rintro acc c' ⟨a1, a2⟩
    exact ⟨acc, rfl, by omega⟩

abbrev s_law_right : Stmt := topS 47
abbrev N_law_right : List Str := ["_law_spot", "_law_aim", "_law_told", "_law_north", "_law_back"]
theorem sc_law_right : FnScope N_law_right ["_law_spot", "_law_aim"] (defScope s_law_right) := ⟨rfl, rfl, rfl, by decide +kernel, rfl, by decide +kernel, by decide +kernel⟩
def R_law_right : Rel := fun ds r => ∃ p q : K12.Q, ds = [.tup p.l, .tup q.l] ∧ Pl 200 p ∧ Pl 200 q ∧ r = .bl true
theorem fn_law_right {aN : Addr} (D : Df K mg "_law_right" s_law_right f fd) (B : Blt mg) (hNORTH_at : mg "NORTH" = some (.ref aN)) (hNORTH_is : ∀ H, SqT K H aN ([0, 0, 1, 1].map V.int)) (F_turn_to : KT P w K mg base) (F_is_turn : KP P w K mg base "is_turn" 4 R_is_turn)
    (F_turned_by : KP P w K mg base "turned_by" 6 R_turned_by) (F_turn_undone : KP P w K mg base "turn_undone" 6 R_turn_undone) (F_turn_then : KP P w K mg base "turn_then" 6 R_turn_then) (F_opposite_of : KP P w K mg base "opposite_of" 6 R_opposite_of) :
    FnG P w K mg base 7 f fd ["_law_spot", "_law_aim"] (spP K R_law_right) := by
  refine fnG_of' D sc_law_right (by rintro ds r ⟨p, q, rfl, _, _, rfl⟩; rfl) fun cdv A fr s H E ds r hgd hr h => ?_
  obtain ⟨p, q, rfl, hp, hq, rfl⟩ := h
  refine ⟨_, (ps_2 (st_set 2 sc_law_right.nd (pd_callKw F_turn_to hr (pa_1 (pd_v 0) pa_0) (pd_v 1)))
      (ps_2 (st_if (pb_w (pw_or' (pb_isnot (pd_call F_is_turn hr (pa_1 (pd_v 2) pa_0)) pd_bl) (pw_or' (pb_neT hr.units (pd_callKw F_turn_to hr (pa_1 (pd_v 0) pa_0) (pd_v 1)) (pd_v 2)) (pw_or1' (pb_neS (pd_callB (call_repr4 hgd (units8 hr)) cad_repr B.repr_ (by decide +kernel) (pa_1 (pd_call F_turned_by hr (pa_1 (pd_v 2) (pa_1 (pd_v 0) pa_0))) pa_0)) (pd_callB (call_repr4 hgd (units8 hr)) cad_repr B.repr_ (by decide +kernel) (pa_1 (pd_v 1) pa_0))))))) (ps_1 (st_ret pd_bl)) ps_0)
      (ps_2 (st_if (pb_w (pw_or' (pb_neT hr.units (pd_call F_turned_by hr (pa_1 (pd_call F_turn_undone hr (pa_1 (pd_v 2) pa_0)) (pa_1 (pd_v 1) pa_0))) (pd_v 0)) (pw_or1' (pb_neT hr.units (pd_call F_turned_by hr (pa_1 (pd_v 2) (pa_1 (pd_call F_opposite_of hr (pa_1 (pd_v 0) pa_0)) pa_0))) (pd_call F_opposite_of hr (pa_1 (pd_v 1) pa_0)))))) (ps_1 (st_ret pd_bl)) ps_0)
      (ps_2 (st_set 3 sc_law_right.nd (pd_callD F_turn_to hr (pa_1 (pd_v 0) pa_0)))
      (ps_2 (st_if (pb_w (pw_or' (pb_isnot (pd_call F_is_turn hr (pa_1 (pd_v 3) pa_0)) pd_bl) (pw_or' (pb_neT hr.units (pd_call F_turned_by hr (pa_1 (pd_v 3) (pa_1 (pd_v 0) pa_0))) (pd_globT rfl hNORTH_at hNORTH_is)) (pw_or1' (pb_neT hr.units (pd_callKw F_turn_to hr (pa_1 (pd_v 0) pa_0) (pd_globT rfl hNORTH_at hNORTH_is)) (pd_v 3)))))) (ps_1 (st_ret pd_bl)) ps_0)
      (ps_2 (st_set 4 sc_law_right.nd (pd_call F_turn_then hr (pa_1 (pd_v 3) (pa_1 (pd_callKw F_turn_to hr (pa_1 (pd_globT rfl hNORTH_at hNORTH_is) pa_0) (pd_v 1)) pa_0))))
      (ps_1 (st_ret (pd_and (pd_eqT hr.units (pd_call F_turned_by hr (pa_1 (pd_v 4) (pa_1 (pd_v 0) pa_0))) (pd_v 1)) (pd_one (pd_eqT hr.units (pd_call F_turned_by hr (pa_1 (pd_call F_turn_then hr (pa_1 (pd_v 2) (pa_1 (pd_callD F_turn_to hr (pa_1 (pd_v 1) pa_0)) pa_0))) (pa_1 (pd_v 0) pa_0))) (pd_globT rfl hNORTH_at hNORTH_is)))))))))))), ?_⟩
  have hn : Pl 200 north := ⟨north_place, by decide⟩
  obtain ⟨T1, E1⟩ := turnTo_ok hp.ok hq.ok
  obtain ⟨T2, E2⟩ := turnTo_ok hp.ok hn.ok
  obtain ⟨T3, E3⟩ := turnTo_ok hn.ok hq.ok
  obtain ⟨T4, E4⟩ := turnTo_ok hq.ok hn.ok
  have S1 := turnTo_sml hp hq
  have S2 := turnTo_sml hp hn
  have S3 := turnTo_sml hn hq
  have S4 := turnTo_sml hq hn
  walk_at "rd"
  refine ⟨_, ⟨p, q, rfl, hp, hq, rfl⟩, _, ⟨_, rfl, T1, rfl⟩, _, rfl, ?_⟩
  refine no_way (by decide) ?_
  refine ⟨_, ⟨p, q, rfl, hp, hq, rfl⟩, _, rfl, _, rfl, ?_⟩
  refine no_way (by simp) ?_
  refine ⟨_, ⟨turnTo p q, p, rfl, T1, S1.le (by decide), hp.le (by decide), rfl⟩, ?_⟩
  rw [E1]
  refine ⟨q.a, q.b, q.c, q.d, rfl, lg hq (by simp [Q.l]), lg hq (by simp [Q.l]), lg hq (by simp [Q.l]), lg hq (by simp [Q.l]), lg hq (by simp [Q.l]), lg hq (by simp [Q.l]), lg hq (by simp [Q.l]), lg hq (by simp [Q.l]), ?_⟩
  refine no_way (by simp) ?_
  obtain ⟨T5, E5⟩ := undone_ok T1 hp.ok E1
  have g5 : (conj (turnTo p q)).g ≠ 0 := g_of_N (by rw [N_conj]; exact N_pos (turn_g T1))
  have S5 : Sml 403 (undone (turnTo p q)).l := sml_ti (conj_sml S1) g5
  refine ⟨_, ⟨turnTo p q, rfl, T1, S1.le (by decide), rfl⟩, _, ⟨undone (turnTo p q), q, rfl, T5, S5.le (by decide), hq.le (by decide), rfl⟩, _, rfl, ?_⟩
  refine no_way (by rw [E5]; simp [Q.l]) ?_
  refine ⟨_, ⟨p, rfl, hp.le (by decide), rfl⟩, _, ⟨turnTo p q, opp p, rfl, T1, S1.le (by decide), hp.opp.le (by decide), rfl⟩, _, ⟨q, rfl, hq.le (by decide), rfl⟩, _, rfl, _, rfl, ?_⟩
  refine no_way (by rw [opp_ok T1 hp.ok E1]; simp) ?_
  refine ⟨_, ⟨p, north, rfl, hp, hn, rfl⟩, _, ⟨_, rfl, T2, rfl⟩, _, rfl, ?_⟩
  refine no_way (by decide) ?_
  refine ⟨_, ⟨turnTo p north, p, rfl, T2, S2.le (by decide), hp.le (by decide), rfl⟩, _, rfl, ?_⟩
  refine no_way (by rw [E2]; rfl) ?_
  refine ⟨_, ⟨p, north, rfl, hp, hn, rfl⟩, _, rfl, _, rfl, ?_⟩
  refine no_way (by simp) ?_
  obtain ⟨T6, E6⟩ := thenT_ok T2 T3 hp.ok hq.ok E2 E3
  obtain ⟨T7, E7⟩ := thenT_ok T1 T4 hp.ok hn.ok E1 E4
  have S6 : Sml 809 (thenT (turnTo p north) (turnTo north q)).l := sml_ti (mul_sml S3 S2) (g_of_N (by rw [N_mul]; exact Int.mul_pos (N_pos (turn_g T3)) (N_pos (turn_g T2))))
  have S7 : Sml 809 (thenT (turnTo p q) (turnTo q north)).l := sml_ti (mul_sml S4 S1) (g_of_N (by rw [N_mul]; exact Int.mul_pos (N_pos (turn_g T4)) (N_pos (turn_g T1))))
  refine ⟨_, ⟨north, q, rfl, hn, hq, rfl⟩, _, ⟨turnTo p north, turnTo north q, rfl, T2, T3, S2.le (by decide), S3.le (by decide), rfl⟩, _, ⟨thenT (turnTo p north) (turnTo north q), p, rfl, T6, S6.le (by decide), hp.le (by decide), rfl⟩, _, rfl, ?_⟩
  rw [if_pos (by rw [E6]; exact decide_eq_true rfl)]
  exact ⟨_, ⟨q, north, rfl, hq, hn, rfl⟩, _, ⟨turnTo p q, turnTo q north, rfl, T1, T4, S1.le (by decide), S4.le (by decide), rfl⟩, _, ⟨thenT (turnTo p q) (turnTo q north), p, rfl, T7, S7.le (by decide), hp.le (by decide), rfl⟩, _, rfl, by rw [E7]; exact decide_eq_true rfl⟩
end
end K12
/-! The law. -/
namespace K12
open PySem PySem.Spec PyProof.Rows L2
open K12.Q
/-- .. for a def whose callees ask that no repr is under way -/
structure KG (P : Program) (w : World) (K : PySem.W.Frag) (mg : Str → Option Value) (base : Heap) (x : Str) (k : Nat) (R : Rel) : Prop where
  ex : ∃ f fd ps, mg x = some (.ref f) ∧ PySem.W.keepIn K (.ref f) = true ∧ Binds K fd ps [] ∧ FnG P w K mg base k f fd ps (spP K R)
  fl : ∀ ds r, R ds r → (∀ d ∈ ds, flat d = true) ∧ flat r = true
structure KN (P : Program) (w : World) (K : PySem.W.Frag) (mg : Str → Option Value) (base : Heap) (x : Str) (k : Nat) (A : List Dt → Prop) (C : List Dt → Dt → Prop) : Prop where
  ex : ∃ f fd ps, mg x = some (.ref f) ∧ PySem.W.keepIn K (.ref f) = true ∧ Binds K fd ps [] ∧ FnOk P w K mg base CX0 k f fd ps (spN K A C)
section
variable {K : PySem.W.Frag} {l : Option Addr} {X : Cx} {a e : Expr} {es : List Expr} {pos p : Pos} {ta : DE} {tr : DA} {s1 : DS} {body : List Stmt}
theorem pd_callG {x : Str} {j k : Nat} {R : Rel} (F : KG X.prog X.w K X.mg X.base x j R) (hgd : X.A.guards = some []) (hr : Room k X.A) (ha : PAr K l X (e :: es) tr) (hj : j ≤ k := by decide) (hg : Gl X x := by rfl)
    (hdb : (x == ("__debug__" : Str)) = false := by decide) (he : starEach (e :: es) X.env = (false, eval e X.env) :: starEach es X.env := by rfl) (hpl : (backTo pos (starEach es X.env)).any (·.1) = false := by rfl) :
    PD K l X (.Call (.Name x p) (e :: es) [] pos) (dCall R tr) := by
  have k0 := ha.k
  subst k0
  obtain ⟨f, fd, ps, hm, kp, hb, G⟩ := F.ex
  refine ⟨rfl, (pe_callG G hgd (hr.mono hj) hg hm kp hb ha.pa hdb he hpl).imp fun σ H Q ⟨ρ, c, P, S, q0, q, h⟩ => ?_⟩
  refine ⟨ρ, c, _, S, q0, q, fun vs ds c1 H1 k1 p1 r1 ⟨r, hR, q1⟩ => ?_⟩
  obtain ⟨f1, f2⟩ := F.fl ds r hR
  refine ⟨ds, r, ?_, hR, fun v H2 k2 r2 => h v r c1 H2 (k1.trans k2.wide) (pool_keep p1 k2) (flat_down f2 r2) q1⟩
  rw [List.append_nil]
  exact flats_down r1 f1
/-- over a list of tuples -/
def dForRw (i : Nat) (ta : DE) (s : DS) : DS := fun E ρ c => ta ρ c fun d c1 => ∃ xss, d = .lrows xss ∧ ∃ W : Nat → Dv → Nat → Prop, W 0 ρ c1 ∧
  (∀ j x ρ' c', xss[j]? = some x → W j ρ' c' → s { nx := W (j + 1), rt := E.rt } (ρ'.set i (some (.tup x))) c') ∧ ∀ ρ' c', W xss.length ρ' c' → E.nx ρ' c'
theorem st_forRw (i : Nat) {x : Str} {px : Pos} (hp : PassesOwn (model X.prog X.w) X.A X.env X.xe) (hc : X.calm = true) (hN : X.N.Nodup) (ha : PD K l X a ta) (hb : PSts K l X body s1) (hi : X.N[i]? = some x := by rfl) (hx : Loc X.env.scope x := by first | exact Or.inl rfl | exact Or.inr rfl)
    (hf : X.fn x = true ∨ X.env.scope.names.lookup x = some .local := by first | exact .inl rfl | exact .inr rfl) (hs : ∀ x, foldedSetIterable a X.env x = pure x := by intro _; rfl) : PSt K l X (.For (.Name x px) a body [] pos) (dForRw i ta s1) := by
  have k := ha.k
  subst k
  refine ⟨rfl, (ps_for hp hc (pi_list ha.pe) (pg_name hN hi hx hf) hb.ps hs).imp fun D σ H ⟨ρ, c, E, S, p, q, h1, h2⟩ => ?_⟩
  refine ⟨ρ, c, _, S, p, q, fun v d c1 H1 k1 p1 r1 ⟨xss, e, W, w0, step, fin⟩ => ?_⟩
  subst e
  obtain ⟨A, vs, rfl, hA, nA, pr⟩ := r1
  have hlen : vs.length = xss.length := Paired.length pr
  refine ⟨A, rfl, ⟨_, .of hA⟩, for_list (K := X.K) (a := A) (xs := vs) (fun j σ' H' => ∃ ρ' c', Keep l H1 H' ∧ Pool l H' c' ∧ StX X.K l H' σ' ρ' ∧ W j ρ' c') ⟨ρ, c1, Keep.refl, p1, S.keep p k1, w0⟩ ?_ ?_ ?_⟩
  · rintro j σ' H' _ ⟨ρ', c', kk, _, _, _⟩
    exact .of (kk A _ nA hA)
  · rintro j x σ' H' hj ⟨ρ', c', kk, p', S', w'⟩
    have hji : j < xss.length := by
      have z := (List.getElem?_eq_some_iff.mp hj).1
      omega
    obtain ⟨u, e2, rx⟩ := paired_at pr (List.getElem?_eq_getElem hji)
    rw [hj] at e2
    cases e2
    have rx' : Is X.K l H' x (.tup xss[j]) := TupAt.keep p1 kk rx
    exact ⟨ρ'.set i (some (.tup xss[j])), c', _, S'.set rx', p', step j _ ρ' c' (List.getElem?_eq_getElem hji) w', fun σ2 ρ2 c2 H2 k2 p2 S2 q2 => ⟨ρ2, c2, kk.trans k2, p2, S2, q2⟩, fun v d c2 H2 k2 p2 r2 q2 => h2 v d c2 H2 ((k1.trans kk).trans k2) p2 r2 q2⟩
  · rintro σ' H' ⟨ρ', c', kk, p', S', w'⟩
    rw [hlen] at w'
    exact h1 σ' ρ' c' H' (k1.trans kk) p' S' (fin ρ' c' w')
/-- a statement read at whatever pool there is -/
theorem ps_any {st : Stmt} {dt : DS} (h : ∀ a0, PSt K (some a0) X st dt) : PS X st (fun D σ H => ∃ a0, cnS K (some a0) dt D σ H) := ⟨fun pins s σ H D I ⟨a0, z⟩ => (h a0).ps.run pins s σ H D I z⟩
end

theorem first_four {x : List Int} (h : x ∈ ([[0, 0, 1, 1], [0, 0, -1, 1], [1, 0, 0, 1], [0, -1, 0, 1]] : List (List Int))) : ∃ p : K12.Q, x = p.l ∧ Pl 200 p := by
  simp only [List.mem_cons, List.not_mem_nil, or_false] at h
  rcases h with rfl | rfl | rfl | rfl
  · exact ⟨⟨0, 0, 1, 1⟩, rfl, ⟨by decide, by decide, by decide⟩, by decide⟩
  · exact ⟨⟨0, 0, -1, 1⟩, rfl, ⟨by decide, by decide, by decide⟩, by decide⟩
  · exact ⟨⟨1, 0, 0, 1⟩, rfl, ⟨by decide, by decide, by decide⟩, by decide⟩
  · exact ⟨⟨0, -1, 0, 1⟩, rfl, ⟨by decide, by decide, by decide⟩, by decide⟩
theorem second_four {x : List Int} (h : x ∈ ([[0, 0, 1, 1], [0, 0, -1, 1], [-1, 0, 0, 1], [0, 1, 0, 1]] : List (List Int))) : ∃ p : K12.Q, x = p.l ∧ Pl 200 p := by
  simp only [List.mem_cons, List.not_mem_nil, or_false] at h
  rcases h with rfl | rfl | rfl | rfl
  · exact ⟨⟨0, 0, 1, 1⟩, rfl, ⟨by decide, by decide, by decide⟩, by decide⟩
  · exact ⟨⟨0, 0, -1, 1⟩, rfl, ⟨by decide, by decide, by decide⟩, by decide⟩
  · exact ⟨⟨-1, 0, 0, 1⟩, rfl, ⟨by decide, by decide, by decide⟩, by decide⟩
  · exact ⟨⟨0, 1, 0, 1⟩, rfl, ⟨by decide, by decide, by decide⟩, by decide⟩

local macro_rules | `(tactic| walk_at "rd") => `(tactic| simp (maxSteps := 2000000) only [dSeq, dRet, dSet, dAsg, dIfS, dDo, dNever, dNext, dPar, dOp, dI, dIc, dIb, dTb, dNotB, dStr, dNeg, dIx, dIxL, dIxR, dVar, dC, dCons, dNil, dCa, dLen, dAbs, dMax, dMin, dIntB, dTupOf, dSum, dAll, dIsi, isInt, isBl, isTup, dAndV, dNotV, dB, dNot, dAnd, dOr, dIf, dCall, dTupI, dTupR, dLstI, dLstR, ints?, tups?, dTake, dDrop, dCatT, dCatL, dItT, dItL, dItR, items?, dLc, Q.l, dIxP, dIx2, dPut, dCallL, dSl3, dKw, dCallD, dRepr, dForRw, Int.reduceLT, Int.reduceEq, Int.reduceNeg, dForT, dForR, gN, gN0, gN1, gT, gS, slots,
  atI_0, atI_1, atI_2, atI_3, List.map_cons, List.map_nil, List.length_cons, List.length_nil, List.replicate, List.cons_append, List.nil_append, List.append_nil, List.getElem?_cons_zero, List.getElem?_cons_succ, List.set_cons_zero, List.set_cons_succ, Option.some.injEq, Option.map_some, Dt.int.injEq, Dt.bl.injEq, Dt.tup.injEq, Dt.lst.injEq, Dt.lbs.injEq, Dt.rows.injEq, Dt.str.injEq, List.cons.injEq, List.take_succ_cons, List.take_zero, List.drop_succ_cons, List.drop_zero,
  exists_eq_left, exists_eq_left', exists_and_left, exists_and_right, and_true, true_and, reduceCtorEq, false_and, false_or, or_false, exists_false, exists_const, and_self, and_assoc, Nat.reduceAdd, Nat.reduceSub, Nat.reduceLT, Nat.reduceLeDiff, Nat.zero_add, ne_eq, not_false_eq_true, Bool.not_false, Bool.not_true, if_true, if_false, if_pos, Bool.false_eq_true])
section
variable {P : Program} {w : World} {K : PySem.W.Frag} {mg : Str → Option Value} {base : Heap} {f : Addr} {fd : FuncData}

abbrev s_law : Stmt := topS 48
abbrev N_law : List Str := ["_law_script", "_law_cells", "_law_k", "_law_pool_here", "_law_turn", "_law_spot", "_law_aim"]
theorem sc_law : FnScope N_law ["_law_script"] (defScope s_law) := ⟨rfl, rfl, rfl, by decide +kernel, rfl, by decide +kernel, by decide +kernel⟩
def spLaw (K : PySem.W.Frag) : Sp := fun vs H Q _ => ∃ (a : Addr) (ns : List Int), vs = [.ref a] ∧ SqL K H a (ns.map V.int) ∧ ns.length ≤ 63 ∧ ∀ H', Q (.bl true) H'
theorem fn_law {aN aS : Addr} (D : Df K mg "law" s_law f fd) (B : Blt mg) (hNORTH_at : mg "NORTH" = some (.ref aN)) (hNORTH_is : ∀ H, SqT K H aN ([0, 0, 1, 1].map V.int)) (hSTILL_at : mg "STILL" = some (.ref aS)) (hSTILL_is : ∀ H, SqT K H aS ([1, 0, 0, 0].map V.int))
    (F_folded : KN P w K mg base "_law_folded" 1 A_law_folded C_law_folded) (F_pool : KN P w K mg base "_law_pool" 1 A_law_pool C_law_pool) (F_law_place : KL P w K mg base "_law_place" 4 A_law_place C_law_place)
    (F_law_goal : KL P w K mg base "_law_goal" 5 A_law_goal C_law_goal) (F_law_right : KG P w K mg base "_law_right" 7 R_law_right) (F_turned_by : KP P w K mg base "turned_by" 6 R_turned_by) : FnG P w K mg base 8 f fd ["_law_script"] (spLaw K) := by
  refine fnG_of D.fn sc_law (by rintro vs H Q E ⟨a, ns, rfl, _⟩; rfl) fun cdv A fr s H vs Q E hgd hr h => ?_
  obtain ⟨a, ns, rfl, hS, hlen, fin⟩ := h
  obtain ⟨f1, fd1, ps1, m1, kp1, b1, G1⟩ := F_folded.ex
  obtain ⟨f2, fd2, ps2, m2, kp2, b2, G2⟩ := F_pool.ex
  refine ⟨_, pss_cons (ps_set (i := 1) sc_law.nd rfl (Or.inl rfl) (pe_call G1 (hr.mono (by decide)) rfl m1 kp1 b1 .nil pass0 (pa_cons (pv 0) (pa_cons pe_int pa_nil))))
    (pss_cons (ps_for PassesOwn.never rfl (pi_range1 rfl B.range_ (pa_cons (pe_callB call_len_seq rfl B.len_ (by decide +kernel) (pa_cons (pv 1) pa_nil)) pa_nil)) (pg_name (i := 2) sc_law.nd rfl (Or.inl rfl))
      (pss_cons (ps_set (i := 3) sc_law.nd rfl (Or.inl rfl) (pe_call G2 (hr.mono (by decide)) rfl m2 kp2 b2 .nil pass0 (pa_cons (pv 1) (pa_cons (pv 2) pa_nil))))
        (pss_one (ps_any fun a0 => (st_forR 4 PassesOwn.never rfl sc_law.nd B.range_ (pa_1 pd_int pa_0) (ps_2 (st_set 5 sc_law.nd (pd_callL F_law_place hr (pa_1 (pd_v 3) pa_0)))
      (ps_1 (st_if (pb_not (pb_of (pd_callG F_law_right hgd hr (pa_1 (pd_v 5) (pa_1 (pd_callL F_law_goal hr (pa_1 (pd_v 3) (pa_1 (pd_v 5) pa_0))) pa_0))))) (ps_1 (st_ret pd_bl)) ps_0))))))))
      (PSts.ps (K := K) (l := none) (ps_2 (st_forRw 5 PassesOwn.never rfl sc_law.nd (pd_lstR (pa_1 (pd_tupI (pa_1 pd_int (pa_1 pd_int (pa_1 pd_int (pa_1 pd_int pa_0))))) (pa_1 (pd_tupI (pa_1 pd_int (pa_1 pd_int (pa_1 (pd_neg pd_int) (pa_1 pd_int pa_0))))) (pa_1 (pd_tupI (pa_1 pd_int (pa_1 pd_int (pa_1 pd_int (pa_1 pd_int pa_0))))) (pa_1 (pd_tupI (pa_1 pd_int (pa_1 (pd_neg pd_int) (pa_1 pd_int (pa_1 pd_int pa_0))))) pa_0))))) (ps_1 (st_forRw 6 PassesOwn.never rfl sc_law.nd (pd_lstR (pa_1 (pd_tupI (pa_1 pd_int (pa_1 pd_int (pa_1 pd_int (pa_1 pd_int pa_0))))) (pa_1 (pd_tupI (pa_1 pd_int (pa_1 pd_int (pa_1 (pd_neg pd_int) (pa_1 pd_int pa_0))))) (pa_1 (pd_tupI (pa_1 (pd_neg pd_int) (pa_1 pd_int (pa_1 pd_int (pa_1 pd_int pa_0))))) (pa_1 (pd_tupI (pa_1 pd_int (pa_1 pd_int (pa_1 pd_int (pa_1 pd_int pa_0))))) pa_0))))) (ps_1 (st_if (pb_not (pb_of (pd_callG F_law_right hgd hr (pa_1 (pd_v 5) (pa_1 (pd_v 6) pa_0))))) (ps_1 (st_ret pd_bl)) ps_0)))))
      (ps_1 (st_ret (pd_eqT hr.units (pd_call F_turned_by hr (pa_1 (pd_globT rfl hSTILL_at hSTILL_is) (pa_1 (pd_globT rfl hNORTH_at hNORTH_is) pa_0))) (pd_globT rfl hNORTH_at hNORTH_is))))))), ?_⟩
  refine ⟨V.ref a, rfl, [.seq ns, .int 5], .cons ⟨a, rfl, hS, by simp⟩ (.cons rfl .nil), ⟨ns, rfl, by omega⟩, ?_⟩
  rintro v d H1 k1 r1 ⟨ys, rfl, hy⟩
  obtain ⟨b, rfl, hb, _⟩ := r1
  have hyl : (ys.map V.int).length = ys.length := List.length_map _
  refine ⟨V.ref b, rfl, b, _, rfl, .inl (.of hb), _, rfl, by omega, by omega, ?_⟩
  refine for_range (lo := 0) (n := (((ys.map V.int).length : Nat) : Int).toNat) (fun _ σ' H' => σ'.length = 7 ∧ σ'[1]? = some (some (V.ref b)) ∧ ∃ zs : List Int, H' b = some (.lst (zs.map V.int))) ⟨rfl, rfl, ys, hb⟩ ?_ ?_
  · rintro j σ' H' hj ⟨hl, h1, zs, hz⟩
    have hj5 : j < 5 := by omega
    refine ⟨V.ref b, by rw [List.getElem?_set_ne (by decide)]; exact h1, V.int (0 + (j : Int)), List.getElem?_set_self (by omega), [.lst zs, .int (0 + (j : Int))], .cons ⟨b, rfl, hz, by simp⟩ (.cons rfl .nil), ⟨zs, _, rfl, by omega, by omega⟩, ?_⟩
    rintro v d H3 k3 r3 ⟨x, y, z, rfl, hx, hy0, hy1, hz0, hz1⟩
    obtain ⟨a0, rfl, ha0, _⟩ := r3
    refine ⟨a0, [none, some (.raw (V.ref b)), none, some .pool, none, none, none], 40000, { nx := fun ρ _ => ρ.length = 7 ∧ ρ[1]? = some (some (.raw (V.ref b))), rt := fun _ _ => False }, ?_, ⟨x, y, z, ha0, hx, hy0, hy1, hz0, by omega⟩, ?_, ?_, fun _ _ _ _ _ _ _ f => f.elim⟩
    · refine ⟨by rw [List.length_set, List.length_set]; exact hl, fun i d e => ?_⟩
      match i, e with
      | 1, e =>
        cases e
        exact ⟨V.ref b, by rw [List.getElem?_set_ne (by decide), List.getElem?_set_ne (by decide)]; exact h1, rfl⟩
      | 3, e =>
        cases e
        exact ⟨V.ref a0, List.getElem?_set_self (by rw [List.length_set]; omega), a0, rfl, rfl⟩
      | 0, e => cases e
      | 2, e => cases e
      | 4, e => cases e
      | 5, e => cases e
      | 6, e => cases e
      | i + 7, e => simp at e
    · walk_at "rd"
      refine ⟨4, rfl, by decide, fun j ρ c => ∃ o4 o5, ρ = [none, some (.raw (V.ref b)), none, some .pool, o4, o5, none] ∧ c ≤ 40000 + 36 * j, ⟨none, none, rfl, by omega⟩, ?_, ?_⟩
      · rintro j ρ c hj ⟨o4, o5, rfl, hc⟩
        walk_at "rd"
        refine ⟨⟨rfl, by omega⟩, ?_⟩
        rintro d c2 ⟨p, rfl, hp, hc2⟩
        refine ⟨⟨p, rfl, hp, by omega⟩, ?_⟩
        rintro d c3 ⟨q, rfl, hq, hc3⟩
        exact ⟨_, ⟨p, q, rfl, hp, hq, rfl⟩, _, rfl, no_way rfl (by omega)⟩
      · rintro ρ c ⟨o4, o5, rfl, hc⟩
        exact ⟨rfl, rfl⟩
    · rintro σ4 ρ4 c4 H4 k4 p4 S4 ⟨e1, e2⟩
      obtain ⟨v, e3, e4⟩ := S4.2 1 _ e2
      have e4 : v = V.ref b := e4
      subst e4
      refine ⟨S4.1.trans e1, e3, ?_⟩
      by_cases hab : b = a0
      · obtain ⟨x', y', z', h', _⟩ := p4
        exact ⟨[x', y', z'], by rw [hab]; exact h'⟩
      · exact ⟨zs, k4 b _ (fun q => hab (Option.some.inj q)) (k3 b _ (by simp) hz)⟩
  · rintro σ' H' ⟨hl, _⟩
    refine ⟨List.replicate 7 none, 0, { nx := fun _ _ => False, rt := fun d _ => d = .bl true }, ⟨hl, fun i d e => ?_⟩, trivial, ?_, fun _ _ _ _ _ _ _ f => f.elim, fun v d c' H2 _ _ r2 e => ?_⟩
    · rw [List.getElem?_replicate] at e
      split at e <;> cases e
    · walk_at "rd"
      refine ⟨_, rfl, fun _ ρ _ => ρ.length = 7, rfl, ?_, ?_⟩
      · rintro j x ρ c hj hl
        obtain ⟨p, rfl, hp⟩ := first_four (List.mem_of_getElem? hj)
        refine ⟨_, rfl, fun _ ρ' _ => ρ'.length = 7 ∧ ρ'[5]? = some (some (.tup p.l)), ⟨by rw [List.length_set]; exact hl, List.getElem?_set_self (by omega)⟩, ?_, fun ρ' c' h => h.1⟩
        rintro j2 x2 ρ2 c2 hj2 ⟨hl2, h5⟩
        obtain ⟨q, rfl, hq⟩ := second_four (List.mem_of_getElem? hj2)
        refine ⟨.tup p.l, by rw [List.getElem?_set_ne (by decide)]; exact h5, .tup q.l, List.getElem?_set_self (by omega), _, ⟨p, q, rfl, hp, hq, rfl⟩, _, rfl, no_way rfl ?_⟩
        exact ⟨by rw [List.length_set]; exact hl2, by rw [List.getElem?_set_ne (by decide)]; exact h5⟩
      · rintro ρ c _
        refine ⟨_, ⟨⟨1, 0, 0, 0⟩, north, rfl, ⟨by decide, by decide⟩, ?_, ⟨north_place, by decide⟩, rfl⟩, _, rfl, by decide⟩
        intro x hx
        have i0 : Bd (0 : Int) 1 := inferInstance
        have i1 : Bd (1 : Int) 1 := inferInstance
        have hx : x ∈ ([1, 0, 0, 0] : List Int) := hx
        simp only [List.mem_cons, List.not_mem_nil, or_false] at hx
        rcases hx with rfl | rfl | rfl | rfl
        · exact i1.le (by decide)
        · exact i0.le (by decide)
        · exact i0.le (by decide)
        · exact i0.le (by decide)
    · subst e
      have r2 : v = V.bl true := r2
      subst r2
      exact fin H2
end
end K12
/-! The end: what the top has written, the head. -/
namespace K12
open PySem PySem.Spec PyProof.Rows L2
open K12.Q
theorem df_mk {h : Heap} {K : PySem.W.Frag} {mg : Str → Option Value} {x : Str} {st : Stmt} {f : Addr} {oc : Value} {od an : Option Addr} {osl : Array (Option Value)} {kV doc pm cdv ct : Value} (X : K.In h) (G : h.Ns mainGlobals mg) (a : PySem.W.nsIn K mainGlobals x = some (some (.ref f)))
    (l : K.lookup f = some ⟨oc, od, .func (PySem.W.fnOf x x (defArgs st) (defBody st) (defScope st) .none kV doc pm an cdv ct), osl⟩) (c : PySem.W.codeIn K cdv x = true) (k : PySem.W.keepIn K (.ref f) = true) :
    Df K mg x st f (PySem.W.fnOf x x (defArgs st) (defBody st) (defScope st) .none kV doc pm an cdv ct) := ⟨fun_mk l c k, PySem.W.mg_of X G a⟩
theorem sqT_mk {K : PySem.W.Frag} {a : Addr} {dd : Option Addr} {n : Nat} {sl : Array (Option Value)} {x y z w : Int} {t1 t2 t3 t4 : Tok} (h : K.lookup a = some ⟨.type "tuple", dd, .seq #[.int x t1, .int y t2, .int z t3, .int w t4] n, sl⟩) (H : Hp) : SqT K H a ([x, y, z, w].map V.int) :=
  .inr ⟨_, _, n, h, rfl, rfl, by show 4 ≤ sizeLine; decide, .cons ⟨_, rfl⟩ (.cons ⟨_, rfl⟩ (.cons ⟨_, rfl⟩ (.cons ⟨_, rfl⟩ .nil)))⟩
/-- the turn from place to place, by its default and by its keyword -/
theorem kt_mk {P : Program} {w : World} {K : PySem.W.Frag} {mg : Str → Option Value} {base : Heap} {f aN Dk : Addr} {oc : Value} {od an : Option Addr} {osl : Array (Option Value)} {doc pm cdv ct : Value} {fd : FuncData}
    (efd : fd = PySem.W.fnOf "turn_to" "turn_to" (defArgs s_turn_to) (defBody s_turn_to) (defScope s_turn_to) .none (.ref Dk) doc pm an cdv ct) (l : K.lookup f = some ⟨oc, od, .func fd, osl⟩) (c : PySem.W.codeIn K cdv "turn_to" = true)
    (D : Df K mg "turn_to" s_turn_to f fd) (g : PySem.W.nsIn K Dk "goal" = some (some (.ref aN))) (hN : ∀ H, SqT K H aN ([0, 0, 1, 1].map V.int)) (F : FnOk P w K mg base CX0 6 f fd ["place", "goal"] (spP K R_turn_to)) : KT P w K mg base := by
  have FD : FunD K "turn_to" "turn_to" (defArgs s_turn_to) (defBody s_turn_to) (defScope s_turn_to) [] [("goal", V.ref aN)] f fd :=
    ⟨⟨oc, od, .none, .ref Dk, doc, pm, an, cdv, ct, osl, efd, l, c, .inl ⟨rfl, rfl⟩, .inr ⟨Dk, rfl, fun q hq => by
      have e : q = (("goal" : Str), V.ref aN) := List.mem_singleton.mp hq
      subst e
      exact ⟨.ref aN, g, rfl⟩⟩⟩, D.fn.kp⟩
  obtain ⟨ds, hv, hb⟩ := FD.binds0 (ps := ["place", "goal"]) 1 (by simp) rfl (fun D doc pm an cdv ct us ks h1 h2 => by
    match us, ks, h1, h2 with
    | [u], [k], _, _ => exact ⟨_, _, _, _, _, _, rfl, rfl, rfl⟩)
  refine ⟨f, fd, ds, aN, D.at_, D.fn.kp, F, ⟨fun s us ws _ h1 h2 => ?_, fun r1 r2 => r1.append r2⟩, hv, hb, hN⟩
  subst efd
  match us, ws, h1, h2 with
  | [u], [v], _, _ => exact .of_eq rfl
/-- every def keeps its promise, the law's too -/
theorem build {P : Program} {w : World} {K : PySem.W.Frag} {mg : Str → Option Value} {base : Heap} {aN aS : Addr} (B : Blt mg) (hNORTH_at : mg "NORTH" = some (.ref aN)) (hNORTH_is : ∀ H, SqT K H aN ([0, 0, 1, 1].map V.int)) (hSTILL_at : mg "STILL" = some (.ref aS)) (hSTILL_is : ∀ H, SqT K H aS ([1, 0, 0, 0].map V.int))
    {f_is_whole : Addr} {fd_is_whole : FuncData} (D_is_whole : Df K mg "is_whole" s_is_whole f_is_whole fd_is_whole)
    {f_are_whole : Addr} {fd_are_whole : FuncData} (D_are_whole : Df K mg "are_whole" s_are_whole f_are_whole fd_are_whole)
    {f_shared_part : Addr} {fd_shared_part : FuncData} (D_shared_part : Df K mg "shared_part" s_shared_part f_shared_part fd_shared_part)
    {f_part_of_all : Addr} {fd_part_of_all : FuncData} (D_part_of_all : Df K mg "part_of_all" s_part_of_all f_part_of_all fd_part_of_all)
    {f_lowest_row : Addr} {fd_lowest_row : FuncData} (D_lowest_row : Df K mg "lowest_row" s_lowest_row f_lowest_row fd_lowest_row)
    {f_is_lowest : Addr} {fd_is_lowest : FuncData} (D_is_lowest : Df K mg "is_lowest" s_is_lowest f_is_lowest fd_is_lowest)
    {f_dot : Addr} {fd_dot : FuncData} (D_dot : Df K mg "dot" s_dot f_dot fd_dot)
    {f_cross : Addr} {fd_cross : FuncData} (D_cross : Df K mg "cross" s_cross f_cross fd_cross)
    {f_is_place : Addr} {fd_is_place : FuncData} (D_is_place : Df K mg "is_place" s_is_place f_is_place fd_is_place)
    {f_is_mark : Addr} {fd_is_mark : FuncData} (D_is_mark : Df K mg "is_mark" s_is_mark f_is_mark fd_is_mark)
    {f_need_place : Addr} {fd_need_place : FuncData} (D_need_place : Df K mg "need_place" s_need_place f_need_place fd_need_place)
    {f_need_mark : Addr} {fd_need_mark : FuncData} (D_need_mark : Df K mg "need_mark" s_need_mark f_need_mark fd_need_mark)
    {f_are_apart : Addr} {fd_are_apart : FuncData} (D_are_apart : Df K mg "are_apart" s_are_apart f_are_apart fd_are_apart)
    {f_opposite_of : Addr} {fd_opposite_of : FuncData} (D_opposite_of : Df K mg "opposite_of" s_opposite_of f_opposite_of fd_opposite_of)
    {f_leader : Addr} {fd_leader : FuncData} (D_leader : Df K mg "leader" s_leader f_leader fd_leader)
    {f_is_turn : Addr} {fd_is_turn : FuncData} (D_is_turn : Df K mg "is_turn" s_is_turn f_is_turn fd_is_turn)
    {f_need_turn : Addr} {fd_need_turn : FuncData} (D_need_turn : Df K mg "need_turn" s_need_turn f_need_turn fd_need_turn)
    {f_turn_in : Addr} {fd_turn_in : FuncData} (D_turn_in : Df K mg "turn_in" s_turn_in f_turn_in fd_turn_in)
    {f_stretch_of : Addr} {fd_stretch_of : FuncData} (D_stretch_of : Df K mg "stretch_of" s_stretch_of f_stretch_of fd_stretch_of)
    {f_rows_of : Addr} {fd_rows_of : FuncData} (D_rows_of : Df K mg "rows_of" s_rows_of f_rows_of fd_rows_of)
    {f_turned_in : Addr} {fd_turned_in : FuncData} (D_turned_in : Df K mg "turned_in" s_turned_in f_turned_in fd_turned_in)
    {f_turned_by : Addr} {fd_turned_by : FuncData} (D_turned_by : Df K mg "turned_by" s_turned_by f_turned_by fd_turned_by)
    {f_turn_then : Addr} {fd_turn_then : FuncData} (D_turn_then : Df K mg "turn_then" s_turn_then f_turn_then fd_turn_then)
    {f_turn_undone : Addr} {fd_turn_undone : FuncData} (D_turn_undone : Df K mg "turn_undone" s_turn_undone f_turn_undone fd_turn_undone)
    {f_turn_to : Addr} {fd_turn_to : FuncData} (D_turn_to : Df K mg "turn_to" s_turn_to f_turn_to fd_turn_to)
    {f_law_pool : Addr} {fd_law_pool : FuncData} (D_law_pool : Df K mg "_law_pool" s_law_pool f_law_pool fd_law_pool)
    {f_law_take : Addr} {fd_law_take : FuncData} (D_law_take : Df K mg "_law_take" s_law_take f_law_take fd_law_take)
    {f_law_folded : Addr} {fd_law_folded : FuncData} (D_law_folded : Df K mg "_law_folded" s_law_folded f_law_folded fd_law_folded)
    {f_law_great : Addr} {fd_law_great : FuncData} (D_law_great : Df K mg "_law_great" s_law_great f_law_great fd_law_great)
    {f_law_shared : Addr} {fd_law_shared : FuncData} (D_law_shared : Df K mg "_law_shared" s_law_shared f_law_shared fd_law_shared)
    {f_law_lowest : Addr} {fd_law_lowest : FuncData} (D_law_lowest : Df K mg "_law_lowest" s_law_lowest f_law_lowest fd_law_lowest)
    {f_law_at : Addr} {fd_law_at : FuncData} (D_law_at : Df K mg "_law_at" s_law_at f_law_at fd_law_at)
    {f_law_opposite : Addr} {fd_law_opposite : FuncData} (D_law_opposite : Df K mg "_law_opposite" s_law_opposite f_law_opposite fd_law_opposite)
    {f_law_turned : Addr} {fd_law_turned : FuncData} (D_law_turned : Df K mg "_law_turned" s_law_turned f_law_turned fd_law_turned)
    {f_law_place : Addr} {fd_law_place : FuncData} (D_law_place : Df K mg "_law_place" s_law_place f_law_place fd_law_place)
    {f_law_goal : Addr} {fd_law_goal : FuncData} (D_law_goal : Df K mg "_law_goal" s_law_goal f_law_goal fd_law_goal)
    {f_law_right : Addr} {fd_law_right : FuncData} (D_law_right : Df K mg "_law_right" s_law_right f_law_right fd_law_right)
    {f_law : Addr} {fd_law : FuncData} (D_law : Df K mg "law" s_law f_law fd_law)
    (KTt : FnOk P w K mg base CX0 6 f_turn_to fd_turn_to ["place", "goal"] (spP K R_turn_to) → KT P w K mg base) : FnG P w K mg base 8 f_law fd_law ["_law_script"] (spLaw K) := by
  have F_is_whole := kp_is_whole (P := P) (w := w) (base := base) D_is_whole B 
  have F_are_whole := kp_are_whole (P := P) (w := w) (base := base) D_are_whole B F_is_whole
  have F_shared_part := kp_shared_part (P := P) (w := w) (base := base) D_shared_part B 
  have F_part_of_all := kp_part_of_all (P := P) (w := w) (base := base) D_part_of_all B F_shared_part
  have F_lowest_row := kp_lowest_row (P := P) (w := w) (base := base) D_lowest_row B F_part_of_all
  have F_is_lowest := kp_is_lowest (P := P) (w := w) (base := base) D_is_lowest B F_are_whole F_part_of_all
  have F_dot := kp_dot (P := P) (w := w) (base := base) D_dot B 
  have F_cross := kp_cross (P := P) (w := w) (base := base) D_cross B 
  have F_is_place := kp_is_place (P := P) (w := w) (base := base) D_is_place B F_is_lowest F_dot
  have F_is_mark := kp_is_mark (P := P) (w := w) (base := base) D_is_mark B F_is_lowest
  have F_need_place := kp_need_place (P := P) (w := w) (base := base) D_need_place B F_is_place
  have F_need_mark := kp_need_mark (P := P) (w := w) (base := base) D_need_mark B F_is_place F_is_mark
  have F_are_apart := kp_are_apart (P := P) (w := w) (base := base) D_are_apart B F_cross
  have F_opposite_of := kp_opposite_of (P := P) (w := w) (base := base) D_opposite_of B F_need_mark
  have F_leader := kp_leader (P := P) (w := w) (base := base) D_leader B 
  have F_is_turn := kp_is_turn (P := P) (w := w) (base := base) D_is_turn B F_is_lowest F_leader
  have F_need_turn := kp_need_turn (P := P) (w := w) (base := base) D_need_turn B F_is_turn
  have F_turn_in := kp_turn_in (P := P) (w := w) (base := base) D_turn_in B F_lowest_row F_leader
  have F_stretch_of := kp_stretch_of (P := P) (w := w) (base := base) D_stretch_of B 
  have F_rows_of := kp_rows_of (P := P) (w := w) (base := base) D_rows_of B 
  have F_turned_in := kp_turned_in (P := P) (w := w) (base := base) D_turned_in B F_rows_of F_dot F_stretch_of F_lowest_row
  have F_turned_by := kp_turned_by (P := P) (w := w) (base := base) D_turned_by B F_need_turn F_need_mark F_turned_in
  have F_turn_then := kp_turn_then (P := P) (w := w) (base := base) D_turn_then B F_need_turn F_turn_in
  have F_turn_undone := kp_turn_undone (P := P) (w := w) (base := base) D_turn_undone B F_need_turn F_turn_in
  have F_turn_to : KT P w K mg base := KTt (fn_turn_to D_turn_to B hNORTH_at hNORTH_is F_need_place F_dot F_cross F_turn_in F_are_apart)
  have F_law_pool : KN P w K mg base "_law_pool" 1 A_law_pool C_law_pool := ⟨_, _, _, D_law_pool.at_, D_law_pool.fn.kp, D_law_pool.fn.binds (fun _ _ _ _ _ _ us hl => match us, hl with | [_, _], _ => rfl), fn_law_pool D_law_pool B⟩
  have F_law_take := kl_law_take (P := P) (w := w) (base := base) D_law_take B 
  have F_law_folded : KN P w K mg base "_law_folded" 1 A_law_folded C_law_folded := ⟨_, _, _, D_law_folded.at_, D_law_folded.fn.kp, D_law_folded.fn.binds (fun _ _ _ _ _ _ us hl => match us, hl with | [_, _], _ => rfl), fn_law_folded D_law_folded B⟩
  have F_law_great := kl_law_great (P := P) (w := w) (base := base) D_law_great B F_law_take
  have F_law_shared := kp_law_shared (P := P) (w := w) (base := base) D_law_shared B 
  have F_law_lowest := kp_law_lowest (P := P) (w := w) (base := base) D_law_lowest B F_law_shared
  have F_law_at := kp_law_at (P := P) (w := w) (base := base) D_law_at B F_law_lowest
  have F_law_opposite := kp_law_opposite (P := P) (w := w) (base := base) D_law_opposite B 
  have F_law_turned := kp_law_turned (P := P) (w := w) (base := base) D_law_turned B F_law_lowest
  have F_law_place := kl_law_place (P := P) (w := w) (base := base) D_law_place B F_law_take F_law_great F_law_at
  have F_law_goal := kl_law_goal (P := P) (w := w) (base := base) D_law_goal B F_law_take F_law_place F_law_opposite F_law_lowest F_law_turned
  have F_law_right : KG P w K mg base "_law_right" 7 R_law_right := ⟨⟨_, _, _, D_law_right.at_, D_law_right.fn.kp, D_law_right.fn.binds (fun _ _ _ _ _ _ us hl => match us, hl with | [_, _], _ => rfl), fn_law_right D_law_right B hNORTH_at hNORTH_is F_turn_to F_is_turn F_turned_by F_turn_undone F_turn_then F_opposite_of⟩, by rintro ds r ⟨p, q, rfl, _, _, rfl⟩; simp [flat]⟩
  exact fn_law D_law B hNORTH_at hNORTH_is hSTILL_at hSTILL_is F_law_folded F_law_pool F_law_place F_law_goal F_law_right F_turned_by
theorem all_mk {l : PySem.W.OpenLaw} {w : World} {K : PySem.W.Frag} {h : Heap} {mg : Str → Option Value} {fa aN aS Dk : Addr} {dN dS : Option Addr} {nN nS : Nat} {slN slS : Array (Option Value)} {tN1 tN2 tN3 tN4 tS1 tS2 tS3 tS4 : Tok} (X : K.In h) (G : h.Ns mainGlobals mg) (hfa : mg "law" = some (.ref fa))
    (aNo : PySem.W.nsIn K mainGlobals "NORTH" = some (some (.ref aN))) (lNo : K.lookup aN = some ⟨.type "tuple", dN, .seq #[.int 0 tN1, .int 0 tN2, .int 1 tN3, .int 1 tN4] nN, slN⟩)
    (aSt : PySem.W.nsIn K mainGlobals "STILL" = some (some (.ref aS))) (lSt : K.lookup aS = some ⟨.type "tuple", dS, .seq #[.int 1 tS1, .int 0 tS2, .int 0 tS3, .int 0 tS4] nS, slS⟩)
    (z_abs : PySem.W.nsIn K mainGlobals "abs" = some none)
    (z_isinstance : PySem.W.nsIn K mainGlobals "isinstance" = some none)
    (z_tuple : PySem.W.nsIn K mainGlobals "tuple" = some none)
    (z_len : PySem.W.nsIn K mainGlobals "len" = some none)
    (z_all : PySem.W.nsIn K mainGlobals "all" = some none)
    (z_sum : PySem.W.nsIn K mainGlobals "sum" = some none)
    (z_range : PySem.W.nsIn K mainGlobals "range" = some none)
    (z_max : PySem.W.nsIn K mainGlobals "max" = some none)
    (z_min : PySem.W.nsIn K mainGlobals "min" = some none)
    (z_repr : PySem.W.nsIn K mainGlobals "repr" = some none)
    (z_int : PySem.W.nsIn K mainGlobals "int" = some none)
    (z_bool : PySem.W.nsIn K mainGlobals "bool" = some none)
    {f_is_whole : Addr} {od_is_whole an_is_whole : Option Addr} {sl_is_whole : Array (Option Value)} {oc_is_whole kV_is_whole dc_is_whole pm_is_whole cd_is_whole ct_is_whole : Value} (a_is_whole : PySem.W.nsIn K mainGlobals "is_whole" = some (some (.ref f_is_whole)))
      (l_is_whole : K.lookup f_is_whole = some ⟨oc_is_whole, od_is_whole, .func (PySem.W.fnOf "is_whole" "is_whole" (defArgs s_is_whole) (defBody s_is_whole) (defScope s_is_whole) .none kV_is_whole dc_is_whole pm_is_whole an_is_whole cd_is_whole ct_is_whole), sl_is_whole⟩) (c_is_whole : PySem.W.codeIn K cd_is_whole "is_whole" = true) (k_is_whole : PySem.W.keepIn K (.ref f_is_whole) = true)
    {f_are_whole : Addr} {od_are_whole an_are_whole : Option Addr} {sl_are_whole : Array (Option Value)} {oc_are_whole kV_are_whole dc_are_whole pm_are_whole cd_are_whole ct_are_whole : Value} (a_are_whole : PySem.W.nsIn K mainGlobals "are_whole" = some (some (.ref f_are_whole)))
      (l_are_whole : K.lookup f_are_whole = some ⟨oc_are_whole, od_are_whole, .func (PySem.W.fnOf "are_whole" "are_whole" (defArgs s_are_whole) (defBody s_are_whole) (defScope s_are_whole) .none kV_are_whole dc_are_whole pm_are_whole an_are_whole cd_are_whole ct_are_whole), sl_are_whole⟩) (c_are_whole : PySem.W.codeIn K cd_are_whole "are_whole" = true) (k_are_whole : PySem.W.keepIn K (.ref f_are_whole) = true)
    {f_shared_part : Addr} {od_shared_part an_shared_part : Option Addr} {sl_shared_part : Array (Option Value)} {oc_shared_part kV_shared_part dc_shared_part pm_shared_part cd_shared_part ct_shared_part : Value} (a_shared_part : PySem.W.nsIn K mainGlobals "shared_part" = some (some (.ref f_shared_part)))
      (l_shared_part : K.lookup f_shared_part = some ⟨oc_shared_part, od_shared_part, .func (PySem.W.fnOf "shared_part" "shared_part" (defArgs s_shared_part) (defBody s_shared_part) (defScope s_shared_part) .none kV_shared_part dc_shared_part pm_shared_part an_shared_part cd_shared_part ct_shared_part), sl_shared_part⟩) (c_shared_part : PySem.W.codeIn K cd_shared_part "shared_part" = true) (k_shared_part : PySem.W.keepIn K (.ref f_shared_part) = true)
    {f_part_of_all : Addr} {od_part_of_all an_part_of_all : Option Addr} {sl_part_of_all : Array (Option Value)} {oc_part_of_all kV_part_of_all dc_part_of_all pm_part_of_all cd_part_of_all ct_part_of_all : Value} (a_part_of_all : PySem.W.nsIn K mainGlobals "part_of_all" = some (some (.ref f_part_of_all)))
      (l_part_of_all : K.lookup f_part_of_all = some ⟨oc_part_of_all, od_part_of_all, .func (PySem.W.fnOf "part_of_all" "part_of_all" (defArgs s_part_of_all) (defBody s_part_of_all) (defScope s_part_of_all) .none kV_part_of_all dc_part_of_all pm_part_of_all an_part_of_all cd_part_of_all ct_part_of_all), sl_part_of_all⟩) (c_part_of_all : PySem.W.codeIn K cd_part_of_all "part_of_all" = true) (k_part_of_all : PySem.W.keepIn K (.ref f_part_of_all) = true)
    {f_lowest_row : Addr} {od_lowest_row an_lowest_row : Option Addr} {sl_lowest_row : Array (Option Value)} {oc_lowest_row kV_lowest_row dc_lowest_row pm_lowest_row cd_lowest_row ct_lowest_row : Value} (a_lowest_row : PySem.W.nsIn K mainGlobals "lowest_row" = some (some (.ref f_lowest_row)))
      (l_lowest_row : K.lookup f_lowest_row = some ⟨oc_lowest_row, od_lowest_row, .func (PySem.W.fnOf "lowest_row" "lowest_row" (defArgs s_lowest_row) (defBody s_lowest_row) (defScope s_lowest_row) .none kV_lowest_row dc_lowest_row pm_lowest_row an_lowest_row cd_lowest_row ct_lowest_row), sl_lowest_row⟩) (c_lowest_row : PySem.W.codeIn K cd_lowest_row "lowest_row" = true) (k_lowest_row : PySem.W.keepIn K (.ref f_lowest_row) = true)
    {f_is_lowest : Addr} {od_is_lowest an_is_lowest : Option Addr} {sl_is_lowest : Array (Option Value)} {oc_is_lowest kV_is_lowest dc_is_lowest pm_is_lowest cd_is_lowest ct_is_lowest : Value} (a_is_lowest : PySem.W.nsIn K mainGlobals "is_lowest" = some (some (.ref f_is_lowest)))
      (l_is_lowest : K.lookup f_is_lowest = some ⟨oc_is_lowest, od_is_lowest, .func (PySem.W.fnOf "is_lowest" "is_lowest" (defArgs s_is_lowest) (defBody s_is_lowest) (defScope s_is_lowest) .none kV_is_lowest dc_is_lowest pm_is_lowest an_is_lowest cd_is_lowest ct_is_lowest), sl_is_lowest⟩) (c_is_lowest : PySem.W.codeIn K cd_is_lowest "is_lowest" = true) (k_is_lowest : PySem.W.keepIn K (.ref f_is_lowest) = true)
    {f_dot : Addr} {od_dot an_dot : Option Addr} {sl_dot : Array (Option Value)} {oc_dot kV_dot dc_dot pm_dot cd_dot ct_dot : Value} (a_dot : PySem.W.nsIn K mainGlobals "dot" = some (some (.ref f_dot)))
      (l_dot : K.lookup f_dot = some ⟨oc_dot, od_dot, .func (PySem.W.fnOf "dot" "dot" (defArgs s_dot) (defBody s_dot) (defScope s_dot) .none kV_dot dc_dot pm_dot an_dot cd_dot ct_dot), sl_dot⟩) (c_dot : PySem.W.codeIn K cd_dot "dot" = true) (k_dot : PySem.W.keepIn K (.ref f_dot) = true)
    {f_cross : Addr} {od_cross an_cross : Option Addr} {sl_cross : Array (Option Value)} {oc_cross kV_cross dc_cross pm_cross cd_cross ct_cross : Value} (a_cross : PySem.W.nsIn K mainGlobals "cross" = some (some (.ref f_cross)))
      (l_cross : K.lookup f_cross = some ⟨oc_cross, od_cross, .func (PySem.W.fnOf "cross" "cross" (defArgs s_cross) (defBody s_cross) (defScope s_cross) .none kV_cross dc_cross pm_cross an_cross cd_cross ct_cross), sl_cross⟩) (c_cross : PySem.W.codeIn K cd_cross "cross" = true) (k_cross : PySem.W.keepIn K (.ref f_cross) = true)
    {f_is_place : Addr} {od_is_place an_is_place : Option Addr} {sl_is_place : Array (Option Value)} {oc_is_place kV_is_place dc_is_place pm_is_place cd_is_place ct_is_place : Value} (a_is_place : PySem.W.nsIn K mainGlobals "is_place" = some (some (.ref f_is_place)))
      (l_is_place : K.lookup f_is_place = some ⟨oc_is_place, od_is_place, .func (PySem.W.fnOf "is_place" "is_place" (defArgs s_is_place) (defBody s_is_place) (defScope s_is_place) .none kV_is_place dc_is_place pm_is_place an_is_place cd_is_place ct_is_place), sl_is_place⟩) (c_is_place : PySem.W.codeIn K cd_is_place "is_place" = true) (k_is_place : PySem.W.keepIn K (.ref f_is_place) = true)
    {f_is_mark : Addr} {od_is_mark an_is_mark : Option Addr} {sl_is_mark : Array (Option Value)} {oc_is_mark kV_is_mark dc_is_mark pm_is_mark cd_is_mark ct_is_mark : Value} (a_is_mark : PySem.W.nsIn K mainGlobals "is_mark" = some (some (.ref f_is_mark)))
      (l_is_mark : K.lookup f_is_mark = some ⟨oc_is_mark, od_is_mark, .func (PySem.W.fnOf "is_mark" "is_mark" (defArgs s_is_mark) (defBody s_is_mark) (defScope s_is_mark) .none kV_is_mark dc_is_mark pm_is_mark an_is_mark cd_is_mark ct_is_mark), sl_is_mark⟩) (c_is_mark : PySem.W.codeIn K cd_is_mark "is_mark" = true) (k_is_mark : PySem.W.keepIn K (.ref f_is_mark) = true)
    {f_need_place : Addr} {od_need_place an_need_place : Option Addr} {sl_need_place : Array (Option Value)} {oc_need_place kV_need_place dc_need_place pm_need_place cd_need_place ct_need_place : Value} (a_need_place : PySem.W.nsIn K mainGlobals "need_place" = some (some (.ref f_need_place)))
      (l_need_place : K.lookup f_need_place = some ⟨oc_need_place, od_need_place, .func (PySem.W.fnOf "need_place" "need_place" (defArgs s_need_place) (defBody s_need_place) (defScope s_need_place) .none kV_need_place dc_need_place pm_need_place an_need_place cd_need_place ct_need_place), sl_need_place⟩) (c_need_place : PySem.W.codeIn K cd_need_place "need_place" = true) (k_need_place : PySem.W.keepIn K (.ref f_need_place) = true)
    {f_need_mark : Addr} {od_need_mark an_need_mark : Option Addr} {sl_need_mark : Array (Option Value)} {oc_need_mark kV_need_mark dc_need_mark pm_need_mark cd_need_mark ct_need_mark : Value} (a_need_mark : PySem.W.nsIn K mainGlobals "need_mark" = some (some (.ref f_need_mark)))
      (l_need_mark : K.lookup f_need_mark = some ⟨oc_need_mark, od_need_mark, .func (PySem.W.fnOf "need_mark" "need_mark" (defArgs s_need_mark) (defBody s_need_mark) (defScope s_need_mark) .none kV_need_mark dc_need_mark pm_need_mark an_need_mark cd_need_mark ct_need_mark), sl_need_mark⟩) (c_need_mark : PySem.W.codeIn K cd_need_mark "need_mark" = true) (k_need_mark : PySem.W.keepIn K (.ref f_need_mark) = true)
    {f_are_apart : Addr} {od_are_apart an_are_apart : Option Addr} {sl_are_apart : Array (Option Value)} {oc_are_apart kV_are_apart dc_are_apart pm_are_apart cd_are_apart ct_are_apart : Value} (a_are_apart : PySem.W.nsIn K mainGlobals "are_apart" = some (some (.ref f_are_apart)))
      (l_are_apart : K.lookup f_are_apart = some ⟨oc_are_apart, od_are_apart, .func (PySem.W.fnOf "are_apart" "are_apart" (defArgs s_are_apart) (defBody s_are_apart) (defScope s_are_apart) .none kV_are_apart dc_are_apart pm_are_apart an_are_apart cd_are_apart ct_are_apart), sl_are_apart⟩) (c_are_apart : PySem.W.codeIn K cd_are_apart "are_apart" = true) (k_are_apart : PySem.W.keepIn K (.ref f_are_apart) = true)
    {f_opposite_of : Addr} {od_opposite_of an_opposite_of : Option Addr} {sl_opposite_of : Array (Option Value)} {oc_opposite_of kV_opposite_of dc_opposite_of pm_opposite_of cd_opposite_of ct_opposite_of : Value} (a_opposite_of : PySem.W.nsIn K mainGlobals "opposite_of" = some (some (.ref f_opposite_of)))
      (l_opposite_of : K.lookup f_opposite_of = some ⟨oc_opposite_of, od_opposite_of, .func (PySem.W.fnOf "opposite_of" "opposite_of" (defArgs s_opposite_of) (defBody s_opposite_of) (defScope s_opposite_of) .none kV_opposite_of dc_opposite_of pm_opposite_of an_opposite_of cd_opposite_of ct_opposite_of), sl_opposite_of⟩) (c_opposite_of : PySem.W.codeIn K cd_opposite_of "opposite_of" = true) (k_opposite_of : PySem.W.keepIn K (.ref f_opposite_of) = true)
    {f_leader : Addr} {od_leader an_leader : Option Addr} {sl_leader : Array (Option Value)} {oc_leader kV_leader dc_leader pm_leader cd_leader ct_leader : Value} (a_leader : PySem.W.nsIn K mainGlobals "leader" = some (some (.ref f_leader)))
      (l_leader : K.lookup f_leader = some ⟨oc_leader, od_leader, .func (PySem.W.fnOf "leader" "leader" (defArgs s_leader) (defBody s_leader) (defScope s_leader) .none kV_leader dc_leader pm_leader an_leader cd_leader ct_leader), sl_leader⟩) (c_leader : PySem.W.codeIn K cd_leader "leader" = true) (k_leader : PySem.W.keepIn K (.ref f_leader) = true)
    {f_is_turn : Addr} {od_is_turn an_is_turn : Option Addr} {sl_is_turn : Array (Option Value)} {oc_is_turn kV_is_turn dc_is_turn pm_is_turn cd_is_turn ct_is_turn : Value} (a_is_turn : PySem.W.nsIn K mainGlobals "is_turn" = some (some (.ref f_is_turn)))
      (l_is_turn : K.lookup f_is_turn = some ⟨oc_is_turn, od_is_turn, .func (PySem.W.fnOf "is_turn" "is_turn" (defArgs s_is_turn) (defBody s_is_turn) (defScope s_is_turn) .none kV_is_turn dc_is_turn pm_is_turn an_is_turn cd_is_turn ct_is_turn), sl_is_turn⟩) (c_is_turn : PySem.W.codeIn K cd_is_turn "is_turn" = true) (k_is_turn : PySem.W.keepIn K (.ref f_is_turn) = true)
    {f_need_turn : Addr} {od_need_turn an_need_turn : Option Addr} {sl_need_turn : Array (Option Value)} {oc_need_turn kV_need_turn dc_need_turn pm_need_turn cd_need_turn ct_need_turn : Value} (a_need_turn : PySem.W.nsIn K mainGlobals "need_turn" = some (some (.ref f_need_turn)))
      (l_need_turn : K.lookup f_need_turn = some ⟨oc_need_turn, od_need_turn, .func (PySem.W.fnOf "need_turn" "need_turn" (defArgs s_need_turn) (defBody s_need_turn) (defScope s_need_turn) .none kV_need_turn dc_need_turn pm_need_turn an_need_turn cd_need_turn ct_need_turn), sl_need_turn⟩) (c_need_turn : PySem.W.codeIn K cd_need_turn "need_turn" = true) (k_need_turn : PySem.W.keepIn K (.ref f_need_turn) = true)
    {f_turn_in : Addr} {od_turn_in an_turn_in : Option Addr} {sl_turn_in : Array (Option Value)} {oc_turn_in kV_turn_in dc_turn_in pm_turn_in cd_turn_in ct_turn_in : Value} (a_turn_in : PySem.W.nsIn K mainGlobals "turn_in" = some (some (.ref f_turn_in)))
      (l_turn_in : K.lookup f_turn_in = some ⟨oc_turn_in, od_turn_in, .func (PySem.W.fnOf "turn_in" "turn_in" (defArgs s_turn_in) (defBody s_turn_in) (defScope s_turn_in) .none kV_turn_in dc_turn_in pm_turn_in an_turn_in cd_turn_in ct_turn_in), sl_turn_in⟩) (c_turn_in : PySem.W.codeIn K cd_turn_in "turn_in" = true) (k_turn_in : PySem.W.keepIn K (.ref f_turn_in) = true)
    {f_stretch_of : Addr} {od_stretch_of an_stretch_of : Option Addr} {sl_stretch_of : Array (Option Value)} {oc_stretch_of kV_stretch_of dc_stretch_of pm_stretch_of cd_stretch_of ct_stretch_of : Value} (a_stretch_of : PySem.W.nsIn K mainGlobals "stretch_of" = some (some (.ref f_stretch_of)))
      (l_stretch_of : K.lookup f_stretch_of = some ⟨oc_stretch_of, od_stretch_of, .func (PySem.W.fnOf "stretch_of" "stretch_of" (defArgs s_stretch_of) (defBody s_stretch_of) (defScope s_stretch_of) .none kV_stretch_of dc_stretch_of pm_stretch_of an_stretch_of cd_stretch_of ct_stretch_of), sl_stretch_of⟩) (c_stretch_of : PySem.W.codeIn K cd_stretch_of "stretch_of" = true) (k_stretch_of : PySem.W.keepIn K (.ref f_stretch_of) = true)
    {f_rows_of : Addr} {od_rows_of an_rows_of : Option Addr} {sl_rows_of : Array (Option Value)} {oc_rows_of kV_rows_of dc_rows_of pm_rows_of cd_rows_of ct_rows_of : Value} (a_rows_of : PySem.W.nsIn K mainGlobals "rows_of" = some (some (.ref f_rows_of)))
      (l_rows_of : K.lookup f_rows_of = some ⟨oc_rows_of, od_rows_of, .func (PySem.W.fnOf "rows_of" "rows_of" (defArgs s_rows_of) (defBody s_rows_of) (defScope s_rows_of) .none kV_rows_of dc_rows_of pm_rows_of an_rows_of cd_rows_of ct_rows_of), sl_rows_of⟩) (c_rows_of : PySem.W.codeIn K cd_rows_of "rows_of" = true) (k_rows_of : PySem.W.keepIn K (.ref f_rows_of) = true)
    {f_turned_in : Addr} {od_turned_in an_turned_in : Option Addr} {sl_turned_in : Array (Option Value)} {oc_turned_in kV_turned_in dc_turned_in pm_turned_in cd_turned_in ct_turned_in : Value} (a_turned_in : PySem.W.nsIn K mainGlobals "turned_in" = some (some (.ref f_turned_in)))
      (l_turned_in : K.lookup f_turned_in = some ⟨oc_turned_in, od_turned_in, .func (PySem.W.fnOf "turned_in" "turned_in" (defArgs s_turned_in) (defBody s_turned_in) (defScope s_turned_in) .none kV_turned_in dc_turned_in pm_turned_in an_turned_in cd_turned_in ct_turned_in), sl_turned_in⟩) (c_turned_in : PySem.W.codeIn K cd_turned_in "turned_in" = true) (k_turned_in : PySem.W.keepIn K (.ref f_turned_in) = true)
    {f_turned_by : Addr} {od_turned_by an_turned_by : Option Addr} {sl_turned_by : Array (Option Value)} {oc_turned_by kV_turned_by dc_turned_by pm_turned_by cd_turned_by ct_turned_by : Value} (a_turned_by : PySem.W.nsIn K mainGlobals "turned_by" = some (some (.ref f_turned_by)))
      (l_turned_by : K.lookup f_turned_by = some ⟨oc_turned_by, od_turned_by, .func (PySem.W.fnOf "turned_by" "turned_by" (defArgs s_turned_by) (defBody s_turned_by) (defScope s_turned_by) .none kV_turned_by dc_turned_by pm_turned_by an_turned_by cd_turned_by ct_turned_by), sl_turned_by⟩) (c_turned_by : PySem.W.codeIn K cd_turned_by "turned_by" = true) (k_turned_by : PySem.W.keepIn K (.ref f_turned_by) = true)
    {f_turn_then : Addr} {od_turn_then an_turn_then : Option Addr} {sl_turn_then : Array (Option Value)} {oc_turn_then kV_turn_then dc_turn_then pm_turn_then cd_turn_then ct_turn_then : Value} (a_turn_then : PySem.W.nsIn K mainGlobals "turn_then" = some (some (.ref f_turn_then)))
      (l_turn_then : K.lookup f_turn_then = some ⟨oc_turn_then, od_turn_then, .func (PySem.W.fnOf "turn_then" "turn_then" (defArgs s_turn_then) (defBody s_turn_then) (defScope s_turn_then) .none kV_turn_then dc_turn_then pm_turn_then an_turn_then cd_turn_then ct_turn_then), sl_turn_then⟩) (c_turn_then : PySem.W.codeIn K cd_turn_then "turn_then" = true) (k_turn_then : PySem.W.keepIn K (.ref f_turn_then) = true)
    {f_turn_undone : Addr} {od_turn_undone an_turn_undone : Option Addr} {sl_turn_undone : Array (Option Value)} {oc_turn_undone kV_turn_undone dc_turn_undone pm_turn_undone cd_turn_undone ct_turn_undone : Value} (a_turn_undone : PySem.W.nsIn K mainGlobals "turn_undone" = some (some (.ref f_turn_undone)))
      (l_turn_undone : K.lookup f_turn_undone = some ⟨oc_turn_undone, od_turn_undone, .func (PySem.W.fnOf "turn_undone" "turn_undone" (defArgs s_turn_undone) (defBody s_turn_undone) (defScope s_turn_undone) .none kV_turn_undone dc_turn_undone pm_turn_undone an_turn_undone cd_turn_undone ct_turn_undone), sl_turn_undone⟩) (c_turn_undone : PySem.W.codeIn K cd_turn_undone "turn_undone" = true) (k_turn_undone : PySem.W.keepIn K (.ref f_turn_undone) = true)
    {f_turn_to : Addr} {od_turn_to an_turn_to : Option Addr} {sl_turn_to : Array (Option Value)} {oc_turn_to dc_turn_to pm_turn_to cd_turn_to ct_turn_to : Value} (a_turn_to : PySem.W.nsIn K mainGlobals "turn_to" = some (some (.ref f_turn_to)))
      (l_turn_to : K.lookup f_turn_to = some ⟨oc_turn_to, od_turn_to, .func (PySem.W.fnOf "turn_to" "turn_to" (defArgs s_turn_to) (defBody s_turn_to) (defScope s_turn_to) .none (.ref Dk) dc_turn_to pm_turn_to an_turn_to cd_turn_to ct_turn_to), sl_turn_to⟩) (c_turn_to : PySem.W.codeIn K cd_turn_to "turn_to" = true) (k_turn_to : PySem.W.keepIn K (.ref f_turn_to) = true)
    {f_law_pool : Addr} {od_law_pool an_law_pool : Option Addr} {sl_law_pool : Array (Option Value)} {oc_law_pool kV_law_pool dc_law_pool pm_law_pool cd_law_pool ct_law_pool : Value} (a_law_pool : PySem.W.nsIn K mainGlobals "_law_pool" = some (some (.ref f_law_pool)))
      (l_law_pool : K.lookup f_law_pool = some ⟨oc_law_pool, od_law_pool, .func (PySem.W.fnOf "_law_pool" "_law_pool" (defArgs s_law_pool) (defBody s_law_pool) (defScope s_law_pool) .none kV_law_pool dc_law_pool pm_law_pool an_law_pool cd_law_pool ct_law_pool), sl_law_pool⟩) (c_law_pool : PySem.W.codeIn K cd_law_pool "_law_pool" = true) (k_law_pool : PySem.W.keepIn K (.ref f_law_pool) = true)
    {f_law_take : Addr} {od_law_take an_law_take : Option Addr} {sl_law_take : Array (Option Value)} {oc_law_take kV_law_take dc_law_take pm_law_take cd_law_take ct_law_take : Value} (a_law_take : PySem.W.nsIn K mainGlobals "_law_take" = some (some (.ref f_law_take)))
      (l_law_take : K.lookup f_law_take = some ⟨oc_law_take, od_law_take, .func (PySem.W.fnOf "_law_take" "_law_take" (defArgs s_law_take) (defBody s_law_take) (defScope s_law_take) .none kV_law_take dc_law_take pm_law_take an_law_take cd_law_take ct_law_take), sl_law_take⟩) (c_law_take : PySem.W.codeIn K cd_law_take "_law_take" = true) (k_law_take : PySem.W.keepIn K (.ref f_law_take) = true)
    {f_law_folded : Addr} {od_law_folded an_law_folded : Option Addr} {sl_law_folded : Array (Option Value)} {oc_law_folded kV_law_folded dc_law_folded pm_law_folded cd_law_folded ct_law_folded : Value} (a_law_folded : PySem.W.nsIn K mainGlobals "_law_folded" = some (some (.ref f_law_folded)))
      (l_law_folded : K.lookup f_law_folded = some ⟨oc_law_folded, od_law_folded, .func (PySem.W.fnOf "_law_folded" "_law_folded" (defArgs s_law_folded) (defBody s_law_folded) (defScope s_law_folded) .none kV_law_folded dc_law_folded pm_law_folded an_law_folded cd_law_folded ct_law_folded), sl_law_folded⟩) (c_law_folded : PySem.W.codeIn K cd_law_folded "_law_folded" = true) (k_law_folded : PySem.W.keepIn K (.ref f_law_folded) = true)
    {f_law_great : Addr} {od_law_great an_law_great : Option Addr} {sl_law_great : Array (Option Value)} {oc_law_great kV_law_great dc_law_great pm_law_great cd_law_great ct_law_great : Value} (a_law_great : PySem.W.nsIn K mainGlobals "_law_great" = some (some (.ref f_law_great)))
      (l_law_great : K.lookup f_law_great = some ⟨oc_law_great, od_law_great, .func (PySem.W.fnOf "_law_great" "_law_great" (defArgs s_law_great) (defBody s_law_great) (defScope s_law_great) .none kV_law_great dc_law_great pm_law_great an_law_great cd_law_great ct_law_great), sl_law_great⟩) (c_law_great : PySem.W.codeIn K cd_law_great "_law_great" = true) (k_law_great : PySem.W.keepIn K (.ref f_law_great) = true)
    {f_law_shared : Addr} {od_law_shared an_law_shared : Option Addr} {sl_law_shared : Array (Option Value)} {oc_law_shared kV_law_shared dc_law_shared pm_law_shared cd_law_shared ct_law_shared : Value} (a_law_shared : PySem.W.nsIn K mainGlobals "_law_shared" = some (some (.ref f_law_shared)))
      (l_law_shared : K.lookup f_law_shared = some ⟨oc_law_shared, od_law_shared, .func (PySem.W.fnOf "_law_shared" "_law_shared" (defArgs s_law_shared) (defBody s_law_shared) (defScope s_law_shared) .none kV_law_shared dc_law_shared pm_law_shared an_law_shared cd_law_shared ct_law_shared), sl_law_shared⟩) (c_law_shared : PySem.W.codeIn K cd_law_shared "_law_shared" = true) (k_law_shared : PySem.W.keepIn K (.ref f_law_shared) = true)
    {f_law_lowest : Addr} {od_law_lowest an_law_lowest : Option Addr} {sl_law_lowest : Array (Option Value)} {oc_law_lowest kV_law_lowest dc_law_lowest pm_law_lowest cd_law_lowest ct_law_lowest : Value} (a_law_lowest : PySem.W.nsIn K mainGlobals "_law_lowest" = some (some (.ref f_law_lowest)))
      (l_law_lowest : K.lookup f_law_lowest = some ⟨oc_law_lowest, od_law_lowest, .func (PySem.W.fnOf "_law_lowest" "_law_lowest" (defArgs s_law_lowest) (defBody s_law_lowest) (defScope s_law_lowest) .none kV_law_lowest dc_law_lowest pm_law_lowest an_law_lowest cd_law_lowest ct_law_lowest), sl_law_lowest⟩) (c_law_lowest : PySem.W.codeIn K cd_law_lowest "_law_lowest" = true) (k_law_lowest : PySem.W.keepIn K (.ref f_law_lowest) = true)
    {f_law_at : Addr} {od_law_at an_law_at : Option Addr} {sl_law_at : Array (Option Value)} {oc_law_at kV_law_at dc_law_at pm_law_at cd_law_at ct_law_at : Value} (a_law_at : PySem.W.nsIn K mainGlobals "_law_at" = some (some (.ref f_law_at)))
      (l_law_at : K.lookup f_law_at = some ⟨oc_law_at, od_law_at, .func (PySem.W.fnOf "_law_at" "_law_at" (defArgs s_law_at) (defBody s_law_at) (defScope s_law_at) .none kV_law_at dc_law_at pm_law_at an_law_at cd_law_at ct_law_at), sl_law_at⟩) (c_law_at : PySem.W.codeIn K cd_law_at "_law_at" = true) (k_law_at : PySem.W.keepIn K (.ref f_law_at) = true)
    {f_law_opposite : Addr} {od_law_opposite an_law_opposite : Option Addr} {sl_law_opposite : Array (Option Value)} {oc_law_opposite kV_law_opposite dc_law_opposite pm_law_opposite cd_law_opposite ct_law_opposite : Value} (a_law_opposite : PySem.W.nsIn K mainGlobals "_law_opposite" = some (some (.ref f_law_opposite)))
      (l_law_opposite : K.lookup f_law_opposite = some ⟨oc_law_opposite, od_law_opposite, .func (PySem.W.fnOf "_law_opposite" "_law_opposite" (defArgs s_law_opposite) (defBody s_law_opposite) (defScope s_law_opposite) .none kV_law_opposite dc_law_opposite pm_law_opposite an_law_opposite cd_law_opposite ct_law_opposite), sl_law_opposite⟩) (c_law_opposite : PySem.W.codeIn K cd_law_opposite "_law_opposite" = true) (k_law_opposite : PySem.W.keepIn K (.ref f_law_opposite) = true)
    {f_law_turned : Addr} {od_law_turned an_law_turned : Option Addr} {sl_law_turned : Array (Option Value)} {oc_law_turned kV_law_turned dc_law_turned pm_law_turned cd_law_turned ct_law_turned : Value} (a_law_turned : PySem.W.nsIn K mainGlobals "_law_turned" = some (some (.ref f_law_turned)))
      (l_law_turned : K.lookup f_law_turned = some ⟨oc_law_turned, od_law_turned, .func (PySem.W.fnOf "_law_turned" "_law_turned" (defArgs s_law_turned) (defBody s_law_turned) (defScope s_law_turned) .none kV_law_turned dc_law_turned pm_law_turned an_law_turned cd_law_turned ct_law_turned), sl_law_turned⟩) (c_law_turned : PySem.W.codeIn K cd_law_turned "_law_turned" = true) (k_law_turned : PySem.W.keepIn K (.ref f_law_turned) = true)
    {f_law_place : Addr} {od_law_place an_law_place : Option Addr} {sl_law_place : Array (Option Value)} {oc_law_place kV_law_place dc_law_place pm_law_place cd_law_place ct_law_place : Value} (a_law_place : PySem.W.nsIn K mainGlobals "_law_place" = some (some (.ref f_law_place)))
      (l_law_place : K.lookup f_law_place = some ⟨oc_law_place, od_law_place, .func (PySem.W.fnOf "_law_place" "_law_place" (defArgs s_law_place) (defBody s_law_place) (defScope s_law_place) .none kV_law_place dc_law_place pm_law_place an_law_place cd_law_place ct_law_place), sl_law_place⟩) (c_law_place : PySem.W.codeIn K cd_law_place "_law_place" = true) (k_law_place : PySem.W.keepIn K (.ref f_law_place) = true)
    {f_law_goal : Addr} {od_law_goal an_law_goal : Option Addr} {sl_law_goal : Array (Option Value)} {oc_law_goal kV_law_goal dc_law_goal pm_law_goal cd_law_goal ct_law_goal : Value} (a_law_goal : PySem.W.nsIn K mainGlobals "_law_goal" = some (some (.ref f_law_goal)))
      (l_law_goal : K.lookup f_law_goal = some ⟨oc_law_goal, od_law_goal, .func (PySem.W.fnOf "_law_goal" "_law_goal" (defArgs s_law_goal) (defBody s_law_goal) (defScope s_law_goal) .none kV_law_goal dc_law_goal pm_law_goal an_law_goal cd_law_goal ct_law_goal), sl_law_goal⟩) (c_law_goal : PySem.W.codeIn K cd_law_goal "_law_goal" = true) (k_law_goal : PySem.W.keepIn K (.ref f_law_goal) = true)
    {f_law_right : Addr} {od_law_right an_law_right : Option Addr} {sl_law_right : Array (Option Value)} {oc_law_right kV_law_right dc_law_right pm_law_right cd_law_right ct_law_right : Value} (a_law_right : PySem.W.nsIn K mainGlobals "_law_right" = some (some (.ref f_law_right)))
      (l_law_right : K.lookup f_law_right = some ⟨oc_law_right, od_law_right, .func (PySem.W.fnOf "_law_right" "_law_right" (defArgs s_law_right) (defBody s_law_right) (defScope s_law_right) .none kV_law_right dc_law_right pm_law_right an_law_right cd_law_right ct_law_right), sl_law_right⟩) (c_law_right : PySem.W.codeIn K cd_law_right "_law_right" = true) (k_law_right : PySem.W.keepIn K (.ref f_law_right) = true)
    {f_law : Addr} {od_law an_law : Option Addr} {sl_law : Array (Option Value)} {oc_law kV_law dc_law pm_law cd_law ct_law : Value} (a_law : PySem.W.nsIn K mainGlobals "law" = some (some (.ref f_law)))
      (l_law : K.lookup f_law = some ⟨oc_law, od_law, .func (PySem.W.fnOf "law" "law" (defArgs s_law) (defBody s_law) (defScope s_law) .none kV_law dc_law pm_law an_law cd_law ct_law), sl_law⟩) (c_law : PySem.W.codeIn K cd_law "law" = true) (k_law : PySem.W.keepIn K (.ref f_law) = true)
    (g_goal : PySem.W.nsIn K Dk "goal" = some (some (.ref aN))) :
    ∃ fd : FuncData, (∀ (s : Shared) (v : Value), BindsTo s fd ⟨[v], []⟩ [("_law_script", v)]) ∧ ∀ base : Heap, K.In base → base.Ns mainGlobals mg → FnG l.prog w K mg base 8 fa fd ["_law_script"] (spLaw K) := by
  have e := hfa.symm.trans (PySem.W.mg_of X G a_law)
  cases e
  have B : Blt mg := ⟨PySem.W.mg_none_of X G z_abs, PySem.W.mg_none_of X G z_isinstance, PySem.W.mg_none_of X G z_tuple, PySem.W.mg_none_of X G z_len, PySem.W.mg_none_of X G z_all, PySem.W.mg_none_of X G z_sum, PySem.W.mg_none_of X G z_range, PySem.W.mg_none_of X G z_max, PySem.W.mg_none_of X G z_min, PySem.W.mg_none_of X G z_repr, PySem.W.mg_none_of X G z_int, PySem.W.mg_none_of X G z_bool⟩
  have D_is_whole := df_mk (st := s_is_whole) X G a_is_whole l_is_whole c_is_whole k_is_whole
  have D_are_whole := df_mk (st := s_are_whole) X G a_are_whole l_are_whole c_are_whole k_are_whole
  have D_shared_part := df_mk (st := s_shared_part) X G a_shared_part l_shared_part c_shared_part k_shared_part
  have D_part_of_all := df_mk (st := s_part_of_all) X G a_part_of_all l_part_of_all c_part_of_all k_part_of_all
  have D_lowest_row := df_mk (st := s_lowest_row) X G a_lowest_row l_lowest_row c_lowest_row k_lowest_row
  have D_is_lowest := df_mk (st := s_is_lowest) X G a_is_lowest l_is_lowest c_is_lowest k_is_lowest
  have D_dot := df_mk (st := s_dot) X G a_dot l_dot c_dot k_dot
  have D_cross := df_mk (st := s_cross) X G a_cross l_cross c_cross k_cross
  have D_is_place := df_mk (st := s_is_place) X G a_is_place l_is_place c_is_place k_is_place
  have D_is_mark := df_mk (st := s_is_mark) X G a_is_mark l_is_mark c_is_mark k_is_mark
  have D_need_place := df_mk (st := s_need_place) X G a_need_place l_need_place c_need_place k_need_place
  have D_need_mark := df_mk (st := s_need_mark) X G a_need_mark l_need_mark c_need_mark k_need_mark
  have D_are_apart := df_mk (st := s_are_apart) X G a_are_apart l_are_apart c_are_apart k_are_apart
  have D_opposite_of := df_mk (st := s_opposite_of) X G a_opposite_of l_opposite_of c_opposite_of k_opposite_of
  have D_leader := df_mk (st := s_leader) X G a_leader l_leader c_leader k_leader
  have D_is_turn := df_mk (st := s_is_turn) X G a_is_turn l_is_turn c_is_turn k_is_turn
  have D_need_turn := df_mk (st := s_need_turn) X G a_need_turn l_need_turn c_need_turn k_need_turn
  have D_turn_in := df_mk (st := s_turn_in) X G a_turn_in l_turn_in c_turn_in k_turn_in
  have D_stretch_of := df_mk (st := s_stretch_of) X G a_stretch_of l_stretch_of c_stretch_of k_stretch_of
  have D_rows_of := df_mk (st := s_rows_of) X G a_rows_of l_rows_of c_rows_of k_rows_of
  have D_turned_in := df_mk (st := s_turned_in) X G a_turned_in l_turned_in c_turned_in k_turned_in
  have D_turned_by := df_mk (st := s_turned_by) X G a_turned_by l_turned_by c_turned_by k_turned_by
  have D_turn_then := df_mk (st := s_turn_then) X G a_turn_then l_turn_then c_turn_then k_turn_then
  have D_turn_undone := df_mk (st := s_turn_undone) X G a_turn_undone l_turn_undone c_turn_undone k_turn_undone
  have D_turn_to := df_mk (st := s_turn_to) X G a_turn_to l_turn_to c_turn_to k_turn_to
  have D_law_pool := df_mk (st := s_law_pool) X G a_law_pool l_law_pool c_law_pool k_law_pool
  have D_law_take := df_mk (st := s_law_take) X G a_law_take l_law_take c_law_take k_law_take
  have D_law_folded := df_mk (st := s_law_folded) X G a_law_folded l_law_folded c_law_folded k_law_folded
  have D_law_great := df_mk (st := s_law_great) X G a_law_great l_law_great c_law_great k_law_great
  have D_law_shared := df_mk (st := s_law_shared) X G a_law_shared l_law_shared c_law_shared k_law_shared
  have D_law_lowest := df_mk (st := s_law_lowest) X G a_law_lowest l_law_lowest c_law_lowest k_law_lowest
  have D_law_at := df_mk (st := s_law_at) X G a_law_at l_law_at c_law_at k_law_at
  have D_law_opposite := df_mk (st := s_law_opposite) X G a_law_opposite l_law_opposite c_law_opposite k_law_opposite
  have D_law_turned := df_mk (st := s_law_turned) X G a_law_turned l_law_turned c_law_turned k_law_turned
  have D_law_place := df_mk (st := s_law_place) X G a_law_place l_law_place c_law_place k_law_place
  have D_law_goal := df_mk (st := s_law_goal) X G a_law_goal l_law_goal c_law_goal k_law_goal
  have D_law_right := df_mk (st := s_law_right) X G a_law_right l_law_right c_law_right k_law_right
  have D_law := df_mk (st := s_law) X G a_law l_law c_law k_law
  refine ⟨_, fun s v => ?_, fun base _ _ => build B (PySem.W.mg_of X G aNo) (sqT_mk lNo) (PySem.W.mg_of X G aSt) (sqT_mk lSt) D_is_whole D_are_whole D_shared_part D_part_of_all D_lowest_row D_is_lowest D_dot D_cross D_is_place D_is_mark D_need_place D_need_mark D_are_apart D_opposite_of D_leader D_is_turn D_need_turn D_turn_in D_stretch_of D_rows_of D_turned_in D_turned_by D_turn_then D_turn_undone D_turn_to D_law_pool D_law_take D_law_folded D_law_great D_law_shared D_law_lowest D_law_at D_law_opposite D_law_turned D_law_place D_law_goal D_law_right D_law fun F => kt_mk rfl l_turn_to c_turn_to D_turn_to g_goal (sqT_mk lNo) F⟩
  exact .of_eq rfl
theorem walk {l : PySem.W.OpenLaw} {q : Program} {loose : List Str} {XP : (Str → Option Value) → Heap → Prop} {YP : World → Heap → Prop} {d : DefRec} {K : Params → PySem.W.Frag} (hn : l.most = some 63) (hdf : d.params.defaults = [])
    (hY : ∀ (w : World) (h : Heap), YP w h → (K w.params).In h)
    (F : ∀ (w : World) (mg : Str → Option Value) (fa : Addr) (h : Heap), (K w.params).In h → h.Ns mainGlobals mg → mg d.name = some (.ref fa) →
      ∃ fd : FuncData, (∀ (s : Shared) (u : Value), BindsTo s fd ⟨[u], []⟩ [("_law_script", u)]) ∧ ∀ base : Heap, (K w.params).In base → base.Ns mainGlobals mg → FnG l.prog w (K w.params) mg base 8 fa fd ["_law_script"] (spLaw (K w.params))) :
    PySem.W.WalkO q loose XP YP l.row.toRowW d [] (fun f vs => PySem.call f vs) :=
  walk_ofG (n := 63) (k := 8) (x := "_law_script") (sp := spLaw) hn (by decide) hdf ⟨rfl, by decide, by decide⟩ hY F fun _ _ a ns hl _ hS => ⟨a, ns, rfl, hS, hl, fun _ => rfl⟩
end K12

open PySem PySem.W PyProof.Rows in
set_option maxRecDepth 100000 in
set_option maxHeartbeats 0 in
theorem PySem.Challenge.cw_leafglobe_k12_whole_turned_to_goals_holds : PySem.Challenge.rw_leafglobe_k12_whole_turned_to_goals.Holds := by
  w_on; o_law; k_head; (case hw => w_witness2)
  k_fill
  refine K12.walk (l := PySem.Challenge.rw_leafglobe_k12_whole_turned_to_goals) rfl rfl (fun w h Y => PySem.W.kIn_of Y) ?F
  case F =>
    intro w mg fa h KX G hmg
    refine' K12.all_mk KX G hmg ?aNo ?lNo ?aSt ?lSt ?z_abs ?z_isinstance ?z_tuple ?z_len ?z_all ?z_sum ?z_range ?z_max ?z_min ?z_repr ?z_int ?z_bool ?a_is_whole ?l_is_whole ?c_is_whole ?k_is_whole ?a_are_whole ?l_are_whole ?c_are_whole ?k_are_whole ?a_shared_part ?l_shared_part ?c_shared_part ?k_shared_part ?a_part_of_all ?l_part_of_all ?c_part_of_all ?k_part_of_all ?a_lowest_row ?l_lowest_row ?c_lowest_row ?k_lowest_row ?a_is_lowest ?l_is_lowest ?c_is_lowest ?k_is_lowest ?a_dot ?l_dot ?c_dot ?k_dot ?a_cross ?l_cross ?c_cross ?k_cross ?a_is_place ?l_is_place ?c_is_place ?k_is_place ?a_is_mark ?l_is_mark ?c_is_mark ?k_is_mark ?a_need_place ?l_need_place ?c_need_place ?k_need_place ?a_need_mark ?l_need_mark ?c_need_mark ?k_need_mark ?a_are_apart ?l_are_apart ?c_are_apart ?k_are_apart ?a_opposite_of ?l_opposite_of ?c_opposite_of ?k_opposite_of ?a_leader ?l_leader ?c_leader ?k_leader ?a_is_turn ?l_is_turn ?c_is_turn ?k_is_turn ?a_need_turn ?l_need_turn ?c_need_turn ?k_need_turn ?a_turn_in ?l_turn_in ?c_turn_in ?k_turn_in ?a_stretch_of ?l_stretch_of ?c_stretch_of ?k_stretch_of ?a_rows_of ?l_rows_of ?c_rows_of ?k_rows_of ?a_turned_in ?l_turned_in ?c_turned_in ?k_turned_in ?a_turned_by ?l_turned_by ?c_turned_by ?k_turned_by ?a_turn_then ?l_turn_then ?c_turn_then ?k_turn_then ?a_turn_undone ?l_turn_undone ?c_turn_undone ?k_turn_undone ?a_turn_to ?l_turn_to ?c_turn_to ?k_turn_to ?a_law_pool ?l_law_pool ?c_law_pool ?k_law_pool ?a_law_take ?l_law_take ?c_law_take ?k_law_take ?a_law_folded ?l_law_folded ?c_law_folded ?k_law_folded ?a_law_great ?l_law_great ?c_law_great ?k_law_great ?a_law_shared ?l_law_shared ?c_law_shared ?k_law_shared ?a_law_lowest ?l_law_lowest ?c_law_lowest ?k_law_lowest ?a_law_at ?l_law_at ?c_law_at ?k_law_at ?a_law_opposite ?l_law_opposite ?c_law_opposite ?k_law_opposite ?a_law_turned ?l_law_turned ?c_law_turned ?k_law_turned ?a_law_place ?l_law_place ?c_law_place ?k_law_place ?a_law_goal ?l_law_goal ?c_law_goal ?k_law_goal ?a_law_right ?l_law_right ?c_law_right ?k_law_right ?a_law ?l_law ?c_law ?k_law ?g_goal
    (case aNo => k_is)
    (case lNo => k_is)
    (case aSt => k_is)
    (case lSt => k_is)
    (case z_abs => k_is)
    (case z_isinstance => k_is)
    (case z_tuple => k_is)
    (case z_len => k_is)
    (case z_all => k_is)
    (case z_sum => k_is)
    (case z_range => k_is)
    (case z_max => k_is)
    (case z_min => k_is)
    (case z_repr => k_is)
    (case z_int => k_is)
    (case z_bool => k_is)
    (case a_is_whole => k_is)
    (case l_is_whole => k_is)
    (case c_is_whole => k_is)
    (case k_is_whole => k_is)
    (case a_are_whole => k_is)
    (case l_are_whole => k_is)
    (case c_are_whole => k_is)
    (case k_are_whole => k_is)
    (case a_shared_part => k_is)
    (case l_shared_part => k_is)
    (case c_shared_part => k_is)
    (case k_shared_part => k_is)
    (case a_part_of_all => k_is)
    (case l_part_of_all => k_is)
    (case c_part_of_all => k_is)
    (case k_part_of_all => k_is)
    (case a_lowest_row => k_is)
    (case l_lowest_row => k_is)
    (case c_lowest_row => k_is)
    (case k_lowest_row => k_is)
    (case a_is_lowest => k_is)
    (case l_is_lowest => k_is)
    (case c_is_lowest => k_is)
    (case k_is_lowest => k_is)
    (case a_dot => k_is)
    (case l_dot => k_is)
    (case c_dot => k_is)
    (case k_dot => k_is)
    (case a_cross => k_is)
    (case l_cross => k_is)
    (case c_cross => k_is)
    (case k_cross => k_is)
    (case a_is_place => k_is)
    (case l_is_place => k_is)
    (case c_is_place => k_is)
    (case k_is_place => k_is)
    (case a_is_mark => k_is)
    (case l_is_mark => k_is)
    (case c_is_mark => k_is)
    (case k_is_mark => k_is)
    (case a_need_place => k_is)
    (case l_need_place => k_is)
    (case c_need_place => k_is)
    (case k_need_place => k_is)
    (case a_need_mark => k_is)
    (case l_need_mark => k_is)
    (case c_need_mark => k_is)
    (case k_need_mark => k_is)
    (case a_are_apart => k_is)
    (case l_are_apart => k_is)
    (case c_are_apart => k_is)
    (case k_are_apart => k_is)
    (case a_opposite_of => k_is)
    (case l_opposite_of => k_is)
    (case c_opposite_of => k_is)
    (case k_opposite_of => k_is)
    (case a_leader => k_is)
    (case l_leader => k_is)
    (case c_leader => k_is)
    (case k_leader => k_is)
    (case a_is_turn => k_is)
    (case l_is_turn => k_is)
    (case c_is_turn => k_is)
    (case k_is_turn => k_is)
    (case a_need_turn => k_is)
    (case l_need_turn => k_is)
    (case c_need_turn => k_is)
    (case k_need_turn => k_is)
    (case a_turn_in => k_is)
    (case l_turn_in => k_is)
    (case c_turn_in => k_is)
    (case k_turn_in => k_is)
    (case a_stretch_of => k_is)
    (case l_stretch_of => k_is)
    (case c_stretch_of => k_is)
    (case k_stretch_of => k_is)
    (case a_rows_of => k_is)
    (case l_rows_of => k_is)
    (case c_rows_of => k_is)
    (case k_rows_of => k_is)
    (case a_turned_in => k_is)
    (case l_turned_in => k_is)
    (case c_turned_in => k_is)
    (case k_turned_in => k_is)
    (case a_turned_by => k_is)
    (case l_turned_by => k_is)
    (case c_turned_by => k_is)
    (case k_turned_by => k_is)
    (case a_turn_then => k_is)
    (case l_turn_then => k_is)
    (case c_turn_then => k_is)
    (case k_turn_then => k_is)
    (case a_turn_undone => k_is)
    (case l_turn_undone => k_is)
    (case c_turn_undone => k_is)
    (case k_turn_undone => k_is)
    (case a_turn_to => k_is)
    (case l_turn_to => k_is)
    (case c_turn_to => k_is)
    (case k_turn_to => k_is)
    (case a_law_pool => k_is)
    (case l_law_pool => k_is)
    (case c_law_pool => k_is)
    (case k_law_pool => k_is)
    (case a_law_take => k_is)
    (case l_law_take => k_is)
    (case c_law_take => k_is)
    (case k_law_take => k_is)
    (case a_law_folded => k_is)
    (case l_law_folded => k_is)
    (case c_law_folded => k_is)
    (case k_law_folded => k_is)
    (case a_law_great => k_is)
    (case l_law_great => k_is)
    (case c_law_great => k_is)
    (case k_law_great => k_is)
    (case a_law_shared => k_is)
    (case l_law_shared => k_is)
    (case c_law_shared => k_is)
    (case k_law_shared => k_is)
    (case a_law_lowest => k_is)
    (case l_law_lowest => k_is)
    (case c_law_lowest => k_is)
    (case k_law_lowest => k_is)
    (case a_law_at => k_is)
    (case l_law_at => k_is)
    (case c_law_at => k_is)
    (case k_law_at => k_is)
    (case a_law_opposite => k_is)
    (case l_law_opposite => k_is)
    (case c_law_opposite => k_is)
    (case k_law_opposite => k_is)
    (case a_law_turned => k_is)
    (case l_law_turned => k_is)
    (case c_law_turned => k_is)
    (case k_law_turned => k_is)
    (case a_law_place => k_is)
    (case l_law_place => k_is)
    (case c_law_place => k_is)
    (case k_law_place => k_is)
    (case a_law_goal => k_is)
    (case l_law_goal => k_is)
    (case c_law_goal => k_is)
    (case k_law_goal => k_is)
    (case a_law_right => k_is)
    (case l_law_right => k_is)
    (case c_law_right => k_is)
    (case k_law_right => k_is)
    (case a_law => k_is)
    (case l_law => k_is)
    (case c_law => k_is)
    (case k_law => k_is)
    (case g_goal => k_is)
