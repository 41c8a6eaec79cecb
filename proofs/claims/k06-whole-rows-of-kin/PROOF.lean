import PyProof.Rows.All
import Wide.All
import OpenK.AllK
import Wide.FinOn
import HandS.ForExc
import HandS.Comp
import HandS.Iter
import HandS.Zip
import HandS.Walk
import HandS.Conv
import HandS.IsInst
import HandS.OwnEq
import HandS.Defaults
import HandS.ExcInit
import HandS.ExcField
import HandS.TryMany
import HandS.Wide
import HandS.Gcd
import HandS.EndBits
import HandS.Style
import KE.DataMinMax
import KE.GoesMore
import PySem.Challenge.RW_untoldgaps_k06_whole_rows_of_kin
import HandS.Codes
import KE.KStateDown
import Lean
import HandS.Ends
import HandS.Head0
import HandS.Head1
import HandS.Head2
import HandS.Head3
import HandS.HeadEnd
import HandS.HeadHook1
import HandS.HeadHook2
/-! K06A: gcd of a list, whole rows, least rows: plain Lean. -/
namespace K06
def gI (a b : Int) : Int := ((Nat.gcd a.natAbs b.natAbs : Nat) : Int)
def lI (a b : Int) : Int := ((Nat.lcm a.natAbs b.natAbs : Nat) : Int)
def gF (s : Int) (l : List Int) : Int := l.foldl gI s
abbrev gcdL (l : List Int) : Int := gF 0 l

theorem gI_nonneg (a b : Int) : 0 ≤ gI a b := Int.natCast_nonneg _
theorem gI_dvd_left (a b : Int) : gI a b ∣ a := by
  unfold gI; exact Int.ofNat_dvd_left.mpr (Nat.gcd_dvd_left _ _)
theorem gI_dvd_right (a b : Int) : gI a b ∣ b := by
  unfold gI; exact Int.ofNat_dvd_left.mpr (Nat.gcd_dvd_right _ _)
theorem dvd_gI {d a b : Int} (h1 : d ∣ a) (h2 : d ∣ b) : d ∣ gI a b := by
  unfold gI
  exact Int.ofNat_dvd_right.mpr (Nat.dvd_gcd (Int.natAbs_dvd_natAbs.mpr h1) (Int.natAbs_dvd_natAbs.mpr h2))
theorem gI_mul (c a b : Int) (hc : 0 ≤ c) : gI (c * a) (c * b) = c * gI a b := by
  unfold gI
  rw [Int.natAbs_mul, Int.natAbs_mul, Nat.gcd_mul_left]
  have : (c.natAbs : Int) = c := Int.natAbs_of_nonneg hc
  push_cast
  rw [this]

theorem gF_nonneg {s : Int} (hs : 0 ≤ s) : ∀ l, 0 ≤ gF s l := by
  intro l
  induction l generalizing s with
  | nil => exact hs
  | cons a l ih => exact ih (s := gI s a) (gI_nonneg _ _)
theorem gF_dvd_start (l : List Int) : ∀ s, gF s l ∣ s := by
  induction l with
  | nil => intro s; exact Int.dvd_refl _
  | cons a l ih => intro s; exact Int.dvd_trans (ih (gI s a)) (gI_dvd_left s a)
theorem gF_dvd (l : List Int) : ∀ s, ∀ x ∈ l, gF s l ∣ x := by
  induction l with
  | nil => intro s x hx; cases hx
  | cons a l ih =>
    intro s x hx
    rcases List.mem_cons.mp hx with rfl | hx
    · exact Int.dvd_trans (gF_dvd_start l (gI s x)) (gI_dvd_right s x)
    · exact ih _ x hx
theorem dvd_gF {d : Int} (l : List Int) : ∀ s, d ∣ s → (∀ x ∈ l, d ∣ x) → d ∣ gF s l := by
  induction l with
  | nil => intro s hs _; exact hs
  | cons a l ih =>
    intro s hs hx
    exact ih (gI s a) (dvd_gI hs (hx a List.mem_cons_self)) fun x h => hx x (List.mem_cons_of_mem _ h)
theorem gF_mul (c : Int) (hc : 0 ≤ c) (l : List Int) : ∀ s, gF (c * s) (l.map (c * ·)) = c * gF s l := by
  induction l with
  | nil => intro s; rfl
  | cons a l ih =>
    intro s
    show gF (gI (c * s) (c * a)) (l.map (c * ·)) = c * gF (gI s a) l
    rw [gI_mul c s a hc, ih]
theorem gcdL_mul (c : Int) (hc : 0 ≤ c) (l : List Int) : gcdL (l.map (c * ·)) = c * gcdL l := by
  have h := gF_mul c hc l 0
  rwa [Int.mul_zero] at h
theorem gcdL_nonneg (l : List Int) : 0 ≤ gcdL l := gF_nonneg (Int.le_refl 0) l
theorem gcdL_dvd {l : List Int} {x : Int} (h : x ∈ l) : gcdL l ∣ x := gF_dvd l 0 x h
theorem gcdL_zero {l : List Int} (h : gcdL l = 0) : ∀ x ∈ l, x = 0 := fun x hx => by
  have d := gcdL_dvd hx
  rw [h] at d
  exact Int.zero_dvd.mp d
theorem gcdL_pos_of {l : List Int} {x : Int} (hx : x ∈ l) (h0 : x ≠ 0) : 0 < gcdL l := by
  rcases Int.lt_or_eq_of_le (gcdL_nonneg l) with h | h
  · exact h
  · exact absurd (gcdL_zero h.symm x hx) h0
theorem gcdL_le {l : List Int} {x : Int} (hx : x ∈ l) (h0 : 0 < x) : gcdL l ≤ x := Int.le_of_dvd h0 (gcdL_dvd hx)

/-- a row of whole numbers without a common divisor above 1 -/
def Prim (l : List Int) : Prop := gcdL l = 0 ∨ gcdL l = 1

theorem div_all {l : List Int} {c : Int} (h : ∀ x ∈ l, c ∣ x) : (l.map (· / c)).map (c * ·) = l := by
  rw [List.map_map]
  conv => rhs; rw [← List.map_id l]
  refine List.map_congr_left fun x hx => ?_
  show c * (x / c) = x
  exact Int.mul_ediv_cancel' (h x hx)
theorem prim_div {l : List Int} (h : gcdL l ≠ 0) : gcdL (l.map (· / gcdL l)) = 1 := by
  have e := div_all (l := l) fun x hx => gcdL_dvd hx
  have e2 := gcdL_mul (gcdL l) (gcdL_nonneg l) (l.map (· / gcdL l))
  rw [e] at e2
  have : gcdL l * 1 = gcdL l * gcdL (l.map (· / gcdL l)) := by rw [Int.mul_one]; exact e2
  exact (Int.eq_of_mul_eq_mul_left h this).symm
theorem map_div_one (l : List Int) : l.map (· / (1 : Int)) = l := by
  conv => rhs; rw [← List.map_id l]
  refine List.map_congr_left fun x _ => Int.ediv_one x

/-- two primitive rows in a whole proportion are one -/
theorem prim_unique {xs ys : List Int} {a b : Int} (ha : 0 < a) (hb : 0 < b) (h : xs.map (a * ·) = ys.map (b * ·)) (px : Prim xs) (py : Prim ys) : xs = ys := by
  have e : a * gcdL xs = b * gcdL ys := by
    rw [← gcdL_mul a (by omega), ← gcdL_mul b (by omega), h]
  have key : ∀ c : Int, 0 < c → ∀ us vs : List Int, us.map (c * ·) = vs.map (c * ·) → us = vs := by
    intro c hc us
    induction us with
    | nil => intro vs h; cases vs with
      | nil => rfl
      | cons v vs => simp at h
    | cons u us ih => intro vs h; cases vs with
      | nil => simp at h
      | cons v vs =>
        simp only [List.map_cons, List.cons.injEq] at h
        rw [ih vs h.2, Int.eq_of_mul_eq_mul_left (by omega) h.1]
  have zeros : ∀ us vs : List Int, us.length = vs.length → (∀ x ∈ us, x = 0) → (∀ x ∈ vs, x = 0) → us = vs := by
    intro us
    induction us with
    | nil => intro vs h _ _; cases vs with
      | nil => rfl
      | cons v vs => simp at h
    | cons u us ih => intro vs h h1 h2; cases vs with
      | nil => simp at h
      | cons v vs =>
        rw [h1 u List.mem_cons_self, h2 v List.mem_cons_self, ih vs (by simpa using h) (fun x hx => h1 x (List.mem_cons_of_mem _ hx)) fun x hx => h2 x (List.mem_cons_of_mem _ hx)]
  have hl : xs.length = ys.length := by
    have := congrArg List.length h
    simpa using this
  rcases px with px | px <;> rcases py with py | py
  · exact zeros xs ys hl (gcdL_zero px) (gcdL_zero py)
  · rw [px, py] at e; omega
  · rw [px, py] at e; omega
  · rw [px, py] at e
    have : a = b := by omega
    subst this
    exact key a ha xs ys h
end K06

namespace K06
/-! whole rows of rationals -/
def lF (s : Int) (qs : List Rat) : Int := qs.foldl (fun w q => lI w (q.den : Int)) s
def tops (w : Int) (qs : List Rat) : List Int := qs.map fun q => q.num * (w / (q.den : Int))
def lowest (qs : List Rat) : List Int :=
  if gcdL (tops (lF 1 qs) qs) = 0 then tops (lF 1 qs) qs else (tops (lF 1 qs) qs).map (· / gcdL (tops (lF 1 qs) qs))

theorem lI_pos {a b : Int} (ha : 0 < a) (hb : 0 < b) : 0 < lI a b := by
  unfold lI
  have h1 : a.natAbs ≠ 0 := by omega
  have h2 : b.natAbs ≠ 0 := by omega
  have := Nat.lcm_pos (Nat.pos_of_ne_zero h1) (Nat.pos_of_ne_zero h2)
  omega
theorem dvd_lI_left (a b : Int) : a ∣ lI a b := by
  unfold lI
  exact Int.ofNat_dvd_right.mpr (Nat.dvd_lcm_left _ _)
theorem dvd_lI_right (a b : Int) : b ∣ lI a b := by
  unfold lI
  exact Int.ofNat_dvd_right.mpr (Nat.dvd_lcm_right _ _)
theorem den_pos' (q : Rat) : (0 : Int) < (q.den : Int) := by have := q.den_pos; omega
theorem lF_pos {s : Int} (hs : 0 < s) : ∀ qs, 0 < lF s qs := by
  intro qs
  induction qs generalizing s with
  | nil => exact hs
  | cons q qs ih => exact ih (lI_pos hs (den_pos' q))
theorem dvd_lF_start (qs : List Rat) : ∀ s, s ∣ lF s qs := by
  induction qs with
  | nil => intro s; exact Int.dvd_refl _
  | cons q qs ih => intro s; exact Int.dvd_trans (dvd_lI_left s _) (ih _)
theorem dvd_lF (qs : List Rat) : ∀ s, ∀ q ∈ qs, (q.den : Int) ∣ lF s qs := by
  induction qs with
  | nil => intro s q hq; cases hq
  | cons a qs ih =>
    intro s q hq
    rcases List.mem_cons.mp hq with rfl | hq
    · exact Int.dvd_trans (dvd_lI_right s _) (dvd_lF_start qs _)
    · exact ih _ q hq

theorem cast_ne {a : Int} (h : a ≠ 0) : (a : Rat) ≠ 0 := fun e => h (Rat.intCast_inj.mp (by simpa using e))
theorem num_den_eq (q : Rat) : (q.num : Rat) = q * (q.den : Int) := by
  have h : q = (q.num : Rat) / ((q.den : Int) : Rat) := by
    conv => lhs; rw [← Rat.num_divInt_den q, Rat.divInt_eq_div]
  have hd : ((q.den : Int) : Rat) ≠ 0 := cast_ne (by have := den_pos' q; omega)
  generalize ((q.den : Int) : Rat) = d at h hd
  have e := Rat.div_mul_cancel (a := (q.num : Rat)) hd
  rw [← h] at e
  exact e.symm
theorem top_cast {w : Int} {q : Rat} (h : (q.den : Int) ∣ w) : ((q.num * (w / (q.den : Int)) : Int) : Rat) = q * (w : Rat) := by
  obtain ⟨k, rfl⟩ := h
  have hd := den_pos' q
  rw [Int.mul_ediv_cancel_left _ (by omega), Rat.intCast_mul, Rat.intCast_mul, num_den_eq]
  exact Rat.mul_assoc _ _ _
def castL (l : List Int) : List Rat := l.map (fun (i : Int) => (i : Rat))
theorem castL_cons (a : Int) (l : List Int) : castL (a :: l) = (a : Rat) :: castL l := rfl
theorem castL_nil : castL [] = [] := rfl
theorem castL_length (l : List Int) : (castL l).length = l.length := List.length_map ..
theorem castL_inj {a b : List Int} (h : castL a = castL b) : a = b := by
  induction a generalizing b with
  | nil => cases b with
    | nil => rfl
    | cons y b => simp [castL_nil, castL_cons] at h
  | cons x a ih => cases b with
    | nil => simp [castL_nil, castL_cons] at h
    | cons y b =>
      simp only [castL_cons, List.cons.injEq] at h
      rw [Rat.intCast_inj.mp h.1, ih h.2]
theorem tops_cast (qs : List Rat) : castL (tops (lF 1 qs) qs) = qs.map (· * (lF 1 qs : Rat)) := by
  unfold castL tops
  rw [List.map_map]
  exact List.map_congr_left fun q hq => top_cast (dvd_lF qs 1 q hq)
/-- the whole row is the row times a factor above 0, and primitive -/
theorem lowest_spec (qs : List Rat) : (∃ c : Rat, 0 < c ∧ castL (lowest qs) = qs.map (· * c)) ∧ Prim (lowest qs) := by
  have hw : (0 : Int) < lF 1 qs := lF_pos (by decide) qs
  have hw' : (0 : Rat) < (lF 1 qs : Rat) := Rat.intCast_pos.mpr hw
  unfold lowest
  by_cases h : gcdL (tops (lF 1 qs) qs) = 0
  · rw [if_pos h]
    exact ⟨⟨_, hw', tops_cast qs⟩, .inl h⟩
  · rw [if_neg h]
    have hg : 0 < gcdL (tops (lF 1 qs) qs) := by have := gcdL_nonneg (tops (lF 1 qs) qs); omega
    have hg' : (0 : Rat) < (gcdL (tops (lF 1 qs) qs) : Rat) := Rat.intCast_pos.mpr hg
    have hne : (gcdL (tops (lF 1 qs) qs) : Rat) ≠ 0 := cast_ne h
    refine ⟨⟨(lF 1 qs : Rat) / gcdL (tops (lF 1 qs) qs), ?_, ?_⟩, .inr (prim_div h)⟩
    · rw [Rat.div_def]
      exact Rat.mul_pos hw' (Rat.inv_pos.mpr hg')
    · have e := tops_cast qs
      have e2 : castL ((tops (lF 1 qs) qs).map (· / gcdL (tops (lF 1 qs) qs))) = (castL (tops (lF 1 qs) qs)).map (· / (gcdL (tops (lF 1 qs) qs) : Rat)) := by
        unfold castL
        rw [List.map_map, List.map_map]
        refine List.map_congr_left fun x hx => ?_
        obtain ⟨k, hk⟩ := gcdL_dvd hx
        show ((x / gcdL (tops (lF 1 qs) qs) : Int) : Rat) = (x : Rat) / _
        rw [show x / gcdL (tops (lF 1 qs) qs) = k by conv => lhs; rw [hk]; rw [Int.mul_ediv_cancel_left _ h]]
        conv => rhs; rw [hk, Rat.intCast_mul, Rat.mul_comm]
        rw [Rat.mul_div_cancel hne]
      rw [e2, e, List.map_map]
      refine List.map_congr_left fun q _ => ?_
      show q * _ / _ = q * (_ / _)
      rw [Rat.div_def, Rat.div_def, Rat.mul_assoc]
/-- primitive whole rows in a proportion above 0 are one -/
theorem prim_rat {xs ys : List Int} {c : Rat} (hc : 0 < c) (h : castL xs = (castL ys).map (· * c)) (px : Prim xs) (py : Prim ys) : xs = ys := by
  have hn : 0 < c.num := by
    have := Rat.lt_iff 0 c
    simp at this
    exact this.mp hc
  refine prim_unique (a := (c.den : Int)) (b := c.num) (den_pos' c) hn (castL_inj ?_) px py
  have e1 : castL (xs.map ((c.den : Int) * ·)) = (castL xs).map (((c.den : Int) : Rat) * ·) := by
    unfold castL; rw [List.map_map, List.map_map]; exact List.map_congr_left fun x _ => Rat.intCast_mul _ _
  have e2 : castL (ys.map (c.num * ·)) = (castL ys).map ((c.num : Rat) * ·) := by
    unfold castL; rw [List.map_map, List.map_map]; exact List.map_congr_left fun x _ => Rat.intCast_mul _ _
  rw [e1, e2, h, List.map_map, num_den_eq]
  refine List.map_congr_left fun x _ => ?_
  show _ * (x * c) = c * _ * x
  grind
theorem lowest_scale {qs : List Rat} {c : Rat} (hc : 0 < c) : lowest (qs.map (· * c)) = lowest qs := by
  obtain ⟨⟨a, ha, ea⟩, pa⟩ := lowest_spec (qs.map (· * c))
  obtain ⟨⟨b, hb, eb⟩, pb⟩ := lowest_spec qs
  have hb0 : b ≠ 0 := fun e => by rw [e] at hb; exact Rat.lt_irrefl hb
  refine prim_rat (c := c * a * b⁻¹) (Rat.mul_pos (Rat.mul_pos hc ha) (Rat.inv_pos.mpr hb)) ?_ pa pb
  rw [ea, eb, List.map_map, List.map_map]
  refine List.map_congr_left fun x _ => ?_
  show x * c * a = x * b * (c * a * b⁻¹)
  grind
theorem lowest_of_prim {xs : List Int} (p : Prim xs) : lowest (castL xs) = xs := by
  obtain ⟨⟨a, ha, ea⟩, pa⟩ := lowest_spec (castL xs)
  exact prim_rat ha ea pa p
theorem lowest_prim (qs : List Rat) : Prim (lowest qs) := (lowest_spec qs).2
theorem lowest_length (qs : List Rat) : (lowest qs).length = qs.length := by
  obtain ⟨⟨a, ha, ea⟩, _⟩ := lowest_spec qs
  have := congrArg List.length ea
  rwa [castL_length, List.length_map] at this
end K06
namespace K06
/-! rows of balls -/
structure RV where
  ws : List Int
  vs : List Rat
  wall : Bool
deriving DecidableEq
def leastW (ws : List Int) : List Int := ws.map (· / gcdL ws)
def v0 (R : RV) : Rat := if R.wall = true then 0 else R.vs.headD 0
def rested (R : RV) : List Rat := R.vs.map (· - v0 R)
def least (R : RV) : RV := ⟨leastW R.ws, castL (lowest (rested R)), R.wall⟩
structure Good (R : RV) : Prop where
  len : R.vs.length = R.ws.length
  n1 : 1 ≤ R.ws.length
  n2 : R.wall = false → 2 ≤ R.ws.length
  n40 : R.ws.length ≤ 40
  w1 : ∀ w ∈ R.ws, 1 ≤ w
  w9 : ∀ w ∈ R.ws, w ≤ 9

theorem sub_zero' (q : Rat) : q - 0 = q := by grind
theorem rested_wall {R : RV} (h : R.wall = true) : rested R = R.vs := by
  unfold rested v0
  rw [if_pos h]
  conv => rhs; rw [← List.map_id R.vs]
  exact List.map_congr_left fun x _ => sub_zero' x
theorem leastW_length (ws : List Int) : (leastW ws).length = ws.length := List.length_map ..
theorem gcdW_pos {R : RV} (g : Good R) : 0 < gcdL R.ws := by
  obtain ⟨w, hw⟩ := List.exists_mem_of_length_pos g.n1
  have := g.w1 w hw
  exact gcdL_pos_of hw (by omega)
theorem leastW_prim {R : RV} (g : Good R) : gcdL (leastW R.ws) = 1 := prim_div (by have := gcdW_pos g; omega)
theorem leastW_mul (R : RV) : (leastW R.ws).map (gcdL R.ws * ·) = R.ws := div_all fun _ hx => gcdL_dvd hx
theorem leastW_bounds {R : RV} (g : Good R) {x : Int} (h : x ∈ leastW R.ws) : 1 ≤ x ∧ x ≤ 9 := by
  obtain ⟨w, hw, rfl⟩ := List.mem_map.mp h
  have hg := gcdW_pos g
  obtain ⟨k, hk⟩ := gcdL_dvd hw
  have h1 := g.w1 w hw
  have h9 := g.w9 w hw
  have e : w / gcdL R.ws = k := by conv => lhs; rw [hk]; rw [Int.mul_ediv_cancel_left _ (by omega)]
  rw [e]
  have k1 : 0 < k := by
    rcases Int.lt_or_le 0 k with h | h
    · exact h
    · have := Int.mul_nonpos_of_nonneg_of_nonpos (Int.le_of_lt hg) h
      omega
  have : k ≤ gcdL R.ws * k := by
    have := Int.mul_le_mul_of_nonneg_right (show (1 : Int) ≤ gcdL R.ws by omega) (Int.le_of_lt k1)
    omega
  omega
theorem rested_length (R : RV) : (rested R).length = R.vs.length := List.length_map ..
theorem least_good {R : RV} (g : Good R) : Good (least R) where
  len := by
    show (castL _).length = (leastW _).length
    rw [castL_length, lowest_length, rested_length, leastW_length, g.len]
  n1 := by show 1 ≤ (leastW _).length; rw [leastW_length]; exact g.n1
  n2 := fun h => by show 2 ≤ (leastW _).length; rw [leastW_length]; exact g.n2 h
  n40 := by show (leastW _).length ≤ 40; rw [leastW_length]; exact g.n40
  w1 := fun w hw => (leastW_bounds g hw).1
  w9 := fun w hw => (leastW_bounds g hw).2
theorem leastW_idem {R : RV} (g : Good R) : leastW (leastW R.ws) = leastW R.ws := by
  have e : leastW (leastW R.ws) = (leastW R.ws).map (· / gcdL (leastW R.ws)) := rfl
  rw [e, leastW_prim g]
  exact map_div_one _
theorem lowest_head {q : Rat} {qs : List Rat} (h : q = 0) : ∃ r, lowest (q :: qs) = 0 :: r := by
  obtain ⟨⟨c, hc, e⟩, _⟩ := lowest_spec (q :: qs)
  cases hl : lowest (q :: qs) with
  | nil =>
    have := lowest_length (q :: qs)
    rw [hl] at this
    simp at this
  | cons a r =>
    rw [hl, castL_cons, List.map_cons, h] at e
    have ea : (a : Rat) = 0 * c := (List.cons.inj e).1
    have : a = 0 := Rat.intCast_inj.mp (by rw [ea]; simp)
    exact ⟨r, by rw [this]⟩
theorem rested_least (R : RV) : rested (least R) = castL (lowest (rested R)) := by
  have key : v0 (least R) = 0 := by
    unfold v0
    by_cases h : R.wall = true
    · rw [if_pos (show (least R).wall = true from h)]
    · rw [if_neg (show ¬ (least R).wall = true from h)]
      show (castL (lowest (rested R))).headD 0 = 0
      cases hv : R.vs with
      | nil =>
        have : rested R = [] := by unfold rested; rw [hv]; rfl
        rw [this]
        rfl
      | cons v r =>
        have e : rested R = (v - v) :: r.map (· - v) := by
          unfold rested v0
          rw [if_neg h, hv]
          rfl
        rw [e]
        obtain ⟨l, hl⟩ := lowest_head (q := v - v) (qs := r.map (· - v)) (by grind)
        rw [hl, castL_cons]
        rfl
  unfold rested
  rw [key]
  conv => rhs; rw [← List.map_id (castL _)]
  exact List.map_congr_left fun x _ => sub_zero' x
theorem least_idem {R : RV} (g : Good R) : least (least R) = least R := by
  unfold least
  have h1 := leastW_idem g
  have h2 := rested_least R
  unfold least at h2
  dsimp only at h2 ⊢
  rw [h1, h2, lowest_of_prim (lowest_prim _)]

/-- the pace of two rested rows -/
def paceOf : List Rat → List Rat → Rat
  | x :: xs, y :: ys => if x = 0 then paceOf xs ys else y / x
  | _, _ => 1
structure KV where
  f : Rat
  p : Rat
  m : Rat
deriving DecidableEq
def kinOf (R S : RV) : KV := ⟨((S.ws.headD 0 : Int) : Rat) / ((R.ws.headD 0 : Int) : Rat), paceOf (rested R) (rested S), v0 S - paceOf (rested R) (rested S) * v0 R⟩
/-- a weight that a factor makes no weight -/
def badW (f : Rat) (w : Int) : Bool := decide ((((w : Rat) * f).den ≠ 1) ∨ ¬ (1 ≤ ((w : Rat) * f).num ∧ ((w : Rat) * f).num ≤ 9))
inductive Out where
  | row (R : RV)
  | weight (i : Nat)
  | wall
deriving DecidableEq
def heavy (f : Rat) (ws : List Int) : List Int := ws.map (fun (w : Int) => ((w : Rat) * f).num)
def lead (k : KV) (R : RV) : Out :=
  match R.ws.findIdx? (badW k.f) with
  | some i => .weight i
  | none => if k.m = 0 then .row ⟨heavy k.f R.ws, R.vs.map (· * k.p), R.wall⟩ else if R.wall = true then .wall else .row ⟨heavy k.f R.ws, (R.vs.map (· * k.p)).map (· + k.m), R.wall⟩

theorem heavy_ok {f : Rat} {ws us : List Int} (h : castL us = (castL ws).map (· * f)) (hu : ∀ u ∈ us, 1 ≤ u ∧ u ≤ 9) : ws.findIdx? (badW f) = none ∧ heavy f ws = us := by
  induction ws generalizing us with
  | nil =>
    cases us with
    | nil => exact ⟨rfl, rfl⟩
    | cons u us => simp [castL_nil, castL_cons] at h
  | cons w ws ih =>
    cases us with
    | nil => simp [castL_nil, castL_cons] at h
    | cons u us =>
      simp only [castL_cons, List.map_cons, List.cons.injEq] at h
      obtain ⟨h1, h2⟩ := h
      obtain ⟨i1, i2⟩ := ih h2 fun x hx => hu x (List.mem_cons_of_mem _ hx)
      have b := hu u List.mem_cons_self
      have en : ((w : Rat) * f).num = u := by rw [← h1]; exact Rat.num_intCast u
      have ed : ((w : Rat) * f).den = 1 := by rw [← h1]; exact Rat.den_intCast u
      refine ⟨?_, ?_⟩
      · rw [List.findIdx?_cons]
        have : badW f w = false := by
          unfold badW
          rw [en, ed]
          exact decide_eq_false fun z => z.elim (fun z => z rfl) fun z => z b
        rw [this, i1]
        rfl
      · unfold heavy
        rw [List.map_cons, en]
        unfold heavy at i2
        rw [i2]
/-- two rested rows with one whole row are in a proportion -/
theorem rested_prop {R S : RV} (h : lowest (rested R) = lowest (rested S)) : ∃ c : Rat, 0 < c ∧ rested S = (rested R).map (· * c) := by
  obtain ⟨⟨a, ha, ea⟩, _⟩ := lowest_spec (rested R)
  obtain ⟨⟨b, hb, eb⟩, _⟩ := lowest_spec (rested S)
  rw [h, eb] at ea
  have hb0 : b ≠ 0 := fun e => by rw [e] at hb; exact Rat.lt_irrefl hb
  refine ⟨a * b⁻¹, Rat.mul_pos ha (Rat.inv_pos.mpr hb), ?_⟩
  have e2 : ((rested S).map (· * b)).map (· * b⁻¹) = rested S := by
    rw [List.map_map]
    conv => rhs; rw [← List.map_id (rested S)]
    refine List.map_congr_left fun x _ => ?_
    show x * b * b⁻¹ = x
    grind
  rw [← e2, ea, List.map_map]
  refine List.map_congr_left fun x _ => ?_
  show x * a * b⁻¹ = x * (a * b⁻¹)
  grind
theorem pace_of (xs : List Rat) (c : Rat) : paceOf xs (xs.map (· * c)) = if xs.all (fun x => decide (x = 0)) = true then 1 else c := by
  induction xs with
  | nil => rfl
  | cons x xs ih =>
    rw [List.map_cons]
    unfold paceOf
    by_cases h : x = 0
    · rw [if_pos h, ih, List.all_cons, decide_eq_true h, Bool.true_and]
    · rw [if_neg h, List.all_cons, decide_eq_false h, Bool.false_and, if_neg (by decide)]
      show x * c / x = c
      grind
theorem zeros_map {xs : List Rat} (h : xs.all (fun x => decide (x = 0)) = true) (a b : Rat) : xs.map (· * a) = xs.map (· * b) := by
  refine List.map_congr_left fun x hx => ?_
  have : x = 0 := of_decide_eq_true (List.all_eq_true.mp h x hx)
  rw [this]
  simp
/-- the pace of kin leads the rested row along -/
theorem pace_leads {R S : RV} (h : lowest (rested R) = lowest (rested S)) : rested S = (rested R).map (· * paceOf (rested R) (rested S)) := by
  obtain ⟨c, hc, e⟩ := rested_prop h
  rw [e, pace_of]
  split
  · rename_i z
    exact zeros_map z _ _
  · rfl
theorem speeds_lead {R S : RV} (h : lowest (rested R) = lowest (rested S)) : S.vs = (R.vs.map (· * paceOf (rested R) (rested S))).map (· + (v0 S - paceOf (rested R) (rested S) * v0 R)) := by
  have e := pace_leads h
  generalize paceOf (rested R) (rested S) = p at e
  unfold rested at e
  rw [List.map_map] at e
  rw [List.map_map]
  have e2 := congrArg (List.map (· + v0 S)) e
  rw [List.map_map, List.map_map] at e2
  have e3 : S.vs.map ((· + v0 S) ∘ (· - v0 S)) = S.vs := by
    conv => rhs; rw [← List.map_id S.vs]
    refine List.map_congr_left fun x _ => ?_
    show x - v0 S + v0 S = x
    grind
  rw [e3] at e2
  rw [e2]
  refine List.map_congr_left fun x _ => ?_
  show (x - v0 R) * p + v0 S = x * p + (v0 S - p * v0 R)
  grind
theorem weights_lead {R S : RV} (gR : Good R) (gS : Good S) (h : leastW R.ws = leastW S.ws) : castL S.ws = (castL R.ws).map (· * (((S.ws.headD 0 : Int) : Rat) / ((R.ws.headD 0 : Int) : Rat))) := by
  have eR := leastW_mul R
  have eS := leastW_mul S
  rw [h] at eR
  have pR := gcdW_pos gR
  have pS := gcdW_pos gS
  generalize gcdL R.ws = a at eR pR
  generalize gcdL S.ws = b at eS pS
  generalize leastW S.ws = l at eR eS
  have nl : l ≠ [] := by
    rintro rfl
    have := gR.n1
    rw [← eR] at this
    simp at this
  obtain ⟨x, r, rfl⟩ := List.exists_cons_of_ne_nil nl
  have hx : x ≠ 0 := by
    rintro rfl
    have := gR.w1 (a * 0) (by rw [← eR]; exact List.mem_cons_self)
    omega
  rw [← eR, ← eS]
  have ha : (a : Rat) ≠ 0 := cast_ne (by omega)
  have hx' : (x : Rat) ≠ 0 := cast_ne hx
  show castL ((x :: r).map (b * ·)) = (castL ((x :: r).map (a * ·))).map (· * (((b * x : Int) : Rat) / ((a * x : Int) : Rat)))
  have e : (((b * x : Int) : Rat) / ((a * x : Int) : Rat)) = (b : Rat) / a := by
    rw [Rat.intCast_mul, Rat.intCast_mul]
    grind
  rw [e]
  unfold castL
  rw [List.map_map, List.map_map, List.map_map]
  refine List.map_congr_left fun z _ => ?_
  show ((b * z : Int) : Rat) = ((a * z : Int) : Rat) * (b / a)
  rw [Rat.intCast_mul, Rat.intCast_mul]
  grind
/-- LEADING ALONG FINDS THE OTHER ROW -/
theorem lead_kin {R S : RV} (gR : Good R) (gS : Good S) (h : least R = least S) : lead (kinOf R S) R = .row S := by
  have hw : leastW R.ws = leastW S.ws := congrArg RV.ws h
  have hv : lowest (rested R) = lowest (rested S) := castL_inj (congrArg RV.vs h)
  have hl : R.wall = S.wall := by
    have := congrArg RV.wall h
    exact this
  obtain ⟨b, e⟩ := heavy_ok (weights_lead gR gS hw) fun u hu => ⟨gS.w1 u hu, gS.w9 u hu⟩
  have sp := speeds_lead hv
  unfold lead kinOf
  dsimp only
  rw [b]
  dsimp only
  rw [e]
  obtain ⟨sw, svs, swall⟩ := S
  dsimp only at hl sp
  by_cases hm : v0 ⟨sw, svs, swall⟩ - paceOf (rested R) (rested ⟨sw, svs, swall⟩) * v0 R = 0
  · rw [if_pos hm]
    rw [hm] at sp
    have e2 : ∀ l : List Rat, l.map (· + 0) = l := fun l => by
      conv => rhs; rw [← List.map_id l]
      exact List.map_congr_left fun x _ => by show x + 0 = x; grind
    rw [e2] at sp
    rw [← sp, hl]
  · rw [if_neg hm, ← sp]
    have : ¬ R.wall = true := fun z => by
      apply hm
      unfold v0
      rw [if_pos z, if_pos (show swall = true by rw [← hl]; exact z)]
      grind
    rw [if_neg this, hl]
theorem kin_self {R : RV} (g : Good R) : kinOf R R = ⟨1, 1, 0⟩ := by
  have e : paceOf (rested R) (rested R) = 1 := by
    have z := pace_of (rested R) 1
    have e2 : (rested R).map (· * (1 : Rat)) = rested R := by
      conv => rhs; rw [← List.map_id (rested R)]
      exact List.map_congr_left fun x _ => Rat.mul_one x
    rw [e2] at z
    rw [z]
    split <;> rfl
  unfold kinOf
  rw [e]
  have hx : ((R.ws.headD 0 : Int) : Rat) ≠ 0 := by
    obtain ⟨ws, vs, wall⟩ := R
    cases ws with
    | nil => exact absurd g.n1 (by simp)
    | cons w r =>
      have := g.w1 w List.mem_cons_self
      exact cast_ne (show w ≠ 0 by omega)
  have e1 : ((R.ws.headD 0 : Int) : Rat) / ((R.ws.headD 0 : Int) : Rat) = 1 := by grind
  have e2 : v0 R - 1 * v0 R = 0 := by grind
  rw [e1, e2]

/-! the row led along by the law itself -/
def led (f p m : Rat) (R : RV) : RV := ⟨heavy f R.ws, R.vs.map (fun v => v * p + m), R.wall⟩
structure LedOk (f p m : Rat) (R : RV) : Prop where
  fit : castL (heavy f R.ws) = (castL R.ws).map (· * f)
  b : ∀ u ∈ heavy f R.ws, 1 ≤ u ∧ u ≤ 9
  pos : 0 < p
  shut : R.wall = true → m = 0
theorem led_good {f p m : Rat} {R : RV} (g : Good R) (o : LedOk f p m R) : Good (led f p m R) where
  len := by show (R.vs.map _).length = (R.ws.map _).length; rw [List.length_map, List.length_map, g.len]
  n1 := by show 1 ≤ (R.ws.map _).length; rw [List.length_map]; exact g.n1
  n2 := fun h => by show 2 ≤ (R.ws.map _).length; rw [List.length_map]; exact g.n2 h
  n40 := by show (R.ws.map _).length ≤ 40; rw [List.length_map]; exact g.n40
  w1 := fun w hw => (o.b w hw).1
  w9 := fun w hw => (o.b w hw).2
theorem led_v0 {f p m : Rat} {R : RV} (g : Good R) (o : LedOk f p m R) : v0 (led f p m R) = v0 R * p + m := by
  unfold v0
  by_cases h : R.wall = true
  · rw [if_pos (show (led f p m R).wall = true from h), if_pos h, o.shut h]
    grind
  · rw [if_neg (show ¬ (led f p m R).wall = true from h), if_neg h]
    obtain ⟨ws, vs, wall⟩ := R
    cases vs with
    | nil =>
      have h1 := g.len
      have h2 := g.n1
      simp at h1
      simp [← h1] at h2
    | cons v r => rfl
theorem led_rested {f p m : Rat} {R : RV} (g : Good R) (o : LedOk f p m R) : rested (led f p m R) = (rested R).map (· * p) := by
  unfold rested
  rw [led_v0 g o]
  show (R.vs.map _).map _ = _
  rw [List.map_map, List.map_map]
  refine List.map_congr_left fun x _ => ?_
  show x * p + m - (v0 R * p + m) = (x - v0 R) * p
  grind
theorem led_least {f p m : Rat} {R : RV} (g : Good R) (o : LedOk f p m R) : least (led f p m R) = least R := by
  have g2 := led_good g o
  have e1 : lowest (rested (led f p m R)) = lowest (rested R) := by rw [led_rested g o, lowest_scale o.pos]
  have e2 : leastW (heavy f R.ws) = leastW R.ws := by
    have pf : 0 < f := by
      obtain ⟨ws, vs, wall⟩ := R
      cases ws with
      | nil => exact absurd g.n1 (by simp)
      | cons w r =>
        have h1 := g.w1 w List.mem_cons_self
        have h2 : 1 ≤ ((w : Rat) * f).num := (o.b _ (List.mem_cons_self : ((w : Rat) * f).num ∈ heavy f (w :: r))).1
        have h3 : ((((w : Rat) * f).num : Int) : Rat) = (w : Rat) * f := by
          have := o.fit
          exact (List.cons.inj this).1
        have h4 : (0 : Rat) < (w : Rat) := Rat.intCast_pos.mpr (by omega)
        have h5 : (0 : Rat) < (w : Rat) * f := by rw [← h3]; exact Rat.intCast_pos.mpr (by omega)
        have h6 : f = (w : Rat) * f * (w : Rat)⁻¹ := by
          have : (w : Rat) ≠ 0 := cast_ne (by omega)
          grind
        rw [h6]
        exact Rat.mul_pos h5 (Rat.inv_pos.mpr h4)
    have pa := gcdW_pos g
    have pb := gcdW_pos g2
    refine prim_rat (c := f * (gcdL R.ws : Rat) * ((gcdL (heavy f R.ws) : Int) : Rat)⁻¹) (Rat.mul_pos (Rat.mul_pos pf (Rat.intCast_pos.mpr pa)) (Rat.inv_pos.mpr (Rat.intCast_pos.mpr pb))) ?_ (.inr (leastW_prim g2)) (.inr (leastW_prim g))
    have q1 := congrArg castL (leastW_mul R)
    have q2 := congrArg castL (leastW_mul (led f p m R))
    have mulc : ∀ (c : Int) (l : List Int), castL (l.map (c * ·)) = (castL l).map ((c : Rat) * ·) := fun c l => by
      unfold castL
      rw [List.map_map, List.map_map]
      exact List.map_congr_left fun z _ => Rat.intCast_mul _ _
    rw [mulc] at q1 q2
    have q3 : (castL (leastW (heavy f R.ws))).map (((gcdL (heavy f R.ws) : Int) : Rat) * ·) = ((castL (leastW R.ws)).map ((gcdL R.ws : Rat) * ·)).map (· * f) := by
      rw [q1]
      exact q2.trans o.fit
    have hb : ((gcdL (heavy f R.ws) : Int) : Rat) ≠ 0 := cast_ne (by have : 0 < gcdL (heavy f R.ws) := pb; omega)
    generalize gcdL (heavy f R.ws) = b at q3 hb
    generalize gcdL R.ws = a at q3
    generalize castL (leastW (heavy f R.ws)) = xs at q3
    generalize castL (leastW R.ws) = ys at q3
    have q4 := congrArg (List.map (· * (b : Rat)⁻¹)) q3
    rw [List.map_map, List.map_map, List.map_map] at q4
    have q5 : xs.map ((· * (b : Rat)⁻¹) ∘ ((b : Rat) * ·)) = xs := by
      conv => rhs; rw [← List.map_id xs]
      refine List.map_congr_left fun z _ => ?_
      show (b : Rat) * z * (b : Rat)⁻¹ = z
      grind
    rw [q5] at q4
    rw [q4]
    refine List.map_congr_left fun z _ => ?_
    show (a : Rat) * z * f * (b : Rat)⁻¹ = z * (f * a * (b : Rat)⁻¹)
    grind
  unfold least
  rw [e1]
  show RV.mk (leastW (heavy f R.ws)) _ _ = _
  rw [e2]
  rfl
/-- does any speed settle the pace -/
def settled (R : RV) : Bool := !(rested R).all (fun x => decide (x = 0))
theorem led_kin {f p m : Rat} {R : RV} (g : Good R) (o : LedOk f p m R) : kinOf R (led f p m R) = if settled R = true then ⟨f, p, m⟩ else ⟨f, 1, v0 (led f p m R) - v0 R⟩ := by
  have ef : (((led f p m R).ws.headD 0 : Int) : Rat) / ((R.ws.headD 0 : Int) : Rat) = f := by
    obtain ⟨ws, vs, wall⟩ := R
    cases ws with
    | nil => exact absurd g.n1 (by simp)
    | cons w r =>
      have h1 := g.w1 w List.mem_cons_self
      have h3 : ((((w : Rat) * f).num : Int) : Rat) = (w : Rat) * f := (List.cons.inj o.fit).1
      have : (w : Rat) ≠ 0 := cast_ne (by omega)
      show ((((w : Rat) * f).num : Int) : Rat) / (w : Rat) = f
      rw [h3]
      grind
  have ep : paceOf (rested R) (rested (led f p m R)) = if settled R = true then p else 1 := by
    rw [led_rested g o, pace_of]
    unfold settled
    cases (rested R).all fun x => decide (x = 0) <;> rfl
  unfold kinOf
  rw [ef, ep]
  by_cases h : settled R = true
  · rw [if_pos h, if_pos h, led_v0 g o]
    have : v0 R * p + m - p * v0 R = m := by grind
    rw [this]
  · rw [if_neg h, if_neg h]
    have : v0 (led f p m R) - 1 * v0 R = v0 (led f p m R) - v0 R := by grind
    rw [this]
theorem back_pace {f p m : Rat} {R : RV} (g : Good R) (o : LedOk f p m R) : (kinOf (led f p m R) R).p = if settled R = true then p⁻¹ else 1 := by
  show paceOf (rested (led f p m R)) (rested R) = _
  have hp : p ≠ 0 := fun e => by have := o.pos; rw [e] at this; exact Rat.lt_irrefl this
  have e : rested R = ((rested R).map (· * p)).map (· * p⁻¹) := by
    rw [List.map_map]
    conv => lhs; rw [← List.map_id (rested R)]
    refine List.map_congr_left fun x _ => ?_
    show x = x * p * p⁻¹
    grind
  rw [led_rested g o]
  conv => lhs; rw [e]
  have e2 : ((rested R).map (· * p)).all (fun x => decide (x = 0)) = (rested R).all (fun x => decide (x = 0)) := by
    rw [List.all_map]
    congr 1
    funext x
    show decide (x * p = 0) = decide (x = 0)
    by_cases hx : x = 0
    · rw [decide_eq_true hx, decide_eq_true (by rw [hx]; simp)]
    · rw [decide_eq_false hx, decide_eq_false]
      intro z
      rcases Rat.mul_eq_zero.mp z with z | z
      · exact hx z
      · exact hp z
  have z := pace_of ((rested R).map (· * p)) p⁻¹
  have e3 : ((rested R).map (· * p)).map (· * p⁻¹) = rested R := e.symm
  rw [e3] at z ⊢
  rw [z, e2]
  unfold settled
  cases (rested R).all fun x => decide (x = 0) <;> rfl
theorem least_len {R S : RV} (h : least R = least S) : R.ws.length = S.ws.length := by
  have := congrArg (fun T : RV => T.ws.length) h
  simpa [least, leastW_length] using this
theorem least_wall {R S : RV} (h : least R = least S) : R.wall = S.wall := by
  have := congrArg RV.wall h
  exact this
end K06

namespace K06
/-! lowest terms; sizes -/
theorem gI_pos {a b : Int} (hb : b ≠ 0) : 0 < gI a b := by
  have := Nat.gcd_pos_of_pos_right a.natAbs (Int.natAbs_pos.mpr hb)
  unfold gI
  omega
def gS (t b : Int) : Int := if b < 0 then -(gI t b) else gI t b
theorem gS_ne {t b : Int} (hb : b ≠ 0) : gS t b ≠ 0 := by
  have := gI_pos (a := t) hb
  unfold gS
  split <;> omega
theorem gS_abs (t b : Int) : (gS t b).natAbs = (gI t b).natAbs := by
  unfold gS
  split
  · exact Int.natAbs_neg _
  · rfl
theorem low_num {t b : Int} (hb : b ≠ 0) : t.fdiv (gS t b) = (Rat.divInt t b).num ∧ b.fdiv (gS t b) = ((Rat.divInt t b).den : Int) := by
  have hg := gI_pos (a := t) hb
  obtain ⟨k, hk⟩ := gI_dvd_left t b
  obtain ⟨m, hm⟩ := gI_dvd_right t b
  have eg : ((b.gcd t : Nat) : Int) = gI t b := by
    show ((Nat.gcd b.natAbs t.natAbs : Nat) : Int) = _
    rw [Nat.gcd_comm]
    rfl
  rw [Rat.num_divInt, Rat.den_divInt, if_neg hb, eg]
  have e2 : ((b.natAbs / b.gcd t : Nat) : Int) = (b.natAbs : Int) / gI t b := by
    rw [← eg]
    rfl
  rw [e2]
  by_cases h : b < 0
  · have es : gS t b = -(gI t b) := if_pos h
    rw [es, Int.sign_eq_neg_one_of_neg h]
    have eb : (b.natAbs : Int) = -b := by omega
    rw [eb]
    generalize gI t b = g at *
    have hne : g ≠ 0 := by omega
    constructor
    · have z : t = (-g) * (-k) := by rw [Int.neg_mul_neg]; exact hk
      conv => lhs; rw [z]
      rw [Int.mul_fdiv_cancel_left _ (by omega), hk, Int.neg_mul, Int.one_mul]
      rw [show -(g * k) = g * (-k) by rw [Int.mul_neg], Int.mul_ediv_cancel_left _ hne]
    · have z : b = (-g) * (-m) := by rw [Int.neg_mul_neg]; exact hm
      conv => lhs; rw [z]
      rw [Int.mul_fdiv_cancel_left _ (by omega)]
      have z2 : -b = g * (-m) := by rw [Int.mul_neg, ← hm]
      rw [z2, Int.mul_ediv_cancel_left _ hne]
  · have es : gS t b = gI t b := if_neg h
    rw [es, Int.sign_eq_one_of_pos (by omega)]
    have eb : (b.natAbs : Int) = b := by omega
    rw [eb, Int.one_mul]
    exact ⟨Int.fdiv_eq_ediv_of_nonneg _ (by omega), Int.fdiv_eq_ediv_of_nonneg _ (by omega)⟩
theorem divInt_self (q : Rat) : Rat.divInt q.num (q.den : Int) = q := Rat.num_divInt_den q
theorem rat_add (q r : Rat) : Rat.divInt (q.num * (r.den : Int) + r.num * (q.den : Int)) ((q.den : Int) * (r.den : Int)) = q + r := by
  conv => rhs; rw [← divInt_self q, ← divInt_self r]
  rw [Rat.divInt_add_divInt _ _ (by have := den_pos' q; omega) (by have := den_pos' r; omega)]
theorem rat_sub (q r : Rat) : Rat.divInt (q.num * (r.den : Int) - r.num * (q.den : Int)) ((q.den : Int) * (r.den : Int)) = q - r := by
  conv => rhs; rw [← divInt_self q, ← divInt_self r]
  rw [Rat.divInt_sub_divInt _ _ (by have := den_pos' q; omega) (by have := den_pos' r; omega)]
theorem rat_mul (q r : Rat) : Rat.divInt (q.num * r.num) ((q.den : Int) * (r.den : Int)) = q * r := by
  conv => rhs; rw [← divInt_self q, ← divInt_self r]
  rw [Rat.divInt_mul_divInt]
theorem rat_div (q r : Rat) : Rat.divInt (q.num * (r.den : Int)) ((q.den : Int) * r.num) = q / r := by
  rw [Rat.div_def, Rat.inv_def]
  conv => rhs; rw [← divInt_self q]
  rw [Rat.divInt_mul_divInt]
theorem abs_le_of_dvd {a b : Int} (h : a ∣ b) (hb : b ≠ 0) : a.natAbs ≤ b.natAbs := Nat.le_of_dvd (Int.natAbs_pos.mpr hb) (Int.natAbs_dvd_natAbs.mpr h)
/-- a fraction's top and bottom bound the ratio's -/
theorem divInt_num_le {t b : Int} (hb : b ≠ 0) : (Rat.divInt t b).num.natAbs ≤ t.natAbs := by
  by_cases h : t = 0
  · rw [h, Rat.zero_divInt]
    exact Nat.le_refl 0
  · rw [← (low_num hb).1]
    have hd : gS t b ∣ t := by
      unfold gS
      split
      · exact Int.neg_dvd.mpr (gI_dvd_left t b)
      · exact gI_dvd_left t b
    obtain ⟨k, hk⟩ := hd
    have e : t.fdiv (gS t b) = k := by
      conv => lhs; arg 1; rw [hk]
      exact Int.mul_fdiv_cancel_left _ (gS_ne hb)
    rw [e]
    exact abs_le_of_dvd ⟨gS t b, by rw [Int.mul_comm]; exact hk⟩ h
theorem divInt_den_le {t b : Int} (hb : b ≠ 0) : (Rat.divInt t b).den ≤ b.natAbs := by
  have z := (low_num (t := t) hb).2
  have hd : gS t b ∣ b := by
    unfold gS
    split
    · exact Int.neg_dvd.mpr (gI_dvd_right t b)
    · exact gI_dvd_right t b
  obtain ⟨k, hk⟩ := hd
  have e : b.fdiv (gS t b) = k := by
    conv => lhs; arg 1; rw [hk]
    exact Int.mul_fdiv_cancel_left _ (gS_ne hb)
  rw [e] at z
  have := abs_le_of_dvd (a := k) ⟨gS t b, by rw [Int.mul_comm]; exact hk⟩ hb
  omega
structure Sz (n d : Nat) (q : Rat) : Prop where
  num : q.num.natAbs < 2 ^ n
  den : q.den < 2 ^ d
  n0 : 0 < n
  d0 : 0 < d
theorem mul_lt_pow {a b m n : Nat} (ha : a < 2 ^ m) (hb : b < 2 ^ n) : a * b < 2 ^ (m + n) := by
  rw [Nat.pow_add]
  exact Nat.mul_lt_mul'' ha hb
theorem imul_lt {a b : Int} {m n : Nat} (ha : a.natAbs < 2 ^ m) (hb : b.natAbs < 2 ^ n) : (a * b).natAbs < 2 ^ (m + n) := by
  rw [Int.natAbs_mul]
  exact mul_lt_pow ha hb
theorem pow_le {m n : Nat} (h : m ≤ n) : 2 ^ m ≤ 2 ^ n := Nat.pow_le_pow_right (by decide) h
theorem lt_up {x m n : Nat} (h : x < 2 ^ m) (hmn : m ≤ n) : x < 2 ^ n := Nat.lt_of_lt_of_le h (pow_le hmn)
theorem iadd_lt {a b : Int} {m : Nat} (ha : a.natAbs < 2 ^ m) (hb : b.natAbs < 2 ^ m) : (a + b).natAbs < 2 ^ (m + 1) := by
  have : 2 ^ (m + 1) = 2 ^ m + 2 ^ m := by rw [Nat.pow_succ]; omega
  omega
theorem isub_lt {a b : Int} {m : Nat} (ha : a.natAbs < 2 ^ m) (hb : b.natAbs < 2 ^ m) : (a - b).natAbs < 2 ^ (m + 1) := by
  have : 2 ^ (m + 1) = 2 ^ m + 2 ^ m := by rw [Nat.pow_succ]; omega
  omega
theorem Sz.up {n d n' d' : Nat} {q : Rat} (h : Sz n d q) (hn : n ≤ n') (hd : d ≤ d') : Sz n' d' q := ⟨lt_up h.num hn, lt_up h.den hd, Nat.lt_of_lt_of_le h.n0 hn, Nat.lt_of_lt_of_le h.d0 hd⟩
theorem dden (q : Rat) : ((q.den : Int)).natAbs = q.den := Int.natAbs_natCast _
theorem Sz.deni {n d : Nat} {q : Rat} (h : Sz n d q) : ((q.den : Int)).natAbs < 2 ^ d := by rw [dden]; exact h.den
theorem den_ne {q r : Rat} : (q.den : Int) * (r.den : Int) ≠ 0 := by
  have h1 := den_pos' q
  have h2 := den_pos' r
  exact Int.ne_of_gt (Int.mul_pos h1 h2)
theorem sz_frac {t b : Int} {n d : Nat} (hb : b ≠ 0) (ht : t.natAbs < 2 ^ n) (h : b.natAbs < 2 ^ d) (n0 : 0 < n) (d0 : 0 < d) : Sz n d (Rat.divInt t b) :=
  ⟨Nat.lt_of_le_of_lt (divInt_num_le hb) ht, Nat.lt_of_le_of_lt (divInt_den_le hb) h, n0, d0⟩
section
variable {n d n' d' : Nat} {q r : Rat}
theorem Sz.cross (h : Sz n d q) (g : Sz n' d' r) : (q.num * (r.den : Int)).natAbs < 2 ^ (n + d') := imul_lt h.num g.deni
theorem Sz.dens (h : Sz n d q) (g : Sz n' d' r) : ((q.den : Int) * (r.den : Int)).natAbs < 2 ^ (d + d') := imul_lt h.deni g.deni
theorem Sz.add (h : Sz n d q) (g : Sz n' d' r) {m : Nat} (h1 : n + d' ≤ m) (h2 : n' + d ≤ m) : Sz (m + 1) (d + d') (q + r) := by
  rw [← rat_add]
  exact sz_frac den_ne (iadd_lt (lt_up (h.cross g) h1) (lt_up (g.cross h) h2)) (h.dens g) (Nat.succ_pos _) (Nat.add_pos_left h.d0 _)
theorem Sz.sub (h : Sz n d q) (g : Sz n' d' r) {m : Nat} (h1 : n + d' ≤ m) (h2 : n' + d ≤ m) : Sz (m + 1) (d + d') (q - r) := by
  rw [← rat_sub]
  exact sz_frac den_ne (isub_lt (lt_up (h.cross g) h1) (lt_up (g.cross h) h2)) (h.dens g) (Nat.succ_pos _) (Nat.add_pos_left h.d0 _)
theorem Sz.mul (h : Sz n d q) (g : Sz n' d' r) : Sz (n + n') (d + d') (q * r) := by
  rw [← rat_mul]
  exact sz_frac den_ne (imul_lt h.num g.num) (h.dens g) (Nat.add_pos_left h.n0 _) (Nat.add_pos_left h.d0 _)
theorem num_ne {q : Rat} (h : q ≠ 0) : q.num ≠ 0 := fun z => h (Rat.num_eq_zero.mp z)
theorem dn_ne {q r : Rat} (h : r ≠ 0) : (q.den : Int) * r.num ≠ 0 := Int.mul_ne_zero (by have := den_pos' q; omega) (num_ne h)
theorem Sz.div (h : Sz n d q) (g : Sz n' d' r) (h0 : r ≠ 0) : Sz (n + d') (d + n') (q / r) := by
  rw [← rat_div]
  exact sz_frac (dn_ne h0) (h.cross g) (imul_lt h.deni g.num) (Nat.add_pos_left h.n0 _) (Nat.add_pos_left h.d0 _)
theorem sz_int {k : Int} {n : Nat} (h : k.natAbs < 2 ^ n) (n0 : 0 < n) : Sz n 1 (k : Rat) := ⟨by rw [Rat.num_intCast]; exact h, by rw [Rat.den_intCast]; decide, n0, by decide⟩
end
end K06


/-! K06B: folds by turns, bounds of whole rows. -/
namespace K06
theorem take_snoc {α : Type} {l : List α} {i : Nat} {x : α} (h : l[i]? = some x) : l.take (i + 1) = l.take i ++ [x] := by
  obtain ⟨hi, e⟩ := List.getElem?_eq_some_iff.mp h
  rw [List.take_succ_eq_append_getElem hi, e]
theorem lF_snoc (s : Int) (qs : List Rat) (q : Rat) : lF s (qs ++ [q]) = lI (lF s qs) (q.den : Int) := by
  unfold lF
  rw [List.foldl_append]
  rfl
theorem gF_snoc (s : Int) (l : List Int) (x : Int) : gF s (l ++ [x]) = gI (gF s l) x := by
  unfold gF
  rw [List.foldl_append]
  rfl
theorem lI_abs (a b : Int) : (lI a b).natAbs = Nat.lcm a.natAbs b.natAbs := Int.natAbs_natCast _
theorem lI_lt {a b : Int} {m n : Nat} (ha : a.natAbs < 2 ^ m) (hb : b.natAbs < 2 ^ n) : (lI a b).natAbs < 2 ^ (m + n) := by
  rw [lI_abs]
  by_cases h0 : a.natAbs * b.natAbs = 0
  · have : Nat.lcm a.natAbs b.natAbs = 0 := by
      rcases Nat.mul_eq_zero.mp h0 with z | z
      · rw [z, Nat.lcm_zero_left]
      · rw [z, Nat.lcm_zero_right]
    rw [this]
    exact Nat.two_pow_pos _
  · exact Nat.lt_of_le_of_lt (Nat.le_of_dvd (Nat.pos_of_ne_zero h0) (Nat.lcm_dvd_mul _ _)) (mul_lt_pow ha hb)
theorem lF_lt {d : Nat} (qs : List Rat) : ∀ (s : Int) (k : Nat), s.natAbs < 2 ^ k → (∀ q ∈ qs, q.den < 2 ^ d) → (lF s qs).natAbs < 2 ^ (k + d * qs.length) := by
  induction qs with
  | nil => intro s k h _; exact h
  | cons q qs ih =>
    intro s k h hq
    have e : k + d * (q :: qs).length = (k + d) + d * qs.length := by rw [List.length_cons, Nat.mul_succ]; omega
    rw [e]
    exact ih _ _ (lI_lt h (by rw [dden]; exact hq q List.mem_cons_self)) fun x hx => hq x (List.mem_cons_of_mem _ hx)
theorem Szs_den {n d : Nat} {qs : List Rat} (h : ∀ q ∈ qs, Sz n d q) : ∀ q ∈ qs, q.den < 2 ^ d := fun q hq => (h q hq).den
theorem lF1_lt {d : Nat} (qs : List Rat) (h : ∀ q ∈ qs, q.den < 2 ^ d) (h40 : qs.length ≤ 40) : (lF 1 qs).natAbs < 2 ^ (1 + 40 * d) := by
  have := lF_lt qs 1 1 (by decide) h
  refine lt_up this ?_
  have : d * qs.length ≤ d * 40 := Nat.mul_le_mul_left d h40
  omega
theorem ediv_abs_le {a b : Int} (h : b ∣ a) : (a / b).natAbs ≤ a.natAbs := by
  obtain ⟨k, rfl⟩ := h
  by_cases hb : b = 0
  · subst hb
    simp
  · rw [Int.mul_ediv_cancel_left _ hb, Int.natAbs_mul]
    exact Nat.le_mul_of_pos_left _ (Int.natAbs_pos.mpr hb)
theorem tops_mem_lt {n d : Nat} {qs : List Rat} (h : ∀ q ∈ qs, Sz n d q) (h40 : qs.length ≤ 40) {x : Int} (hx : x ∈ tops (lF 1 qs) qs) : x.natAbs < 2 ^ (n + (1 + 40 * d)) := by
  unfold tops at hx
  obtain ⟨q, hq, rfl⟩ := List.mem_map.mp hx
  exact imul_lt (h q hq).num (Nat.lt_of_le_of_lt (ediv_abs_le (dvd_lF qs 1 q hq)) (lF1_lt qs (Szs_den h) h40))
theorem lowest_mem_lt {n d : Nat} {qs : List Rat} (h : ∀ q ∈ qs, Sz n d q) (h40 : qs.length ≤ 40) {x : Int} (hx : x ∈ lowest qs) : x.natAbs < 2 ^ (n + (1 + 40 * d)) := by
  unfold lowest at hx
  split at hx
  · exact tops_mem_lt h h40 hx
  · obtain ⟨y, hy, rfl⟩ := List.mem_map.mp hx
    exact Nat.lt_of_le_of_lt (ediv_abs_le (gcdL_dvd hy)) (tops_mem_lt h h40 hy)
theorem gcd_mem_lt {m : Nat} {l : List Int} (h : ∀ x ∈ l, x.natAbs < 2 ^ m) : (gcdL l).natAbs < 2 ^ m := by
  by_cases h0 : gcdL l = 0
  · rw [h0]
    exact Nat.two_pow_pos m
  · have : ∃ x ∈ l, x ≠ 0 := by
      refine Classical.byContradiction fun hc => h0 ?_
      have z : ∀ x ∈ l, x = 0 := fun x hx => Classical.byContradiction fun hn => hc ⟨x, hx, hn⟩
      have := dvd_gF (d := 0) l 0 (Int.dvd_refl 0) fun x hx => by rw [z x hx]; exact Int.dvd_refl 0
      exact Int.zero_dvd.mp this
    obtain ⟨x, hx, hn⟩ := this
    exact Nat.lt_of_le_of_lt (abs_le_of_dvd (gcdL_dvd hx) hn) (h x hx)
end K06


set_option Elab.async false
set_option linter.all false
set_option maxRecDepth 100000
set_option maxHeartbeats 2000000
/-! K06R: rules of our own over the layer. -/
namespace K06E
open PySem
open AutoSeq1 (wpAny_loadPart')
/-! enumerate of a tuple -/
set_option maxHeartbeats 4000000 in
theorem meets_enumT (t : Addr) (items : Array Value) (n : Nat) (dct : Option Addr) (sl : Array (Option Value)) :
    Meets (Builtin.«enumerate.__new__» ⟨[.type "enumerate", .ref t], []⟩) (fun _ R s => s.heap.get? t = some { cls := .type "tuple", dict := dct, data := .seq items n, slots := sl } ∧
      R (.ok (.ret (.ref (s.heap.push { cls := .type "tuple_iterator", data := .fields #[.ref t, .int 0 0] }).objs.size)))
        { s with heap := (s.heap.push { cls := .type "tuple_iterator", data := .fields #[.ref t, .int 0 0] }).push { cls := .type "enumerate", data := .fields #[.none, .bool false, .ref s.heap.objs.size, rawInt 0, .none, .none] } }) :=
  .of_wp fun prog w A R s h => by
    obtain ⟨hp, g, d, tk, os⟩ := s
    obtain ⟨ht, h⟩ := h
    have hsub := sub_enumerate
    have hT : Heap.IsTuple (Shared.heap ⟨hp, g, d, tk, os⟩) t items := ⟨_, ht, rfl, n, rfl⟩
    wp_walk using wpAny_loadPart' ht
    refine wpAny_stack_any fun st => wpAny_pure ?_
    split
    · rename_i c _ _ _ _ _
      cases (c == Value.type "enumerate")
      · wp_walk using wpAny_loadPart' ht, wpAny_pyIter_tuple hT
        exact ⟨_, rfl, h⟩
      · wp_walk using wpAny_loadPart' ht, wpAny_pyIter_tuple hT
        exact ⟨_, rfl, h⟩
    · wp_walk using wpAny_loadPart' ht, wpAny_pyIter_tuple hT
      exact ⟨_, rfl, h⟩
theorem call_enumT {prog : Program} {w : World} {A : Around} {E : Value → Shared → Prop} {s : Shared} {t : Addr} {items : Array Value} {Q : Value → Shared → Prop} (hT : s.heap.IsTuple t items)
    (h : ∀ h', IsEnum h' (s.heap.objs.size + 1) s.heap.objs.size 0 .none → h'.IsTupleIter s.heap.objs.size t 0 →
      (∀ b o, s.heap.get? b = some o → h'.get? b = some o) → Q (.ref (s.heap.objs.size + 1)) { s with heap := h' }) :
    wpAny (model prog w) A (call (.type "enumerate") [.ref t]) Q E s := by
  obtain ⟨⟨c, dct, dt, sl⟩, ht, hc, n, hd⟩ := hT
  replace hc : c = .type "tuple" := hc
  replace hd : dt = .seq items n := hd
  subst hc hd
  have hz : (s.heap.push { cls := .type "tuple_iterator", data := .fields #[.ref t, .int 0 0] }).objs.size = s.heap.objs.size + 1 := Heap.size_push ..
  have he : IsEnum ((s.heap.push { cls := .type "tuple_iterator", data := .fields #[.ref t, .int 0 0] }).push
      { cls := .type "enumerate", data := .fields #[.none, .bool false, .ref s.heap.objs.size, rawInt 0, .none, .none] }) (s.heap.objs.size + 1) s.heap.objs.size 0 .none := by
    have q := Heap.get?_push_size (s.heap.push { cls := .type "tuple_iterator", data := .fields #[.ref t, .int 0 0] })
      (o := { cls := .type "enumerate", data := .fields #[.none, .bool false, .ref s.heap.objs.size, rawInt 0, .none, .none] }) rfl
    rw [hz] at q
    exact q
  refine callType_new F.called_enumerate (by decide) (F.typeCall_enumerate_1 _) (F.newCall_enumerate_1 _) (fun obj => F.args_object_init_2 obj _) F.entry_enumerate_new
    (meets_enumT t items n dct sl) ⟨ht, ?_⟩
  show _ ∧ _
  rw [hz]
  exact ⟨⟨_, he, rfl⟩, h _ he ⟨_, Heap.get?_push_of_some _ (Heap.get?_push_size _ rfl), rfl, rfl⟩ fun b o x => Heap.get?_push_of_some _ (Heap.get?_push_of_some _ x)⟩
end K06E
namespace K06
open PySem PySem.Spec PyProof.Rows L2
section
variable {X : Cx}
/-! ### math.lcm -/
def rLcm : List V → Hp → VK → Prop := fun vs H Q => ∃ a b : Int, vs = [.int a, .int b] ∧ a.natAbs < 2 ^ 9000 ∧ b.natAbs < 2 ^ 9000 ∧ Q (.int (lI a b)) H
theorem log_lt {n k : Nat} (h : n < 2 ^ k) (hk : 0 < k) : n.log2 < k := PySem.Flt.log2_lt_of hk h
theorem cr_lcm : CallR X (.builtin "math.lcm") rLcm := by
  intro pins s σ H vs us Q I r h
  obtain ⟨a, b, rfl, ha, hb, q⟩ := h
  obtain ⟨t, u, rfl⟩ := Vals.int2 r
  have e : (((Nat.lcm 1 a.natAbs).lcm b.natAbs : Nat) : Int) = lI a b := by rw [Nat.lcm_one_left]; rfl
  have h1 : (max 1 a.natAbs).log2 < 9000 := log_lt (Nat.max_lt.mpr ⟨Nat.one_lt_two_pow (by decide), ha⟩) (by decide)
  have h2 : (max a.natAbs b.natAbs).log2 < 9000 := log_lt (Nat.max_lt.mpr ⟨ha, hb⟩) (by decide)
  have hsz : ((((Nat.lcm 1 a.natAbs).lcm b.natAbs : Nat) : Int)).natAbs.log2 < bitsLine := by
    rw [e]
    have z : (lI a b).natAbs < 2 ^ (9000 + 9000) := by
      show Nat.lcm a.natAbs b.natAbs < _
      by_cases h0 : a.natAbs * b.natAbs = 0
      · have : Nat.lcm a.natAbs b.natAbs = 0 := by
          rcases Nat.mul_eq_zero.mp h0 with z | z
          · rw [z, Nat.lcm_zero_left]
          · rw [z, Nat.lcm_zero_right]
        rw [this]
        exact Nat.two_pow_pos _
      · refine Nat.lt_of_le_of_lt (Nat.le_of_dvd (Nat.pos_of_ne_zero h0) (Nat.lcm_dvd_mul _ _)) ?_
        rw [Nat.pow_add]
        exact Nat.mul_lt_mul'' ha hb
    exact Nat.lt_trans (log_lt z (by decide)) (by decide)
  refine PySem.call_function_meets PySem.W.MGF.kind_lcm PySem.W.MGF.plain_lcm PySem.W.MGF.entry_lcm (PySem.W.MGF.args_lcm _ _) (PySem.W.mg_run_lcm a t b u (by omega) (by omega) hsz).meets ?_
  exact ⟨.int _, H, I.tok _, ⟨_, by rw [e]⟩, q⟩
/-! ### // by a divisor of either sign -/
def CDivS (_ j : Int) : Prop := j ≠ 0 ∧ j.natAbs.log2 < 9000
theorem op_fdivS : OpR X (binaryOp .FloorDiv) (rI CDivS fun i j => .int (i.fdiv j)) := opI fun i j _ _ _ _ _ hc q => floordiv_int hc.1 q (.inl (PyProof.noPylong_of_log2 hc.2))

/-! ### max, min of a tuple of ints: one of them -/
theorem dp_ints {K : PySem.W.Frag} {H : Hp} : ∀ ns : List Int, DpAll K H (ns.map V.int) (ns.map PyData.int)
  | [] => .nil
  | n :: ns => .cons (.int n) (dp_ints ns)
theorem alike_ints (ns : List Int) : PySem.W.AlikeAll (ns.map PyData.int) := by
  refine ⟨fun x hx y hy => ?_, fun x hx => ?_⟩
  · obtain ⟨a, _, rfl⟩ := List.mem_map.mp hx
    obtain ⟨b, _, rfl⟩ := List.mem_map.mp hy
    first
      | rfl
      | simp [PySem.W.alike]
  · obtain ⟨a, _, rfl⟩ := List.mem_map.mp hx
    exact fun z => nomatch z
theorem depth_ints : ∀ ns : List Int, PyData.depthAll (ns.map PyData.int) = 0
  | [] => by first | rfl | simp [PyData.depthAll]
  | n :: ns => by
    have ih := depth_ints ns
    rw [List.map_cons]
    simp only [PyData.depthAll, PyData.depth, ih]
    exact Nat.max_self 0
def rMemT (K : PySem.W.Frag) : List V → Hp → VK → Prop := fun vs H Q => ∃ (a : Addr) (n : Int) (ns : List Int), vs = [V.ref a] ∧ SqT K H a ((n :: ns).map V.int) ∧ ∀ m ∈ n :: ns, Q (.int m) H
theorem memT_of {pins : List (Addr × Obj)} {σ : L2.St} {H : Hp} {s : Shared} {Q : VK} {n : Int} {ns : List Int} {its : List Value} (I : Inv X pins σ H s) (rv : Vals ((n :: ns).map V.int) its) (q : ∀ m ∈ n :: ns, Q (.int m) H) {i : Nat} {v : Value} {h' : Heap} {tk : Nat}
    (hi : its.toArray[i]? = some v) (k : ∀ b o, s.heap.get? b = some o → h'.get? b = some o) : EP X pins σ Q v { s with heap := h', toks := tk } := by
  have hi' : its[i]? = some v := by simpa using hi
  have hl : i < ((n :: ns).map V.int).length := by
    rw [rv.length]
    exact (List.getElem?_eq_some_iff.mp hi').1
  obtain ⟨u, hu, ru⟩ := rv.get (List.getElem?_eq_getElem hl)
  rw [hi'] at hu
  rw [List.getElem_map] at ru
  obtain ⟨t, e⟩ := (Option.some.inj hu) ▸ ru
  exact ⟨.int _, H, I.kept k, ⟨t, e⟩, q _ (List.getElem_mem _)⟩
theorem cr_maxT (hc : X.calm = true) (hu : X.A.units + 1 < cLine) : CallR X (.builtin "max") (rMemT X.K) := by
  intro pins s σ H vs us Q I r h
  obtain ⟨a, n, ns, rfl, hs, q⟩ := h
  obtain ⟨its, rv, ht, _⟩ := I.tuple hs
  rw [Vals.ref1 r]
  obtain ⟨as, hr⟩ := Dp.readsAll I _ _ its (dp_ints (K := X.K) (H := H) (n :: ns)) rv
  refine PySem.W.max_tuple_data (x := .int n) (xs := ns.map PyData.int) (as := as) (I.ok.hd hc) (show s.heap.IsTuple a its.toArray from ht) (by simpa using hr) (alike_ints (n :: ns)) (by rw [show PyData.int n :: ns.map PyData.int = (n :: ns).map PyData.int from rfl, depth_ints]; exact hu) fun i v h' tk bs hi _ k => ?_
  exact memT_of I rv q hi k
theorem cr_minT (hc : X.calm = true) (hu : X.A.units + 1 < cLine) : CallR X (.builtin "min") (rMemT X.K) := by
  intro pins s σ H vs us Q I r h
  obtain ⟨a, n, ns, rfl, hs, q⟩ := h
  obtain ⟨its, rv, ht, _⟩ := I.tuple hs
  rw [Vals.ref1 r]
  obtain ⟨as, hr⟩ := Dp.readsAll I _ _ its (dp_ints (K := X.K) (H := H) (n :: ns)) rv
  refine PySem.W.min_tuple_data (x := .int n) (xs := ns.map PyData.int) (as := as) (I.ok.hd hc) (show s.heap.IsTuple a its.toArray from ht) (by simpa using hr) (alike_ints (n :: ns)) (by rw [show PyData.int n :: ns.map PyData.int = (n :: ns).map PyData.int from rfl, depth_ints]; exact hu) fun i v h' tk bs hi _ k => ?_
  exact memT_of I rv q hi k
/-! ### an own == against anything -/
def rOwnEq (K : PySem.W.Frag) (C : Addr) (sp : Sp) : R2 := fun x y H Q => ∃ (a dx : Addr) (fs : List (Str × V)) (t : Value), x = .ref a ∧ H a = some (.ins C dx fs) ∧ TyX K H y t ∧ PySem.W.notFirst K C t = true ∧ sp [x, y] H (fun v H' => (∃ b, v = .bl b) ∧ Q v H') fun _ _ _ => False
theorem op_ownEq {CX : CXT} {C f : Addr} {fd : FuncData} {ps : List Str} {n : Nat} {sp : Sp} (F : FnOk X.prog X.w X.K X.mg X.base CX n f fd ps sp) (hr : Room n X.A)
    (hs : PySem.W.findIn X.K (.ref C) "__eq__" = some (some (.ref f))) (hf : PySem.W.isFn X.K (.ref f) = true) (hb : Binds X.K fd ps []) (hx : Passes CX X E0) : OpR X (compareOp .Eq) (rOwnEq X.K C sp) := by
  intro pins s σ H x y v u Q I rx ry h
  obtain ⟨a, dx, fs, t, rfl, ha, ty, hn, hsp⟩ := h
  show wpAny (model X.prog X.w) X.A (richCompare .Eq v u) (EP X pins σ Q) X.xe s
  obtain rfl : v = Value.ref a := rx
  obtain ⟨mA, J, _⟩ := ins_get I.hok ha
  obtain ⟨od, J, _⟩ := J.look
  obtain ⟨m, hF⟩ := I.fr
  obtain ⟨P, Z, p, _⟩ := kit_of I ry ty
  refine PySem.W.cmp_K (op := .Eq) (tb := t) hr.units0 hF I.ok.mod.kin J (Z.ty _ _ I.kIn p) hn hs hf ?_
  have r2 : Vals [V.ref a, y] [Value.ref a, u] := .cons rfl (.cons ry .nil)
  refine thn (run_fn F hr hb .nil hx I r2 hsp) fun z s1 hz => ?_
  obtain ⟨w, H1, I1, rw', ⟨b, eb⟩, q⟩ := hz
  subst eb
  obtain rfl : z = Value.bool b := rw'
  exact ⟨.bl b, H1, I1, rfl, q⟩
/-! ### an own exception class without __init__, made of nothing -/
theorem pmk_own0 {x : Str} {C : Addr} {bmB : List Value} {B newId initId : String} {p pos : Pos} (F : ExcBaseFacts B newId initId bmB) (q : PySem.W.excIn X.K C bmB newId = true) (gC : X.mg x = some (.ref C)) (kC : PySem.W.keepIn X.K (.ref C) = true)
    (r : Raises X (.ref C)) (hg : Gl X x) (hdb : (x == ("__debug__" : Str)) = false := by decide) : PMk X (.Call (.Name x p) [] [] pos) (fun _ H Q => Q (.ref C) none H) := by
  intro pins s σ H Q I h
  refine wpAny_Call_Name_kw (ld_glob I hg gC ?_ hdb)
  refine PySem.W.callWith_K0 I.kIn kC ?_
  obtain ⟨bm, N, nm, qn, bs, hdct, sn, sub, ab, col, dd, k0, k1, k2, k3, k5, mN, hC, hN, hni, T⟩ := exc_obj I.kIn q
  obtain ⟨hp, g, d, tk, os⟩ := s
  show wpAny _ _ (call (.ref C) []) _ _ _
  exact wpAny_call_exc_subT F T hC hN hni (fun h' e hm => mk_of I hm r h (I.hok.gone hm.new)) (Nat.zero_le _)

/-! ### enumerate(tuple) -/
def IteT (K : PySem.W.Frag) (a : Addr) (n : Nat) : It :=
  ⟨fun i H => i < n ∧ ∃ xs : List V, SqT K H a xs ∧ xs.length = n, fun i H v H' => ∃ T x, v = .ref T ∧ H T = none ∧ H' = upd H T (.tup [.int (i : Nat), x]) ∧ ∀ xs, SqT K H a xs → xs[i]? = some x,
    fun i H => i = n ∧ ∃ xs : List V, SqT K H a xs ∧ xs.length = n⟩
theorem turn_enumT {P : Program} {w : World} {K : PySem.W.Frag} {elts : List Expr} {kk : Nat} {tpos : Pos} (a e it : Addr) (items : Array Value) :
    Turn P w K (.Tuple elts kk tpos) (IteT K a items.size) [e, it] e (fun i h => (∃ old, IsEnum h e it ((i : Nat) : Int) old) ∧ h.IsTupleIter it a i ∧ e ≠ it ∧ a ≠ it ∧ a ≠ e) where
  mem := List.mem_cons_self
  obj := fun i h st b hb => by
    obtain ⟨⟨old, he⟩, ⟨o, ho, hc, hd⟩, _⟩ := st
    rcases List.mem_cons.mp hb with rfl | hb
    · exact ⟨_, he, fun v q => nomatch q⟩
    · rcases List.mem_cons.mp hb with rfl | hb
      · exact ⟨o, ho, fun v q => by rw [hd] at q; cases q⟩
      · cases hb
  keep := fun i h h' st k => by
    obtain ⟨⟨old, he⟩, ⟨o, ho, hr⟩, hne⟩ := st
    exact ⟨⟨old, k e List.mem_cons_self _ he⟩, ⟨o, k it (List.mem_cons_of_mem _ List.mem_cons_self) o ho, hr⟩, hne⟩
  item := by
    intro X hP hw hK hc i pins s σ H E I hf st hg
    subst hP hw hK
    obtain ⟨⟨old, he⟩, hit, hne, ha1, ha2⟩ := st
    obtain ⟨hi, xs, hq, hl⟩ := hg
    obtain ⟨its, rv, ht, hz⟩ := I.tuple hq
    have hsz : its.toArray.size = items.size := by rw [List.size_toArray, ← rv.length, hl]
    have hel : e < s.heap.objs.size := Heap.lt_size he
    have hil : it < s.heap.objs.size := by obtain ⟨_, q, _⟩ := hit; exact Heap.lt_size q
    refine wpAny_pyNext_enum_itemD (Draws.tuple (A := X.A.in1) (I.ok.hd hc) it a ha1 its.toArray) he ⟨hit, (show s.heap.IsTuple a its.toArray from ht)⟩ (by rw [hsz]; exact hi) hne (by
      intro z
      rcases List.mem_cons.mp z with z | z
      · exact hne z
      · rcases List.mem_cons.mp z with z | z
        · exact ha2 z.symm
        · cases z) fun u h' tk hu ho hit' hT hsz' hk => ?_
    have hu' : its[i]? = some u := by simpa using hu
    have hxi : i < xs.length := by rw [hl]; exact hi
    obtain ⟨u2, hu2, ru⟩ := rv.get (List.getElem?_eq_getElem hxi)
    rw [hu'] at hu2
    cases hu2
    refine ⟨_, rfl, wpAny_letOwnedTupleGo_enum (s := { s with heap := h', toks := tk + 1 }) ho fun h'' he' sb => ?_⟩
    have hT2 : h''.get? s.heap.objs.size = some { cls := .type "tuple", data := .seq #[.int i tk, u] } := (sb.2 _ (Nat.ne_of_gt hel)).trans hT
    have new : ObjOk X.prog X.w (upd H s.heap.objs.size (.tup [.int (i : Nat), xs[i]])) h'' s.heap.objs.size (.tup [.int (i : Nat), xs[i]]) :=
      ⟨by show 2 ≤ sizeLine; decide, [.int i tk, u], .cons ⟨_, rfl⟩ (.cons ru .nil), ⟨_, hT2, rfl, _, rfl⟩⟩
    have mem : ∀ b : Addr, b ∉ [e, it] → b ≠ e ∧ b ≠ it := fun b hb => ⟨fun z => hb (by rw [z]; exact List.mem_cons_self), fun z => hb (by rw [z]; exact List.mem_cons_of_mem _ List.mem_cons_self)⟩
    have I1 : Inv X pins σ (upd H s.heap.objs.size (.tup [.int (i : Nat), xs[i]])) { s with heap := h'', toks := tk + 1 } :=
      I.turnedNew (ch := [e, it]) (fun b ob hb q => (sb.2 b (mem b hb).1).trans (hk b ob (mem b hb).1 (mem b hb).2 q)) hf (Nat.le_refl _) new
    refine ⟨.ref s.heap.objs.size, _, I1, rfl, ⟨_, xs[i], rfl, I.hok.fresh (Nat.le_refl _), rfl, fun ys hy => by rw [I.tuple_inj hy hq]; exact List.getElem?_eq_getElem hxi⟩, ⟨⟨u, ?_⟩, ?_, hne, ha1, ha2⟩, fun b hb => ?_⟩
    · rw [show ((i + 1 : Nat) : Int) = (i : Int) + 1 by omega]
      exact he'
    · obtain ⟨o, q1, q2⟩ := hit'.1
      exact ⟨o, (sb.2 it (Ne.symm hne)).trans q1, q2⟩
    · have hb' : b < s.heap.objs.size := by
        rcases List.mem_cons.mp hb with rfl | hb
        · exact hel
        · rcases List.mem_cons.mp hb with rfl | hb
          · exact hil
          · cases hb
      rw [upd_ne (Nat.ne_of_lt hb')]
      exact (hf b hb).1
  done := by
    intro X hP hw hK hc i pins s σ H E I hf st hg
    subst hP hw hK
    obtain ⟨⟨old, he⟩, hit, hne, ha1, ha2⟩ := st
    obtain ⟨rfl, xs, hq, hl⟩ := hg
    obtain ⟨its, rv, ht, hz⟩ := I.tuple hq
    have hsz : its.toArray.size = items.size := by rw [List.size_toArray, ← rv.length, hl]
    obtain ⟨f0, f1, f2, f3, f4, f5⟩ := hf it (List.mem_cons_of_mem _ List.mem_cons_self)
    exact wpAny_pyNext_enum_endD (Draws.tuple (A := X.A.in1) (I.ok.hd hc) it a ha1 its.toArray) he ⟨by rw [hsz]; exact hit, (show s.heap.IsTuple a its.toArray from ht)⟩ fun h' eb => ⟨rfl, I.turned (t' := s.toks) (fun b o hb q => eb b o hb q) f0 f1 f3 f4 f5⟩
  self := fun A i s Q E st h => let ⟨⟨_, he⟩, _⟩ := st; wpAny_pyIter_enum he h
def iEnumT (K : PySem.W.Frag) (ta : TA) : TI := fun σ H R => ta σ H fun vs H1 => ∃ a xs, vs = [.ref a] ∧ SqT K H1 a xs ∧ R (IteT K a xs.length) H1
theorem pi_enumT {e : Expr} {ta : TA} {p pos tpos : Pos} {elts : List Expr} {kk : Nat} (hg : Gl X "enumerate") (hm : X.mg "enumerate" = none) (ha : PA X [e] ta) (hs : starEach [e] X.env = [(false, eval e X.env)] := by rfl) :
    PI X (.Tuple elts kk tpos) (.Call (.Name "enumerate" p) [e] [] pos) (iEnumT X.K ta) := by
  refine ⟨fun pins s σ H R I h => ?_⟩
  refine Call_ (ld_blt I hg hm boot_enumerate (PyProof.Rows.callWith_type1 (thn (ha.run pos pins s σ H _ I h) fun us s1 ⟨vs, H1, I1, r1, q1⟩ => ?_) hs rfl))
  obtain ⟨a, xs, ex, hq, q⟩ := q1
  subst ex
  rw [Vals.ref1 r1]
  obtain ⟨its, rv, ht, hz⟩ := I1.tuple hq
  have hat : a < s1.heap.objs.size := by obtain ⟨o, ho, _⟩ := ht; exact Heap.lt_size ho
  have hsz : its.toArray.size = xs.length := by rw [List.size_toArray, ← rv.length]
  refine K06E.call_enumT (show s1.heap.IsTuple a its.toArray from ht) fun h' he hit hk => wpAny_pyIter_enum he ?_
  have I2 : Inv X pins σ H1 { s1 with heap := h' } := I1.kept (t' := s1.toks) hk
  have T := turn_enumT (P := X.prog) (w := X.w) (K := X.K) (elts := elts) (kk := kk) (tpos := tpos) a (s1.heap.objs.size + 1) s1.heap.objs.size its.toArray
  rw [hsz] at T
  refine ⟨s1.heap.objs.size + 1, [s1.heap.objs.size + 1, s1.heap.objs.size], _, _, H1, rfl, I2, T, ⟨⟨.none, he⟩, hit, Nat.succ_ne_self _, Nat.ne_of_lt hat, Nat.ne_of_lt (Nat.lt_succ_of_lt hat)⟩, fun b hb => ?_, q⟩
  have hle : s1.heap.objs.size ≤ b := by
    rcases List.mem_cons.mp hb with rfl | hb
    · exact Nat.le_succ _
    · rcases List.mem_cons.mp hb with rfl | hb
      · exact Nat.le_refl _
      · cases hb
  exact I1.fpOk hle (I1.hok.fresh hle)
theorem walk_enumT {K : PySem.W.Frag} {a : Addr} {xs : List V} : Walk (IteT K a xs.length) xs.length (fun H => SqT K H a xs) (YPair (fun i => some (.int (i : Nat))) (fun i => xs[i]?)) := by
  refine ⟨fun i _ hi q => ⟨hi, xs, q, rfl⟩, fun _ q => ⟨rfl, xs, q, rfl⟩, fun i H v H' _ q y => ?_⟩
  obtain ⟨T, x, h1, h2, h3, h4⟩ := y
  exact ⟨T, .int (i : Nat), x, h1, h2, h3, rfl, h4 xs q⟩

/-! ### try: body / except X as n: suite / except Y: suite -/
abbrev offSlot (i : Nat) (D : Ends) : Ends := { nx := fun σ' H' => D.nx (σ'.set i none) H', rt := D.rt, bk := fun σ' H' => D.bk (σ'.set i none) H', ct := fun σ' H' => D.ct (σ'.set i none) H' }
def w2c (K : PySem.W.Frag) (c : Value) (i : Nat) (ts : Addr → Value → Option Addr → TS) (c2 : Value) (ts2 : Addr → Value → Option Addr → TS) (D : Ends) : WX := fun cls d σ H =>
  (PySem.W.exmOne K cls c = some true ∧ ∀ a, H a = none → ts a cls d (offSlot i D) (σ.set i (some (.ref a))) H) ∨
  (PySem.W.exmOne K cls c = some false ∧ PySem.W.exmOne K cls c2 = some true ∧ ∀ a, H a = none → ts2 a cls d D σ H)
theorem ps_try2 {x x2 n : Str} {c c2 : Value} {i : Nat} {body suite suite2 : List Stmt} {b₀ b₁ : Stmt} {np np2 pos pos' pos2 : Pos} {tb : WX → TS} {ts ts2 : Addr → Value → Option Addr → TS}
    (hs : X.stack = X.env :: X.outer) (hf : X.env.frame = some X.env.locals) (hN : X.N.Nodup) (hi : X.N[i]? = some n) (hln : X.env.kindOf n = some .local) (hc : Names X x c) (hc2 : Names X x2 c2)
    (hb : ∀ (W : WX) (pn : List (Addr × Obj)) (xe : Value → Shared → Prop), Takes (X.tr pn xe) W → PassesOwn (model X.prog X.w) X.A X.env xe → PSs (X.tr pn xe) body (tb W))
    (hsu : ∀ (a : Addr) (oe : Obj) (cls : Value) (d : Option Addr) (pn : List (Addr × Obj)), Zc cls d oe → (∃ vs, oe.data = .fields vs) → PSs (X.suite a ((a, oe) :: pn)) (b₀ :: suite) (ts a cls d))
    (hsu2 : ∀ (a : Addr) (oe : Obj) (cls : Value) (d : Option Addr) (pn : List (Addr × Obj)), Zc cls d oe → (∃ vs, oe.data = .fields vs) → PSs (X.suite a ((a, oe) :: pn)) (b₁ :: suite2) (ts2 a cls d)) :
    PS X (.Try body [.ExceptHandler (some (.Name x np)) (some n) (b₀ :: suite) pos', .ExceptHandler (some (.Name x2 np2)) none (b₁ :: suite2) pos2] [] [] pos) (fun D σ H => tb (w2c X.K c i ts c2 ts2 D) D σ H) := by
  refine ⟨fun pins s σ H D I h => ?_⟩
  have ok := I.ok
  have hfr : X.A.frames = some (X.env :: X.outer) := by rw [ok.frames, hs]
  refine wpAny_Try_except (wpAny_mono ((hb (w2c X.K c i ts c2 ts2 D) (X.pn ++ pins) (fun e s₁ => wpAny (model X.prog X.w) X.A (noteFrame e X.env) (fun _ s₂ => wpAny (model X.prog X.w) X.A (setFlight e none) (fun _ s₃ =>
    wpAny (model X.prog X.w) X.A (handleBy e X.env [.ExceptHandler (some (.Name x np)) (some n) (b₀ :: suite) pos', .ExceptHandler (some (.Name x2 np2)) none (b₁ :: suite2) pos2]) (SP X pins D) X.xe s₃) X.xe s₂) X.xe s₁) (fun u s' xx => ?_) PassesOwn.looking).run [] s σ H D (I.toTry _) h) (fun f s1 hsp => ?_) (fun e s1 he => he))
  rotate_left
  · cases f with
    | next =>
      obtain ⟨σ', H', J', q⟩ := hsp
      exact wpAny_execs_nil ⟨σ', H', J'.ofTry ok, q⟩
    | brk =>
      obtain ⟨σ', H', J', q⟩ := hsp
      exact ⟨σ', H', J'.ofTry ok, q⟩
    | cont =>
      obtain ⟨σ', H', J', q⟩ := hsp
      exact ⟨σ', H', J'.ofTry ok, q⟩
    | ret u =>
      obtain ⟨v, σ', H', J', r, q⟩ := hsp
      exact ⟨v, σ', H', J'.ofTry ok, r, q⟩
  obtain ⟨a, B, sI, pins', σ', H', cls, d, rfl, J', nb, up, sky, na, os, ag, w⟩ := xx
  have J : Inv X pins σ' H' sI := J'.ofTry ok
  have sky' : Sky B (X.env :: X.outer) a (Zc cls d) X.env.locals s'.heap := by rw [← hs]; exact sky
  show wpAny (model X.prog X.w) X.A (noteFrame (.ref a) X.env) _ _ _
  refine Sky.land Zc.steady hfr hf sky' fun h3 fl3 up3 => ?_
  have J3 : Inv X pins σ' H' { s' with heap := h3 } := J.landed nb fl3.1 (up.trans up3) os ag
  obtain ⟨oe3, vs3, he3, hz3, hd3⟩ := fl3.there
  have nfr : a ∉ frs (X.env :: X.outer) := fun hm => by
    obtain ⟨_, o', e', hnf⟩ := fl3.2.2.1.mem hm
    rw [he3] at e'
    cases e'
    exact hnf _ hd3
  have nL : a ≠ X.env.locals := fun z => nfr (List.mem_filterMap.mpr ⟨X.env, List.mem_cons_self, by rw [hf, z]⟩)
  have nF : a ∉ X.fs := fun hm => by
    obtain ⟨e, he, q⟩ := List.mem_filterMap.mp hm
    exact nfr (List.mem_filterMap.mpr ⟨e, List.mem_cons_of_mem _ he, q⟩)
  have S3 := J3.suite he3 hd3 na nL nF
  have LT : PySem.W.Looks (model X.prog X.w) h3 (typeOf (.ref a)) cls := fun A Q E s k q => wpAny_typeOf_ref (k _ _ he3) (by rw [hz3.1]; exact q)
  have named : ∀ {y : Str} {v : Value} {yp : Pos} {Q : Value → Shared → Prop} {E : Value → Shared → Prop}, Names X y v → Q v { s' with heap := h3 } → wpAny (model X.prog X.w) (X.A.mark (some (.ref a))) (eval (.Name y yp) X.env) Q E { s' with heap := h3 } := fun {y v yp Q E} hy q => by
    obtain ⟨hg, hdbg, hm | ⟨hm, hv, hnn⟩⟩ := hy
    · exact ld_glob (X := X.suite a ((a, oe3) :: (X.pn ++ pins))) S3 hg hm q hdbg
    · exact ld_blt (X := X.suite a ((a, oe3) :: (X.pn ++ pins))) S3 hg hm hv q hnn hdbg
  refine wpAny_handleBy_cons (codeAny_handlers_test ?_) (by intro q; cases q)
  rcases w with ⟨hb1, hyes⟩ | ⟨hb1, hb2, hyes⟩
  · refine named hc ((PySem.W.exm_one (M := model X.prog X.w) J3.kIn LT hb1).here ?_)
    have hloc : Loc X.env.scope n := .inl hln
    refine codeAny_handlers_suite_as (HandSPX.lands_againZ fl3 fun h4 fl4 up4 => ?_)
    have J4 : Inv X pins σ' H' { s' with heap := h4 } := J.landed nb fl4.1 ((up.trans up3).trans up4) os ag
    obtain ⟨oe4, vs4, he4, hz4, hd4⟩ := fl4.there
    have S4 := J4.suite he4 hd4 na nL nF
    refine store_ok (X := X.suite a ((a, oe4) :: (X.pn ++ pins))) (v := .ref a) S4 hN hi hloc rfl (fun s5 S5 => ?_) (.inr hln)
    refine wpAny_mono ((hsu a oe4 cls d (X.pn ++ pins) hz4 ⟨_, hd4⟩).run [] s5 _ H' _ S5 (hyes a na)) (fun f s6 hsp => ?_) (fun _ _ z => z.elim)
    have goes : ∀ {σ6 : L2.St} {H6 : Hp} {Q : Shared → Prop}, Inv (X.suite a ((a, oe4) :: (X.pn ++ pins))) [] σ6 H6 s6 → (∀ s7, Inv X pins (σ6.set i none) H6 s7 → Q s7) →
        wpAny (model X.prog X.w) X.A (do bindName X.env n .none; unbindBehindTheSuite X.env n pos') (fun _ s7 => Q s7) X.xe s6 := fun S6 hq => gone_ok (S6.unsuite ok) hN hi hln hq
    cases f with
    | next =>
      obtain ⟨σ6, H6, S6, q6⟩ := hsp
      exact goes S6 fun s7 J7 => ⟨_, _, J7, q6⟩
    | brk =>
      obtain ⟨σ6, H6, S6, q6⟩ := hsp
      exact goes S6 fun s7 J7 => ⟨_, _, J7, q6⟩
    | cont =>
      obtain ⟨σ6, H6, S6, q6⟩ := hsp
      exact goes S6 fun s7 J7 => ⟨_, _, J7, q6⟩
    | ret u =>
      obtain ⟨v6, σ6, H6, S6, r6, q6⟩ := hsp
      exact goes S6 fun s7 J7 => ⟨_, _, _, J7, r6, q6⟩
  · refine named hc ((PySem.W.exm_one (M := model X.prog X.w) J3.kIn LT hb1).here ?_)
    show wpAny _ X.A (handleBy (.ref a) X.env [.ExceptHandler (some (.Name x2 np2)) none (b₁ :: suite2) pos2]) _ _ _
    refine wpAny_handleBy_cons (codeAny_handlers_test ?_) (by intro q; cases q)
    refine named hc2 ((PySem.W.exm_one (M := model X.prog X.w) J3.kIn LT hb2).here ?_)
    refine codeAny_handlers_suite (HandSPX.lands_againZ fl3 fun h4 fl4 up4 => ?_)
    have J4 : Inv X pins σ' H' { s' with heap := h4 } := J.landed nb fl4.1 ((up.trans up3).trans up4) os ag
    obtain ⟨oe4, vs4, he4, hz4, hd4⟩ := fl4.there
    have S4 := J4.suite he4 hd4 na nL nF
    refine wpAny_mono ((hsu2 a oe4 cls d (X.pn ++ pins) hz4 ⟨_, hd4⟩).run [] _ _ H' _ S4 (hyes a na)) (fun f s6 hsp => ?_) (fun _ _ z => z.elim)
    cases f with
    | next =>
      obtain ⟨σ6, H6, S6, q6⟩ := hsp
      exact ⟨_, _, S6.unsuite ok, q6⟩
    | brk =>
      obtain ⟨σ6, H6, S6, q6⟩ := hsp
      exact ⟨_, _, S6.unsuite ok, q6⟩
    | cont =>
      obtain ⟨σ6, H6, S6, q6⟩ := hsp
      exact ⟨_, _, S6.unsuite ok, q6⟩
    | ret u =>
      obtain ⟨v6, σ6, H6, S6, r6, q6⟩ := hsp
      exact ⟨_, _, _, S6.unsuite ok, r6, q6⟩
end
end K06


set_option Elab.async false
set_option linter.all false
set_option maxRecDepth 100000
set_option maxHeartbeats 2000000
/-! K06V: values told, heaps that grow, comprehensions that map, defs by name. -/
namespace K06
open PySem PySem.Spec PyProof.Rows L2

/-! ### the text by places -/
def top (i : Nat) : Stmt := PySem.Challenge.pw_untoldgaps_k06_whole_rows_of_kin.main.body.getD i (.Pass ⟨0, 0, 0, 0⟩)

/-! ### heaps -/
def Imm : HO → Prop
  | .lst _ => False
  | _ => True
/-- what is no list stands -/
def ExtI (H H' : Hp) : Prop := ∀ b o, Imm o → H b = some o → H' b = some o
theorem Ext.imm {H H' : Hp} (e : Ext H H') : ExtI H H' := fun b o _ h => e b o h
theorem ExtI.refl {H : Hp} : ExtI H H := fun _ _ _ h => h
theorem ExtI.trans {H H1 H2 : Hp} (a : ExtI H H1) (b : ExtI H1 H2) : ExtI H H2 := fun c o i h => b c o i (a c o i h)
theorem ExtI.lst {H : Hp} {p : Addr} {xs ys : List V} (h : H p = some (.lst xs)) : ExtI H (upd H p (.lst ys)) := fun b o i e => by
  have : b ≠ p := fun z => by
    rw [z, h] at e
    cases e
    exact i.elim
  rw [upd_ne this]
  exact e
/-- all but the object at h stands -/
def But (h : Addr) (H H' : Hp) : Prop := ∀ b o, b ≠ h → H b = some o → H' b = some o
theorem Ext.but {h : Addr} {H H' : Hp} (e : Ext H H') : But h H H' := fun b o _ q => e b o q
theorem But.refl {h : Addr} {H : Hp} : But h H H := fun _ _ _ q => q
theorem But.trans {h : Addr} {H H1 H2 : Hp} (a : But h H H1) (b : But h H1 H2) : But h H H2 := fun c o n q => b c o n (a c o n q)
theorem Ext.refl (H : Hp) : Ext H H := fun _ _ h => h
theorem ext_new {H : Hp} {p : Addr} {o : HO} (h : H p = none) : Ext H (upd H p o) := Ext.upd h
theorem free_of {H H' : Hp} {b : Addr} (e : Ext H H') (h : H' b = none) : H b = none := by
  cases q : H b with
  | none => rfl
  | some o =>
    rw [e b o q] at h
    cases h

/-! ### ratios -/
section
variable {K : PySem.W.Frag} {H H' : Hp} {v : V} {q : Rat} {qs : List Rat} {xs : List V}
theorem sqT_imm {a : Addr} (h : SqT K H a xs) (e : ExtI H H') : SqT K H' a xs :=
  h.elim (fun h => .inl (h.elim (fun h => .inl (e _ _ True.intro h)) fun ⟨o, h⟩ => .inr ⟨o, e _ _ True.intro h⟩)) fun h => .inr h
/-- the items of a ratio's tuple -/
def RtP (q : Rat) : List V := [.int q.num, .int (q.den : Int)]
/-- a told ratio -/
def Rt (K : PySem.W.Frag) (H : Hp) (v : V) (q : Rat) : Prop := ∃ p, v = .ref p ∧ SqT K H p (RtP q)
theorem Rt.mono (h : Rt K H v q) (e : ExtI H H') : Rt K H' v q := by
  obtain ⟨p, rfl, h⟩ := h
  exact ⟨p, rfl, sqT_imm h e⟩
/-- a ratio as it may be passed -/
def RtI (K : PySem.W.Frag) (H : Hp) (v : V) (q : Rat) : Prop := Rt K H v q ∨ ∃ n : Int, v = .int n ∧ q = (n : Rat)
theorem RtI.mono (h : RtI K H v q) (e : ExtI H H') : RtI K H' v q := h.imp (fun h => h.mono e) id
theorem RtI.of (h : Rt K H v q) : RtI K H v q := .inl h
theorem RtI.int (n : Int) : RtI K H (.int n) (n : Rat) := .inr ⟨n, rfl, rfl⟩
/-- a row of told ratios -/
abbrev Rts (K : PySem.W.Frag) (H : Hp) : List V → List Rat → Prop := Paired fun x q => Rt K H x q
abbrev RtsI (K : PySem.W.Frag) (H : Hp) : List V → List Rat → Prop := Paired fun x q => RtI K H x q
theorem Rts.mono (h : Rts K H xs qs) (e : ExtI H H') : Rts K H' xs qs := Paired.mapP h fun _ _ r => Rt.mono r e
theorem RtsI.mono (h : RtsI K H xs qs) (e : ExtI H H') : RtsI K H' xs qs := Paired.mapP h fun _ _ r => RtI.mono r e
theorem RtsI.of (h : Rts K H xs qs) : RtsI K H xs qs := Paired.mapP h fun _ _ r => .inl r
theorem rtsI_ints : ∀ ns : List Int, RtsI K H (ns.map V.int) (castL ns)
  | [] => .nil
  | n :: ns => .cons (RtI.int n) (rtsI_ints ns)
theorem paired_at {α β : Type} {G : α → β → Prop} : ∀ {l : List α} {m : List β}, Paired G l m → ∀ {i : Nat} {a : α}, l[i]? = some a → ∃ b, m[i]? = some b ∧ G a b
  | _, _, .nil, _, _, e => by simp at e
  | _, _, .cons r _, 0, _, e => by simp at e; subst e; exact ⟨_, rfl, r⟩
  | _, _, .cons _ t, i + 1, _, e => by
    obtain ⟨b, h1, h2⟩ := paired_at t (i := i) (by simpa using e)
    exact ⟨b, by simpa using h1, h2⟩
theorem paired_by {α β : Type} {G : α → β → Prop} : ∀ {l : List α} {m : List β}, l.length = m.length → (∀ (i : Nat) (a : α) (b : β), l[i]? = some a → m[i]? = some b → G a b) → Paired G l m
  | [], [], _, _ => .nil
  | [], _ :: _, h, _ => by simp at h
  | _ :: _, [], h, _ => by simp at h
  | a :: l, b :: m, h, f => .cons (f 0 a b rfl rfl) (paired_by (by simpa using h) fun i x y h1 h2 => f (i + 1) x y (by simpa using h1) (by simpa using h2))
theorem Paired.len {α β : Type} {G : α → β → Prop} : ∀ {l : List α} {m : List β}, Paired G l m → l.length = m.length
  | _, _, .nil => rfl
  | _, _, .cons _ t => by rw [List.length_cons, List.length_cons, Paired.len t]

end
/-- behind it v stands, of which R holds -/
def gives (R : Hp → V → Prop) : Hp → VK → Prop := fun H Q => ∀ H' v, Ext H H' → R H' v → Q v H'

/-! ### a def by its name -/
structure Def (P : Program) (w : World) (K : PySem.W.Frag) (mg : Str → Option Value) (base : Heap) (CX : CXT) (k : Nat) (x : Str) (ps : List Str) (sp : Sp) : Prop where
  ex : ∃ f fd, FnOk P w K mg base CX k f fd ps sp ∧ mg x = some (.ref f) ∧ PySem.W.keepIn K (.ref f) = true ∧ Binds K fd ps []
section
variable {X : Cx} {CX : CXT} {k : Nat} {x : Str} {ps : List Str} {sp : Sp} {E : XK} {p pos : Pos} {e : Expr} {es : List Expr} {t : TA}
theorem pe_fnE (D : Def X.prog X.w X.K X.mg X.base CX k x ps sp) (hr : Room k X.A) (hx : Passes CX X E) (ha : PA X (e :: es) t) (hg : Gl X x := by rfl) (hdb : (x == ("__debug__" : Str)) = false := by decide)
    (he : starEach (e :: es) X.env = (false, eval e X.env) :: starEach es X.env := by rfl) (hpl : (backTo pos (starEach es X.env)).any (·.1) = false := by rfl) : PE X (.Call (.Name x p) (e :: es) [] pos) (tCall sp [] E t) := by
  obtain ⟨f, fd, F, m, kp, b⟩ := D.ex
  exact pe_call F hr hg m kp b .nil hx ha hdb he hpl
end
section
variable {X : Cx} {k : Nat} {x : Str} {ps : List Str} {sp : Sp} {p pos : Pos} {e : Expr} {es : List Expr} {t : TA}
/-- a def that raises nothing -/
theorem pe_fn (D : Def X.prog X.w X.K X.mg X.base CX0 k x ps sp) (hr : Room k X.A) (ha : PA X (e :: es) t) (hg : Gl X x := by rfl) (hdb : (x == ("__debug__" : Str)) = false := by decide)
    (he : starEach (e :: es) X.env = (false, eval e X.env) :: starEach es X.env := by rfl) (hpl : (backTo pos (starEach es X.env)).any (·.1) = false := by rfl) : PE X (.Call (.Name x p) (e :: es) [] pos) (tCall sp [] E0 t) := pe_fnE D hr pass0 ha hg hdb he hpl
end

/-! ### a comprehension that maps -/
theorem lc_map {J : It} {n : Nat} {G : Hp → Prop} {Y : Nat → Hp → V → Hp → Prop} (w : Walk J n G Y) {k : Nat} {te : TE} {σ : L2.St} {H1 : Hp} {D : Addr} (hD : H1 D = none) {Qd : Hp → Prop} (Xi : Nat → V → Prop) (hY : ∀ i H x H', Y i H x H' → H' = H ∧ Xi i x)
    (Rel : Nat → Hp → V → Prop) (hn : n ≤ 1000) (mono : ∀ i H H' v, ExtI H H' → Rel i H v → Rel i H' v) (hG : ∀ H, Ext H1 H → G H)
    (he : ∀ i x H Q, i < n → Xi i x → Ext H1 H → (∀ H' v, Ext H H' → Rel i H' v → Q v H') → te ((wipe σ [k]).set k (some x)) H Q)
    (hd : ∀ H acc, Ext H1 H → H D = some (.lst acc) → acc.length = n → (∀ i, i < n → ∃ v, acc[i]? = some v ∧ Rel i H v) → Qd H) :
    ∃ W : Nat → Nat → Hp → Prop, (∃ m, W 0 m (upd H1 D (.lst []))) ∧ ∀ i m H, W i m H →
      (J.stop i H ∧ Qd H) ∨ (J.go i H ∧ ∃ Nx : Hp → Prop, (∀ H', Nx H' → ∃ m', m' < m ∧ W (i + 1) m' H') ∧ ∀ x H', J.yld i H x H' → gName k x (wipe σ [k]) H' fun σ2 H2 => wipe σ2 [k] = wipe σ [k] ∧ tYes σ2 H2 fun b H3 =>
        if b = true then te σ2 H3 fun y H4 => ∃ acc, H4 D = some (.lst acc) ∧ acc.length < sizeLine ∧ Nx (upd H4 D (.lst (acc ++ [y]))) else Nx H3) := by
  refine lc_it w (fun i H => Ext H1 H ∧ ∃ acc, H D = some (.lst acc) ∧ acc.length = i ∧ ∀ j, j < i → ∃ v, acc[j]? = some v ∧ Rel j H v)
    ⟨Ext.upd hD, [], upd_same, rfl, fun j hj => absurd hj (Nat.not_lt_zero j)⟩ (fun i H _ h => hG H h.1) (fun i x H H' hi h y => ?_) fun H h => ?_
  · obtain ⟨e1, acc, ha, hl, hr⟩ := h
    obtain ⟨rfl, hx⟩ := hY i H x H' y
    refine ⟨by show ((σ.set k none).set k (some x)).set k none = σ.set k none; rw [List.set_set, List.set_set], ?_⟩
    show te ((wipe σ [k]).set k (some x)) H' _
    refine he i x H' _ hi hx e1 fun H2 v e2 r2 => ⟨acc, e2 _ _ ha, small1000 (by omega), ?_⟩
    have ha2 := e2 _ _ ha
    refine ⟨fun b o q => ?_, acc ++ [v], upd_same, by rw [List.length_append, hl]; rfl, fun j hj => ?_⟩
    · have : b ≠ D := ne_of_none q hD
      rw [upd_ne this]
      exact e2 _ _ (e1 _ _ q)
    · by_cases hji : j < i
      · obtain ⟨u, h1, h2⟩ := hr j hji
        exact ⟨u, by rw [List.getElem?_append_left (by omega)]; exact h1, mono j _ _ u (ExtI.trans (Ext.imm e2) (ExtI.lst ha2)) h2⟩
      · have : j = i := by omega
        subst this
        exact ⟨v, by rw [List.getElem?_append_right (by omega), hl, Nat.sub_self]; rfl, mono _ _ _ v (ExtI.lst ha2) r2⟩
  · obtain ⟨e1, acc, ha, hl, hr⟩ := h
    exact hd H acc e1 ha hl hr
theorem yAt_of {xs : List V} : ∀ (i : Nat) (H : Hp) (x : V) (H' : Hp), YAt xs i H x H' → H' = H ∧ xs[i]? = some x := fun _ _ _ _ h => h
end K06


set_option Elab.async false
set_option linter.all false
set_option maxRecDepth 100000
set_option maxHeartbeats 4000000
/-! D1: is_whole, is_ratio, ratio_of, lowest_terms. -/
namespace K06
open PySem PySem.Spec PyProof.Rows L2
abbrev FnP (K : PySem.W.Frag) (x qual : Str) (st : Stmt) (dvs : List V) (f : Addr) (fd : FuncData) : Prop := FunD K x qual (defArgs st) (defBody st) (defScope st) dvs [] f fd
abbrev sWhole : Stmt := top 8
abbrev sRatio : Stmt := top 9
abbrev sOf : Stmt := top 10
abbrev sLow : Stmt := top 11
section
variable {P : Program} {w : World} {K : PySem.W.Frag} {mg : Str → Option Value} {base : Heap} {f : Addr} {fd : FuncData}
theorem ty_tup {H : Hp} {a : Addr} {xs : List V} (h : SqT K H a xs) : TyX K H (.ref a) (.type "tuple") := by
  rcases h with (h | ⟨o, h⟩) | ⟨o, its, n, h1, h2, _⟩
  · exact .base (.tup h)
  · exact .fTuple h
  · exact .kTuple h1 h2
theorem ty_lst {H : Hp} {a : Addr} {xs : List V} (h : SqL K H a xs) : TyX K H (.ref a) (.type "list") := by
  rcases h with (h | ⟨o, h⟩) | ⟨o, its, n, h1, h2, _⟩
  · exact .base (.lst h)
  · exact .base (.frz h)
  · exact .kList h1 h2
theorem den_pos_int (q : Rat) : (0 : Int) < (q.den : Int) := den_pos' q
theorem bl_true {Q : VK} {H : Hp} {b : Bool} (h : b = true) (k : Q (.bl true) H) : Q (.bl b) H := by
  rw [h]
  exact k
theorem bl_is {Q : VK} {H : Hp} {b c : Bool} (h : b = c) (k : Q (.bl c) H) : Q (.bl b) H := by
  rw [h]
  exact k
/-- the built-in names that stand -/
structure Blt (mg : Str → Option Value) : Prop where
  isi : mg "isinstance" = none
  int : mg "int" = none
  bool : mg "bool" = none
  tuple : mg "tuple" = none
  list : mg "list" = none
  len : mg "len" = none
  zip : mg "zip" = none
  range : mg "range" = none
  enum : mg "enumerate" = none
  max : mg "max" = none
  min : mg "min" = none
  abs : mg "abs" = none
  gcd : mg "gcd" = some (.builtin "math.gcd")
  lcm : mg "lcm" = some (.builtin "math.lcm")
/-! is_whole -/
def spWhole : Sp := fun vs H Q _ => ∃ n : Int, vs = [.int n] ∧ Q (.bl true) H
theorem scWhole : FnScope ["thing"] ["thing"] (defScope sWhole) := ⟨rfl, rfl, rfl, by decide +kernel, rfl, by decide +kernel, by decide +kernel⟩
theorem ok_whole (F : FnP K "is_whole" "is_whole" sWhole [] f fd) (B : Blt mg) : FnOk P w K mg base CX0 1 f fd ["thing"] spWhole := by
  refine F.ok scWhole (fun vs H Q E h => ?_) (fun cdv A outer s H vs Q E hr h => ?_)
  · obtain ⟨n, rfl, _⟩ := h
    rfl
  · obtain ⟨n, rfl, k⟩ := h
    refine ⟨_, PSs.nox (pss_one (ps_ret (pe_and (pe_callB call_isi (by rfl) B.isi (by decide +kernel) (pa_cons (pv 0) (pa_cons (pe_bltn (v := .ty "int") (by rfl) B.int (by decide +kernel) rfl) pa_nil)))
      (pe_one (pe_not (pe_callB call_isi (by rfl) B.isi (by decide +kernel) (pa_cons (pv 0) (pa_cons (pe_bltn (v := .ty "bool") (by rfl) B.bool (by decide +kernel) rfl) pa_nil)))))))), ?_⟩
    refine ⟨_, rfl, .int n, .ty "int", .type "int", .type "int", true, rfl, .ty _, .base (.int n), kit_ty (by decide +kernel), true, rfl, ?_⟩
    exact ⟨_, rfl, .int n, .ty "bool", .type "int", .type "bool", false, rfl, .ty _, .base (.int n), kit_ty (by decide +kernel), false, rfl, k⟩

/-! is_ratio -/
def spRatio (K : PySem.W.Frag) : Sp := fun vs H Q _ => ∃ (x : V) (q : Rat), vs = [x] ∧ RtI K H x q ∧ Q (.bl true) H
theorem scRatio : FnScope ["thing"] ["thing"] (defScope sRatio) := ⟨rfl, rfl, rfl, by decide +kernel, rfl, by decide +kernel, by decide +kernel⟩
theorem ok_ratio (F : FnP K "is_ratio" "is_ratio" sRatio [] f fd) (B : Blt mg) (W : Def P w K mg base CX0 1 "is_whole" ["thing"] spWhole) : FnOk P w K mg base CX0 2 f fd ["thing"] (spRatio K) := by
  refine F.ok scRatio (fun vs H Q E h => ?_) (fun cdv A outer s H vs Q E hr h => ?_)
  · obtain ⟨x, q, rfl, _⟩ := h
    rfl
  · obtain ⟨x, q, rfl, r, k⟩ := h
    refine ⟨_, PSs.nox (pss_cons (ps_if (pt_val (pe_callB call_isi (by rfl) B.isi (by decide +kernel) (pa_cons (pv 0) (pa_cons (pe_bltn (v := .ty "tuple") (by rfl) B.tuple (by decide +kernel) rfl) pa_nil))))
        (pss_one (ps_ret (pe_and (pe_cmpR op_eq (pe_callB call_len_seq (by rfl) B.len PySem.boot_len (pa_cons (pv 0) pa_nil)) pe_int (nomark _))
          (pe_and (pe_fn W hr (pa_cons (pe_ix ix_tup (pv 0) pe_int (fun _ _ => rfl)) pa_nil))
          (pe_and (pe_fn W hr (pa_cons (pe_ix ix_tup (pv 0) pe_int (fun _ _ => rfl)) pa_nil))
          (pe_one (pe_cmpR op_gt (pe_ix ix_tup (pv 0) pe_int (fun _ _ => rfl)) pe_int (nomark _)))))))) pss_nil)
      (pss_one (ps_ret (pe_fn W hr (pa_cons (pv 0) pa_nil))))), ?_⟩
    rcases r with ⟨p, rfl, t⟩ | ⟨n, rfl, _⟩
    · refine ⟨_, rfl, .ref p, .ty "tuple", .type "tuple", .type "tuple", true, rfl, .ty _, ty_tup t, kit_ty (by decide +kernel), true, rfl, ?_⟩
      refine iteT ?_
      refine ⟨_, rfl, p, _, rfl, .inr t, rfl, true, rfl, iteT ?_⟩
      refine ⟨_, rfl, p, _, _, _, rfl, rfl, t, atI_nat (j := 0) rfl, _, rfl, true, rfl, iteT ?_⟩
      refine ⟨_, rfl, p, _, _, _, rfl, rfl, t, atI_nat (j := 1) rfl, _, rfl, true, rfl, iteT ?_⟩
      refine ⟨_, rfl, p, _, _, _, rfl, rfl, t, atI_nat (j := 1) rfl, _, _, rfl, rfl, ?_⟩
      exact bl_true (decide_eq_true (den_pos_int q)) k
    · refine ⟨_, rfl, .int n, .ty "tuple", .type "int", .type "tuple", false, rfl, .ty _, .base (.int n), kit_ty (by decide +kernel), false, rfl, ?_⟩
      exact iteF ⟨_, rfl, n, rfl, k⟩

/-! lowest_terms -/
def spLow (K : PySem.W.Frag) : Sp := fun vs H Q _ => ∃ t b : Int, vs = [.int t, .int b] ∧ b ≠ 0 ∧ b.natAbs < 2 ^ 9000 ∧ gives (fun H' v => Rt K H' v (Rat.divInt t b)) H Q
theorem scLow : FnScope ["top", "bottom", "common"] ["top", "bottom"] (defScope sLow) := ⟨rfl, rfl, rfl, by decide +kernel, rfl, by decide +kernel, by decide +kernel⟩
theorem gS_div {t b : Int} (h0 : b ≠ 0) (h : b.natAbs < 2 ^ 9000) (i : Int) : CDivS i (gS t b) := by
  refine ⟨gS_ne h0, log_lt (Nat.lt_of_le_of_lt ?_ h) (by decide)⟩
  rw [gS_abs]
  exact abs_le_of_dvd (gI_dvd_right t b) h0
theorem ok_low (F : FnP K "lowest_terms" "lowest_terms" sLow [] f fd) (B : Blt mg) : FnOk P w K mg base CX0 1 f fd ["top", "bottom"] (spLow K) := by
  refine F.ok scLow (fun vs H Q E h => ?_) (fun cdv A outer s H vs Q E hr h => ?_)
  · obtain ⟨t, b, rfl, _⟩ := h
    rfl
  · obtain ⟨t, b, rfl, h0, hb, k⟩ := h
    refine ⟨_, PSs.nox (pss_cons (ps_set (i := 2) scLow.nd rfl (.inl rfl) (pe_callBfun cr_gcd rfl B.gcd (pa_cons (pv 0) (pa_cons (pv 1) pa_nil))))
      (pss_cons (ps_if (pt_cmpR op_lt (pv 1) pe_int (nomark _)) (pss_one (ps_set (i := 2) scLow.nd rfl (.inl rfl) (pe_un un_neg (pv 2)))) pss_nil)
      (pss_one (ps_ret (pe_tup (pa_cons (pe_op op_fdivS (pv 0) (pv 2)) (pa_cons (pe_op op_fdivS (pv 1) (pv 2)) pa_nil))))))), ?_⟩
    have fin : ∀ c : Int, c = gS t b → ∀ p, H p = none → Q (.ref p) (upd H p (.tup [.int (t.fdiv c), .int (b.fdiv c)])) := fun c e p hp => by
      subst e
      obtain ⟨e1, e2⟩ := low_num (t := t) h0
      refine k _ _ (ext_new hp) ⟨p, rfl, SqT.of ?_⟩
      rw [upd_same, e1, e2]
      rfl
    refine ⟨_, rfl, _, rfl, t, b, rfl, _, rfl, _, _, rfl, rfl, _, rfl, ite2 (fun hlt => ?_) fun hlt => ?_⟩
    · have hlt := of_decide_eq_true hlt
      have e : -(gI t b) = gS t b := (if_pos hlt).symm
      refine ⟨_, rfl, gI t b, rfl, ?_⟩
      refine ⟨_, rfl, _, rfl, t, -(gI t b), rfl, rfl, e ▸ gS_div h0 hb t, _, rfl, _, rfl, b, -(gI t b), rfl, rfl, e ▸ gS_div h0 hb b, by show 2 ≤ sizeLine; decide, fun p hp => fin _ e p hp⟩
    · have hlt : ¬ b < 0 := fun z => hlt (decide_eq_true z)
      have e : gI t b = gS t b := (if_neg hlt).symm
      refine ⟨_, rfl, _, rfl, t, gI t b, rfl, rfl, e ▸ gS_div h0 hb t, _, rfl, _, rfl, b, gI t b, rfl, rfl, e ▸ gS_div h0 hb b, by show 2 ≤ sizeLine; decide, fun p hp => fin _ e p hp⟩
/-! ratio_of -/
def spOf (K : PySem.W.Frag) : Sp := fun vs H Q _ => ∃ (x : V) (q : Rat), vs = [x] ∧ RtI K H x q ∧ q.den < 2 ^ 9000 ∧ gives (fun H' v => Rt K H' v q) H Q
theorem scOf : FnScope ["thing"] ["thing"] (defScope sOf) := ⟨rfl, rfl, rfl, by decide +kernel, rfl, by decide +kernel, by decide +kernel⟩
theorem ok_of (F : FnP K "ratio_of" "ratio_of" sOf [] f fd) (B : Blt mg) (W : Def P w K mg base CX0 2 "is_ratio" ["thing"] (spRatio K)) (L : Def P w K mg base CX0 1 "lowest_terms" ["top", "bottom"] (spLow K)) : FnOk P w K mg base CX0 3 f fd ["thing"] (spOf K) := by
  refine F.ok scOf (fun vs H Q E h => ?_) (fun cdv A outer s H vs Q E hr h => ?_)
  · obtain ⟨x, q, rfl, _⟩ := h
    rfl
  · obtain ⟨x, q, rfl, r, hd, k⟩ := h
    refine ⟨_, PSs.nox (pss_cons (ps_if (pt_not (pt_val (pe_fn W hr (pa_cons (pv 0) pa_nil)))) (pss_one ps_never) pss_nil)
      (pss_cons (ps_if (pt_not (pt_val (pe_callB call_isi (by rfl) B.isi (by decide +kernel) (pa_cons (pv 0) (pa_cons (pe_bltn (v := .ty "tuple") (by rfl) B.tuple (by decide +kernel) rfl) pa_nil)))))
        (pss_one (ps_ret (pe_tup (pa_cons (pv 0) (pa_cons pe_int pa_nil))))) pss_nil)
      (pss_one (ps_ret (pe_fn L (hr.mono (by decide)) (pa_cons (pe_ix ix_tup (pv 0) pe_int (fun _ _ => rfl)) (pa_cons (pe_ix ix_tup (pv 0) pe_int (fun _ _ => rfl)) pa_nil))))))), ?_⟩
    refine ⟨_, rfl, x, q, rfl, r, true, rfl, iteF ?_⟩
    rcases r with ⟨p, rfl, t⟩ | ⟨n, rfl, eq⟩
    · refine ⟨_, rfl, .ref p, .ty "tuple", .type "tuple", .type "tuple", true, rfl, .ty _, ty_tup t, kit_ty (by decide +kernel), true, rfl, iteF ?_⟩
      refine ⟨_, rfl, p, _, _, _, rfl, rfl, t, atI_nat (j := 0) rfl, _, rfl, p, _, _, _, rfl, rfl, t, atI_nat (j := 1) rfl, q.num, (q.den : Int), rfl, ?_⟩
      refine ⟨by have := den_pos' q; omega, by rw [dden]; exact hd, ?_⟩
      rw [divInt_self]
      exact k
    · refine ⟨_, rfl, .int n, .ty "tuple", .type "int", .type "tuple", false, rfl, .ty _, .base (.int n), kit_ty (by decide +kernel), false, rfl, iteT ?_⟩
      refine ⟨_, rfl, by show 2 ≤ sizeLine; decide, fun p hp => k _ _ (ext_new hp) ⟨p, rfl, SqT.of ?_⟩⟩
      rw [upd_same, eq]
      unfold RtP
      rw [Rat.num_intCast, Rat.den_intCast]
      rfl
end
end K06


set_option Elab.async false
set_option linter.all false
set_option maxRecDepth 100000
set_option maxHeartbeats 4000000
/-! D2: plus, minus, times, over, compare. -/
namespace K06
open PySem PySem.Spec PyProof.Rows L2
/-- two ratios that may be reckoned with -/
def Two (K : PySem.W.Frag) (H : Hp) (x y : V) (q r : Rat) : Prop := RtI K H x q ∧ RtI K H y r ∧ ∃ n d n' d' : Nat, Sz n d q ∧ Sz n' d' r ∧ n + n' + d + d' ≤ 900000 ∧ d + d' ≤ 9000
def spPlus (K : PySem.W.Frag) : Sp := fun vs H Q _ => ∃ (x y : V) (q r : Rat), vs = [x, y] ∧ Two K H x y q r ∧ gives (fun H' v => Rt K H' v (q + r)) H Q
def spMinus (K : PySem.W.Frag) : Sp := fun vs H Q _ => ∃ (x y : V) (q r : Rat), vs = [x, y] ∧ Two K H x y q r ∧ gives (fun H' v => Rt K H' v (q - r)) H Q
def spTimes (K : PySem.W.Frag) : Sp := fun vs H Q _ => ∃ (x y : V) (q r : Rat), vs = [x, y] ∧ Two K H x y q r ∧ gives (fun H' v => Rt K H' v (q * r)) H Q
def spOver (K : PySem.W.Frag) : Sp := fun vs H Q _ => ∃ (x y : V) (q r : Rat), vs = [x, y] ∧ Two K H x y q r ∧ r ≠ 0 ∧ ((q.den : Int) * r.num).natAbs < 2 ^ 9000 ∧ gives (fun H' v => Rt K H' v (q / r)) H Q
def cmpR (q r : Rat) : Int := if q < r then -1 else if r < q then 1 else 0
def spCompare (K : PySem.W.Frag) : Sp := fun vs H Q _ => ∃ (x y : V) (q r : Rat), vs = [x, y] ∧ Two K H x y q r ∧ ∀ H', Ext H H' → Q (.int (cmpR q r)) H'
theorem mw {i j : Int} {a b : Nat} (ha : i.natAbs < 2 ^ a) (hb : j.natAbs < 2 ^ b) (h0 : 0 < a) (h1 : 0 < b) (h : a + b ≤ 1000000) : CMulW i j := wide_mul ha hb h0 h1 h
section
variable {P : Program} {w : World} {K : PySem.W.Frag} {mg : Str → Option Value} {base : Heap} {f : Addr} {fd : FuncData}
/-! plus -/
abbrev sPlus : Stmt := top 12
theorem scPlus : FnScope ["one", "other", "a", "b", "c", "d"] ["one", "other"] (defScope sPlus) := ⟨rfl, rfl, rfl, by decide +kernel, rfl, by decide +kernel, by decide +kernel⟩
theorem ok_plus (F : FnP K "plus" "plus" sPlus [] f fd) (O : Def P w K mg base CX0 3 "ratio_of" ["thing"] (spOf K)) (L : Def P w K mg base CX0 1 "lowest_terms" ["top", "bottom"] (spLow K)) : FnOk P w K mg base CX0 4 f fd ["one", "other"] (spPlus K) := by
  refine F.ok scPlus (fun vs H Q E h => ?_) (fun cdv A outer s H vs Q E hr h => ?_)
  · obtain ⟨x, y, q, r, rfl, _⟩ := h
    rfl
  · obtain ⟨x, y, q, r, rfl, ⟨hx, hy, n, d, n', d', z1, z2, l1, l2⟩, k⟩ := h
    have := z1.n0; have := z1.d0; have := z2.n0; have := z2.d0
    refine ⟨_, PSs.nox (pss_cons (ps_asg (pe_fn O hr (pa_cons (pv 0) pa_nil)) (pg_tup rfl (pgs_cons (pg_name (i := 2) scPlus.nd rfl (.inl rfl)) (pgs_cons (pg_name (i := 3) scPlus.nd rfl (.inl rfl)) pgs_nil))))
      (pss_cons (ps_asg (pe_fn O hr (pa_cons (pv 1) pa_nil)) (pg_tup rfl (pgs_cons (pg_name (i := 4) scPlus.nd rfl (.inl rfl)) (pgs_cons (pg_name (i := 5) scPlus.nd rfl (.inl rfl)) pgs_nil))))
      (pss_one (ps_ret (pe_fn L (hr.mono (by decide)) (pa_cons (pe_op op_add (pe_op op_mulW (pv 2) (pv 5)) (pe_op op_mulW (pv 4) (pv 3))) (pa_cons (pe_op op_mulW (pv 3) (pv 5)) pa_nil))))))), ?_⟩
    refine ⟨_, rfl, x, q, rfl, hx, lt_up z1.den (by omega), fun H1 v1 g1 r1 => ?_⟩
    obtain ⟨p1, rfl, t1⟩ := r1
    refine ⟨p1, _, rfl, t1, rfl, _, _, rfl, _, _, rfl, rfl, ?_⟩
    refine ⟨_, rfl, y, r, rfl, hy.mono (Ext.imm g1), lt_up z2.den (by omega), fun H2 v2 g2 r2 => ?_⟩
    obtain ⟨p2, rfl, t2⟩ := r2
    refine ⟨p2, _, rfl, t2, rfl, _, _, rfl, _, _, rfl, rfl, ?_⟩
    refine ⟨_, rfl, _, rfl, q.num, (r.den : Int), rfl, rfl, mw z1.num z2.deni (by omega) (by omega) (by omega), ?_⟩
    refine ⟨_, rfl, _, rfl, r.num, (q.den : Int), rfl, rfl, mw z2.num z1.deni (by omega) (by omega) (by omega), ?_⟩
    refine ⟨_, _, rfl, rfl, _, rfl, _, rfl, (q.den : Int), (r.den : Int), rfl, rfl, mw z1.deni z2.deni (by omega) (by omega) (by omega), ?_⟩
    refine ⟨_, _, rfl, den_ne, lt_up (z1.dens z2) l2, fun H3 v3 g3 r3 => k H3 v3 ((g1.trans g2).trans g3) ?_⟩
    rw [← rat_add]
    exact r3
/-! minus -/
abbrev sMinus : Stmt := top 13
theorem scMinus : FnScope ["one", "other", "a", "b", "c", "d"] ["one", "other"] (defScope sMinus) := ⟨rfl, rfl, rfl, by decide +kernel, rfl, by decide +kernel, by decide +kernel⟩
theorem ok_minus (F : FnP K "minus" "minus" sMinus [] f fd) (O : Def P w K mg base CX0 3 "ratio_of" ["thing"] (spOf K)) (L : Def P w K mg base CX0 1 "lowest_terms" ["top", "bottom"] (spLow K)) : FnOk P w K mg base CX0 4 f fd ["one", "other"] (spMinus K) := by
  refine F.ok scMinus (fun vs H Q E h => ?_) (fun cdv A outer s H vs Q E hr h => ?_)
  · obtain ⟨x, y, q, r, rfl, _⟩ := h
    rfl
  · obtain ⟨x, y, q, r, rfl, ⟨hx, hy, n, d, n', d', z1, z2, l1, l2⟩, k⟩ := h
    have := z1.n0; have := z1.d0; have := z2.n0; have := z2.d0
    refine ⟨_, PSs.nox (pss_cons (ps_asg (pe_fn O hr (pa_cons (pv 0) pa_nil)) (pg_tup rfl (pgs_cons (pg_name (i := 2) scMinus.nd rfl (.inl rfl)) (pgs_cons (pg_name (i := 3) scMinus.nd rfl (.inl rfl)) pgs_nil))))
      (pss_cons (ps_asg (pe_fn O hr (pa_cons (pv 1) pa_nil)) (pg_tup rfl (pgs_cons (pg_name (i := 4) scMinus.nd rfl (.inl rfl)) (pgs_cons (pg_name (i := 5) scMinus.nd rfl (.inl rfl)) pgs_nil))))
      (pss_one (ps_ret (pe_fn L (hr.mono (by decide)) (pa_cons (pe_op op_sub (pe_op op_mulW (pv 2) (pv 5)) (pe_op op_mulW (pv 4) (pv 3))) (pa_cons (pe_op op_mulW (pv 3) (pv 5)) pa_nil))))))), ?_⟩
    refine ⟨_, rfl, x, q, rfl, hx, lt_up z1.den (by omega), fun H1 v1 g1 r1 => ?_⟩
    obtain ⟨p1, rfl, t1⟩ := r1
    refine ⟨p1, _, rfl, t1, rfl, _, _, rfl, _, _, rfl, rfl, ?_⟩
    refine ⟨_, rfl, y, r, rfl, hy.mono (Ext.imm g1), lt_up z2.den (by omega), fun H2 v2 g2 r2 => ?_⟩
    obtain ⟨p2, rfl, t2⟩ := r2
    refine ⟨p2, _, rfl, t2, rfl, _, _, rfl, _, _, rfl, rfl, ?_⟩
    refine ⟨_, rfl, _, rfl, q.num, (r.den : Int), rfl, rfl, mw z1.num z2.deni (by omega) (by omega) (by omega), ?_⟩
    refine ⟨_, rfl, _, rfl, r.num, (q.den : Int), rfl, rfl, mw z2.num z1.deni (by omega) (by omega) (by omega), ?_⟩
    refine ⟨_, _, rfl, rfl, _, rfl, _, rfl, (q.den : Int), (r.den : Int), rfl, rfl, mw z1.deni z2.deni (by omega) (by omega) (by omega), ?_⟩
    refine ⟨_, _, rfl, den_ne, lt_up (z1.dens z2) l2, fun H3 v3 g3 r3 => k H3 v3 ((g1.trans g2).trans g3) ?_⟩
    rw [← rat_sub]
    exact r3
/-! times -/
abbrev sTimes : Stmt := top 14
theorem scTimes : FnScope ["one", "other", "a", "b", "c", "d"] ["one", "other"] (defScope sTimes) := ⟨rfl, rfl, rfl, by decide +kernel, rfl, by decide +kernel, by decide +kernel⟩
theorem ok_times (F : FnP K "times" "times" sTimes [] f fd) (O : Def P w K mg base CX0 3 "ratio_of" ["thing"] (spOf K)) (L : Def P w K mg base CX0 1 "lowest_terms" ["top", "bottom"] (spLow K)) : FnOk P w K mg base CX0 4 f fd ["one", "other"] (spTimes K) := by
  refine F.ok scTimes (fun vs H Q E h => ?_) (fun cdv A outer s H vs Q E hr h => ?_)
  · obtain ⟨x, y, q, r, rfl, _⟩ := h
    rfl
  · obtain ⟨x, y, q, r, rfl, ⟨hx, hy, n, d, n', d', z1, z2, l1, l2⟩, k⟩ := h
    have := z1.n0; have := z1.d0; have := z2.n0; have := z2.d0
    refine ⟨_, PSs.nox (pss_cons (ps_asg (pe_fn O hr (pa_cons (pv 0) pa_nil)) (pg_tup rfl (pgs_cons (pg_name (i := 2) scTimes.nd rfl (.inl rfl)) (pgs_cons (pg_name (i := 3) scTimes.nd rfl (.inl rfl)) pgs_nil))))
      (pss_cons (ps_asg (pe_fn O hr (pa_cons (pv 1) pa_nil)) (pg_tup rfl (pgs_cons (pg_name (i := 4) scTimes.nd rfl (.inl rfl)) (pgs_cons (pg_name (i := 5) scTimes.nd rfl (.inl rfl)) pgs_nil))))
      (pss_one (ps_ret (pe_fn L (hr.mono (by decide)) (pa_cons (pe_op op_mulW (pv 2) (pv 4)) (pa_cons (pe_op op_mulW (pv 3) (pv 5)) pa_nil))))))), ?_⟩
    refine ⟨_, rfl, x, q, rfl, hx, lt_up z1.den (by omega), fun H1 v1 g1 r1 => ?_⟩
    obtain ⟨p1, rfl, t1⟩ := r1
    refine ⟨p1, _, rfl, t1, rfl, _, _, rfl, _, _, rfl, rfl, ?_⟩
    refine ⟨_, rfl, y, r, rfl, hy.mono (Ext.imm g1), lt_up z2.den (by omega), fun H2 v2 g2 r2 => ?_⟩
    obtain ⟨p2, rfl, t2⟩ := r2
    refine ⟨p2, _, rfl, t2, rfl, _, _, rfl, _, _, rfl, rfl, ?_⟩
    refine ⟨_, rfl, _, rfl, q.num, r.num, rfl, rfl, mw z1.num z2.num (by omega) (by omega) (by omega), ?_⟩
    refine ⟨_, rfl, _, rfl, (q.den : Int), (r.den : Int), rfl, rfl, mw z1.deni z2.deni (by omega) (by omega) (by omega), ?_⟩
    refine ⟨_, _, rfl, den_ne, lt_up (z1.dens z2) l2, fun H3 v3 g3 r3 => k H3 v3 ((g1.trans g2).trans g3) ?_⟩
    rw [← rat_mul]
    exact r3
/-! over -/
abbrev sOver : Stmt := top 15
theorem scOver : FnScope ["one", "other", "a", "b", "c", "d"] ["one", "other"] (defScope sOver) := ⟨rfl, rfl, rfl, by decide +kernel, rfl, by decide +kernel, by decide +kernel⟩
theorem ok_over (F : FnP K "over" "over" sOver [] f fd) (O : Def P w K mg base CX0 3 "ratio_of" ["thing"] (spOf K)) (L : Def P w K mg base CX0 1 "lowest_terms" ["top", "bottom"] (spLow K)) : FnOk P w K mg base CX0 4 f fd ["one", "other"] (spOver K) := by
  refine F.ok scOver (fun vs H Q E h => ?_) (fun cdv A outer s H vs Q E hr h => ?_)
  · obtain ⟨x, y, q, r, rfl, _⟩ := h
    rfl
  · obtain ⟨x, y, q, r, rfl, ⟨hx, hy, n, d, n', d', z1, z2, l1, l2⟩, h0, hb, k⟩ := h
    have := z1.n0; have := z1.d0; have := z2.n0; have := z2.d0
    refine ⟨_, PSs.nox (pss_cons (ps_asg (pe_fn O hr (pa_cons (pv 0) pa_nil)) (pg_tup rfl (pgs_cons (pg_name (i := 2) scOver.nd rfl (.inl rfl)) (pgs_cons (pg_name (i := 3) scOver.nd rfl (.inl rfl)) pgs_nil))))
      (pss_cons (ps_asg (pe_fn O hr (pa_cons (pv 1) pa_nil)) (pg_tup rfl (pgs_cons (pg_name (i := 4) scOver.nd rfl (.inl rfl)) (pgs_cons (pg_name (i := 5) scOver.nd rfl (.inl rfl)) pgs_nil))))
      (pss_cons (ps_if (pt_cmpR op_eq (pv 4) pe_int (nomark _)) (pss_one ps_never) pss_nil) (pss_one (ps_ret (pe_fn L (hr.mono (by decide)) (pa_cons (pe_op op_mulW (pv 2) (pv 5)) (pa_cons (pe_op op_mulW (pv 3) (pv 4)) pa_nil)))))))), ?_⟩
    refine ⟨_, rfl, x, q, rfl, hx, lt_up z1.den (by omega), fun H1 v1 g1 r1 => ?_⟩
    obtain ⟨p1, rfl, t1⟩ := r1
    refine ⟨p1, _, rfl, t1, rfl, _, _, rfl, _, _, rfl, rfl, ?_⟩
    refine ⟨_, rfl, y, r, rfl, hy.mono (Ext.imm g1), lt_up z2.den (by omega), fun H2 v2 g2 r2 => ?_⟩
    obtain ⟨p2, rfl, t2⟩ := r2
    refine ⟨p2, _, rfl, t2, rfl, _, _, rfl, _, _, rfl, rfl, ?_⟩
    refine ⟨_, rfl, rfl, _, rfl, ?_⟩
    rw [decide_eq_false (show ¬ V.int r.num = V.int 0 from fun z => num_ne h0 (V.int.inj z))]
    refine iteF ?_
    refine ⟨_, rfl, _, rfl, q.num, (r.den : Int), rfl, rfl, mw z1.num z2.deni (by omega) (by omega) (by omega), ?_⟩
    refine ⟨_, rfl, _, rfl, (q.den : Int), r.num, rfl, rfl, mw z1.deni z2.num (by omega) (by omega) (by omega), ?_⟩
    refine ⟨_, _, rfl, dn_ne h0, hb, fun H3 v3 g3 r3 => k H3 v3 ((g1.trans g2).trans g3) ?_⟩
    rw [← rat_div]
    exact r3
/-! compare -/
abbrev sCompare : Stmt := top 16
theorem scCompare : FnScope ["one", "other", "a", "b", "c", "d", "left", "right"] ["one", "other"] (defScope sCompare) := ⟨rfl, rfl, rfl, by decide +kernel, rfl, by decide +kernel, by decide +kernel⟩
theorem ok_compare (F : FnP K "compare" "compare" sCompare [] f fd) (O : Def P w K mg base CX0 3 "ratio_of" ["thing"] (spOf K)) : FnOk P w K mg base CX0 4 f fd ["one", "other"] (spCompare K) := by
  refine F.ok scCompare (fun vs H Q E h => ?_) (fun cdv A outer s H vs Q E hr h => ?_)
  · obtain ⟨x, y, q, r, rfl, _⟩ := h
    rfl
  · obtain ⟨x, y, q, r, rfl, ⟨hx, hy, n, d, n', d', z1, z2, l1, l2⟩, k⟩ := h
    have := z1.n0; have := z1.d0; have := z2.n0; have := z2.d0
    refine ⟨_, PSs.nox (pss_cons (ps_asg (pe_fn O hr (pa_cons (pv 0) pa_nil)) (pg_tup rfl (pgs_cons (pg_name (i := 2) scCompare.nd rfl (.inl rfl)) (pgs_cons (pg_name (i := 3) scCompare.nd rfl (.inl rfl)) pgs_nil))))
      (pss_cons (ps_asg (pe_fn O hr (pa_cons (pv 1) pa_nil)) (pg_tup rfl (pgs_cons (pg_name (i := 4) scCompare.nd rfl (.inl rfl)) (pgs_cons (pg_name (i := 5) scCompare.nd rfl (.inl rfl)) pgs_nil))))
      (pss_cons (ps_set (i := 6) scCompare.nd rfl (.inl rfl) (pe_op op_mulW (pv 2) (pv 5)))
      (pss_cons (ps_set (i := 7) scCompare.nd rfl (.inl rfl) (pe_op op_mulW (pv 4) (pv 3)))
      (pss_cons (ps_if (pt_cmpR op_lt (pv 6) (pv 7) (nomark _)) (pss_one (ps_ret (pe_un un_neg pe_int))) pss_nil)
      (pss_one (ps_ret (pe_ifExp (pt_cmpR op_gt (pv 6) (pv 7) (nomark _)) pe_int pe_int)))))))), ?_⟩
    refine ⟨_, rfl, x, q, rfl, hx, lt_up z1.den (by omega), fun H1 v1 g1 r1 => ?_⟩
    obtain ⟨p1, rfl, t1⟩ := r1
    refine ⟨p1, _, rfl, t1, rfl, _, _, rfl, _, _, rfl, rfl, ?_⟩
    refine ⟨_, rfl, y, r, rfl, hy.mono (Ext.imm g1), lt_up z2.den (by omega), fun H2 v2 g2 r2 => ?_⟩
    obtain ⟨p2, rfl, t2⟩ := r2
    refine ⟨p2, _, rfl, t2, rfl, _, _, rfl, _, _, rfl, rfl, ?_⟩
    refine ⟨_, rfl, _, rfl, q.num, (r.den : Int), rfl, rfl, mw z1.num z2.deni (by omega) (by omega) (by omega), ?_⟩
    refine ⟨_, rfl, _, rfl, r.num, (q.den : Int), rfl, rfl, mw z2.num z1.deni (by omega) (by omega) (by omega), ?_⟩
    have e1 : (q.num * (r.den : Int) < r.num * (q.den : Int)) = (q < r) := propext (Rat.lt_iff q r).symm
    have e2 : (r.num * (q.den : Int) < q.num * (r.den : Int)) = (r < q) := propext (Rat.lt_iff r q).symm
    have kk := k H2 (g1.trans g2)
    unfold cmpR at kk
    refine ⟨_, rfl, _, rfl, _, _, rfl, rfl, _, rfl, ite2 (fun z => ?_) fun z => ?_⟩
    · have z := of_decide_eq_true z
      rw [e1] at z
      rw [if_pos z] at kk
      exact ⟨1, rfl, kk⟩
    · have z : ¬ q.num * (r.den : Int) < r.num * (q.den : Int) := fun y => z (decide_eq_true y)
      rw [e1] at z
      rw [if_neg z] at kk
      refine ⟨_, rfl, _, rfl, _, _, rfl, rfl, _, rfl, ite2 (fun y => ?_) fun y => ?_⟩
      · have y := of_decide_eq_true y
        rw [e2] at y
        rw [if_pos y] at kk
        exact kk
      · have y : ¬ r.num * (q.den : Int) < q.num * (r.den : Int) := fun a => y (decide_eq_true a)
        rw [e2] at y
        rw [if_neg y] at kk
        exact kk
end
end K06


set_option Elab.async false
set_option linter.all false
set_option maxRecDepth 100000
set_option maxHeartbeats 4000000
/-! D3: a list or a tuple walked; lowest_row. -/
namespace K06
open PySem PySem.Spec PyProof.Rows L2
/-- a list or a tuple -/
def SqE (K : PySem.W.Frag) (H : Hp) (a : Addr) (xs : List V) : Prop := SqL K H a xs ∨ SqT K H a xs
theorem SqE.ext {K : PySem.W.Frag} {H H' : Hp} {a : Addr} {xs : List V} (h : SqE K H a xs) (e : Ext H H') : SqE K H' a xs := h.imp (fun h => h.ext e) fun h => h.ext e
/-- the walk of a list or a tuple at a, as it stands at H -/
def StW (H : Hp) (a : Addr) (xs : List V) (J : It) : Prop := Walk J xs.length (fun H' => ∀ o, H a = some o → H' a = some o) (YAt xs)
/-- the questions of pi_seq, for a walk told whichever it is -/
theorem seq_walk {K : PySem.W.Frag} {H : Hp} {a : Addr} {xs : List V} (h : SqE K H a xs) {R : It → Hp → Prop} (q : ∀ J, StW H a xs J → R J H) :
    (((∃ xs, SqL K H a xs) ∧ R (Itl K a) H) ∨ ((∃ xs, SqT K H a xs) ∧ R (Itt K a) H)) := by
  rcases h with h | h
  · refine .inl ⟨⟨_, h⟩, q _ ((walk_list (K := K) (a := a) (xs := xs)).mono (fun H' g => ?_) fun _ _ _ _ _ _ y => y)⟩
    rcases h with (h | ⟨o, h⟩) | h
    · exact .inl (.inl (g _ h))
    · exact .inl (.inr ⟨o, g _ h⟩)
    · exact .inr h
  · refine .inr ⟨⟨_, h⟩, q _ ((walk_tup (K := K) (a := a) (xs := xs)).mono (fun H' g => ?_) fun _ _ _ _ _ _ y => y)⟩
    rcases h with (h | ⟨o, h⟩) | h
    · exact .inl (.inl (g _ h))
    · exact .inl (.inr ⟨o, g _ h⟩)
    · exact .inr h

section
variable {X : Cx} {tg : Expr}
def iSeq (K : PySem.W.Frag) (tl : TE) : TI := fun σ H R => tl σ H fun x H1 => ∃ a xs, x = .ref a ∧ SqE K H1 a xs ∧ ∀ J, StW H1 a xs J → R J H1
theorem pi_seq {l : Expr} {tl : TE} (hl : PE X l tl) : PI X tg l (iSeq X.K tl) := by
  refine ⟨fun pins s σ H R I h => ?_⟩
  refine thn (hl.run pins s σ H _ I h) fun v s1 h1 => ?_
  obtain ⟨x, H1, I1, r1, a, ys, rfl, hE, q⟩ := h1
  have q := seq_walk hE q
  obtain rfl : v = Value.ref a := r1
  have fresh : ∀ b ∈ [s1.heap.objs.size], FpOk X pins H1 b := fun b hb => by
    obtain rfl := List.mem_singleton.mp hb
    exact I1.fpOk (Nat.le_refl _) (I1.hok.fresh (Nat.le_refl _))
  rcases q with ⟨⟨xs, hq⟩, q⟩ | ⟨⟨xs, hq⟩, q⟩
  · obtain ⟨its, rv, p, _⟩ := I1.list hq
    exact wpAny_pyIter_list p.isList ⟨s1.heap.objs.size, [s1.heap.objs.size], _, _, H1, rfl, I1.kept (t' := s1.toks) (fun b o e => Heap.get?_push_of_some _ e), turn_list a _, ⟨_, Heap.get?_push_size _ rfl, rfl, rfl⟩, fresh, q⟩
  · obtain ⟨its, rv, p, _⟩ := I1.tuple hq
    exact wpAny_pyIter_tuple (show s1.heap.IsTuple a its.toArray from p) ⟨s1.heap.objs.size, [s1.heap.objs.size], _, _, H1, rfl, I1.kept (t' := s1.toks) (fun b o e => Heap.get?_push_of_some _ e), turn_tuple a _, ⟨_, Heap.get?_push_size _ rfl, rfl, rfl⟩, fresh, q⟩
end
theorem list_of_at {α β : Type} {acc : List α} {qs : List β} {f : β → α} (hl : acc.length = qs.length) (h : ∀ i, i < qs.length → ∃ v, acc[i]? = some v ∧ ∃ q, qs[i]? = some q ∧ v = f q) : acc = qs.map f := by
  refine List.ext_getElem? fun i => ?_
  by_cases hi : i < qs.length
  · obtain ⟨v, h1, q, h2, rfl⟩ := h i hi
    rw [h1, List.getElem?_map, h2]
    rfl
  · rw [List.getElem?_eq_none (by omega), List.getElem?_eq_none (by rw [List.length_map]; omega)]
theorem rts_of_at {K : PySem.W.Frag} {H : Hp} {acc : List V} {qs : List Rat} (hl : acc.length = qs.length) (h : ∀ i, i < qs.length → ∃ v, acc[i]? = some v ∧ ∃ q, qs[i]? = some q ∧ Rt K H v q) : Rts K H acc qs := by
  refine paired_by hl fun i a b h1 h2 => ?_
  obtain ⟨v, e1, q, e2, r⟩ := h i (List.getElem?_eq_some_iff.mp h2).1
  rw [h1] at e1
  rw [h2] at e2
  cases e1
  cases e2
  exact r
theorem ix_tupK {X : Cx} (K : PySem.W.Frag) (h : X.K = K := by rfl) : IxR X (rIxT K) := h ▸ ix_tup
theorem ix_listK {X : Cx} (K : PySem.W.Frag) (h : X.K = K := by rfl) : IxR X (rIxL K) := h ▸ ix_list
theorem pe_fldK {X : Cx} {e : Expr} {f : Str} {pos : Pos} {ta : TE} (K : PySem.W.Frag) (he : PE X e ta) (hb : attributeBase e f X.env (eval e X.env) = eval e X.env) (h : X.K = K := by rfl) : PE X (.Attribute e f pos) (tFld K ta f) := h ▸ pe_fld he hb
theorem get_lt {α : Type} {l : List α} {i : Nat} (h : i < l.length) : ∃ x, l[i]? = some x := ⟨_, List.getElem?_eq_getElem h⟩
section
variable {P : Program} {w : World} {K : PySem.W.Frag} {mg : Str → Option Value} {base : Heap} {f : Addr} {fd : FuncData}
/-! lowest_row -/
abbrev sLowRow : Stmt := top 17
def spLowRow (K : PySem.W.Frag) : Sp := fun vs H Q _ => ∃ (a : Addr) (xs : List V) (qs : List Rat) (n d : Nat), vs = [.ref a] ∧ SqE K H a xs ∧ Rts K H xs qs ∧ (∀ q ∈ qs, Sz n d q) ∧ qs.length ≤ 40 ∧ n + 40 * d + 1 ≤ 9000 ∧
  gives (fun H' v => ∃ p, v = .ref p ∧ SqT K H' p ((lowest qs).map V.int)) H Q
theorem scLowRow : FnScope ["numbers", "known", "whole", "number", "tops", "common", "top"] ["numbers"] (defScope sLowRow) := ⟨rfl, rfl, rfl, by decide +kernel, rfl, by decide +kernel, by decide +kernel⟩
theorem ok_lowrow (F : FnP K "lowest_row" "lowest_row" sLowRow [] f fd) (B : Blt mg) (O : Def P w K mg base CX0 3 "ratio_of" ["thing"] (spOf K)) : FnOk P w K mg base CX0 4 f fd ["numbers"] (spLowRow K) := by
  refine F.ok scLowRow (fun vs H Q E h => ?_) (fun cdv A outer s H vs Q E hr h => ?_)
  · obtain ⟨a, xs, qs, n, d, rfl, _⟩ := h
    rfl
  · obtain ⟨a, xs, qs, n, d, rfl, hS, hR, hz, h40, hb, k⟩ := h
    have nd := scLowRow.nd
    refine ⟨_, PSs.nox (pss_cons (ps_setLc (i := 1) (own := [("number", 3)]) (g := gName 3) (tt := tYes) rfl nd rfl rfl (sw_true rfl rfl rfl (by decide +kernel)) (pi_seq (pv 0)) (blkOk_by (N := ["numbers", "known", "whole", "number", "tops", "common", "top"]) (sc := defScope sLowRow) (by decide +kernel))
          (fun _ _ _ _ _ => pg_name (i := 3) nd rfl (Or.inl rfl)) (fun _ _ _ _ _ => pts_nil) (fun _ _ _ _ _ => pe_fn O hr (pa_cons (pv 3) pa_nil)))
      (pss_cons (ps_set (i := 2) nd rfl (.inr rfl) pe_int)
      (pss_cons (ps_for PassesOwn.never rfl (pi_list (pv 1)) (pg_name (i := 3) nd rfl (Or.inl rfl)) (pss_one (ps_set (i := 2) nd rfl (.inr rfl) (pe_callBfun cr_lcm rfl B.lcm (pa_cons (pv 2) (pa_cons (pe_ix ix_tup (pv 3) pe_int (fun _ _ => rfl)) pa_nil))))))
      (pss_cons (ps_setLc (i := 4) (own := [("number", 3)]) (g := gName 3) (tt := tYes) rfl nd rfl rfl (sw_true rfl rfl rfl (by decide +kernel)) (pi_list (pv 1)) (blkOk_by (N := ["numbers", "known", "whole", "number", "tops", "common", "top"]) (sc := defScope sLowRow) (by decide +kernel))
          (fun _ _ _ _ _ => pg_name (i := 3) nd rfl (Or.inl rfl)) (fun _ _ _ _ _ => pts_nil) (fun _ _ _ _ _ => pe_op op_mulW (pe_ix (ix_tupK K) (pv 3) pe_int (fun _ _ => rfl)) (pe_op op_fdivW (pv 2) (pe_ix (ix_tupK K) (pv 3) pe_int (fun _ _ => rfl)))))
      (pss_cons (ps_set (i := 5) nd rfl (.inr rfl) pe_int)
      (pss_cons (ps_for PassesOwn.never rfl (pi_list (pv 4)) (pg_name (i := 6) nd rfl (Or.inl rfl)) (pss_one (ps_set (i := 5) nd rfl (.inr rfl) (pe_callBfun cr_gcd rfl B.gcd (pa_cons (pv 5) (pa_cons (pv 6) pa_nil))))))
      (pss_cons (ps_if (pt_cmpR op_eq (pv 5) pe_int (nomark _)) (pss_one (ps_ret (pe_callTy call_tuple_of (by rfl) B.tuple (by decide +kernel) (pa_cons (pv 4) pa_nil)))) pss_nil)
      (pss_one (ps_ret (pe_callTy call_tuple_of (by rfl) B.tuple (by decide +kernel) (pa_cons (pe_lc (own := [("top", 6)]) (g := gName 6) (tt := tYes) rfl nd (pi_list (pv 4)) (blkOk_by (N := ["numbers", "known", "whole", "number", "tops", "common", "top"]) (sc := defScope sLowRow) (by decide +kernel))
          (fun _ _ _ _ _ => pg_name (i := 6) nd rfl (Or.inl rfl)) (fun _ _ _ _ _ => pts_nil) (fun _ _ _ _ _ => pe_op op_fdivW (pv 6) (pv 5))) pa_nil))))))))))), ?_⟩
    have hxq : xs.length = qs.length := Paired.len hR
    have hden := Szs_den hz
    have hw : (0 : Int) < lF 1 qs := lF_pos (by decide) qs
    have hwl := lF1_lt qs hden h40
    -- known
    refine ⟨_, rfl, a, xs, rfl, hS, fun J wk D hD => lc_map wk hD (fun i x => xs[i]? = some x) yAt_of (fun i H v => ∃ q, qs[i]? = some q ∧ Rt K H v q) (by omega) (fun i H H' v e ⟨q, h1, h2⟩ => ⟨q, h1, h2.mono e⟩) (fun H' e o => e a o) (fun i x H2 Q2 hi hx e1 k2 => ?_) fun H2 acc e2 hacc hlen hrel => ?_⟩
    · obtain ⟨q, hq, rq⟩ := paired_at hR hx
      exact ⟨_, rfl, x, q, rfl, .inl (rq.mono (Ext.imm e1)), lt_up (hden q (List.mem_of_getElem? hq)) (by omega), fun H3 v e3 r3 => k2 H3 v e3 ⟨q, hq, r3⟩⟩
    rw [hxq] at hlen hrel
    -- whole = 1, its loop
    refine ⟨_, rfl, D, rfl, ⟨_, SqL.of hacc⟩, for_list (K := K) (a := D) (xs := acc) (fun i σ' H' => H' = H2 ∧ ∃ o, σ' = [some (.ref a), some (.ref D), some (.int (lF 1 (qs.take i))), o, none, none, none]) ⟨rfl, _, rfl⟩ (fun i σ' H' _ h => by obtain ⟨rfl, _⟩ := h; exact SqL.of hacc) ?_ ?_⟩
    · rintro i x σ' H' hx ⟨rfl, o, rfl⟩
      have hi : i < qs.length := by rw [← hlen]; exact (List.getElem?_eq_some_iff.mp hx).1
      obtain ⟨v, h1, q, hq, p, rfl, t⟩ := hrel i hi
      rw [hx] at h1
      cases h1
      have hle : (qs.take i).length ≤ 40 := by rw [List.length_take]; omega
      refine ⟨_, rfl, _, rfl, p, _, _, _, rfl, rfl, t, atI_nat (j := 1) rfl, lF 1 (qs.take i), (q.den : Int), rfl, lt_up (lF1_lt _ (fun z hz' => hden z (List.mem_of_mem_take hz')) hle) (by omega), by rw [dden]; exact lt_up (hden q (List.mem_of_getElem? hq)) (by omega), rfl, some (.ref p), ?_⟩
      rw [take_snoc hq, lF_snoc]
      rfl
    rintro σ' H' ⟨rfl, o, rfl⟩
    rw [hlen, List.take_length]
    -- tops
    refine ⟨_, rfl, D, rfl, ⟨_, SqL.of hacc⟩, fun D2 hD2 => lc_map (walk_list (K := K) (a := D) (xs := acc)) hD2 (fun i x => acc[i]? = some x) yAt_of (fun i H v => ∃ q, qs[i]? = some q ∧ v = .int (q.num * (lF 1 qs / (q.den : Int)))) (by omega) (fun i H H' v e h => h) (fun H'' e => SqL.of (e _ _ hacc)) (fun i x H3 Q3 hi hx e3 k3 => ?_) fun H3 acc2 e3 hacc2 hlen2 hrel2 => ?_⟩
    · rw [hlen] at hi
      obtain ⟨v, h1, q, hq, p, rfl, t⟩ := hrel i hi
      rw [hx] at h1
      cases h1
      have t3 := t.ext e3
      have zq := hz q (List.mem_of_getElem? hq)
      refine ⟨_, rfl, p, _, _, _, rfl, rfl, t3, atI_nat (j := 0) rfl, _, rfl, _, rfl, p, _, _, _, rfl, rfl, t3, atI_nat (j := 1) rfl, lF 1 qs, (q.den : Int), rfl, rfl, wide_div (den_pos_int q) zq.deni zq.d0 (by omega), _, _, rfl, rfl, ?_, k3 H3 _ (Ext.refl _) ⟨q, hq, rfl⟩⟩
      exact mw zq.num (Nat.lt_of_le_of_lt (ediv_abs_le (dvd_lF qs 1 q (List.mem_of_getElem? hq))) hwl) zq.n0 (by omega) (by omega)
    rw [hlen] at hlen2 hrel2
    have etops : acc2 = (tops (lF 1 qs) qs).map V.int := by
      unfold tops
      rw [List.map_map]
      exact list_of_at hlen2 hrel2
    have htl : (tops (lF 1 qs) qs).length = qs.length := by unfold tops; rw [List.length_map]
    -- common
    refine ⟨_, rfl, D2, rfl, ⟨_, SqL.of hacc2⟩, for_list (K := K) (a := D2) (xs := acc2) (fun i σ' H' => H' = H3 ∧ ∃ o2, σ' = [some (.ref a), some (.ref D), some (.int (lF 1 qs)), o, some (.ref D2), some (.int (gcdL ((tops (lF 1 qs) qs).take i))), o2]) ⟨rfl, _, rfl⟩ (fun i σ' H' _ h => by obtain ⟨rfl, _⟩ := h; exact SqL.of hacc2) ?_ ?_⟩
    · rintro i x σ' H' hx ⟨rfl, o2, rfl⟩
      rw [etops, List.getElem?_map] at hx
      obtain ⟨y, hy, rfl⟩ := Option.map_eq_some_iff.mp hx
      refine ⟨_, rfl, _, rfl, gcdL ((tops (lF 1 qs) qs).take i), y, rfl, rfl, some (.int y), ?_⟩
      rw [take_snoc hy]
      show _ = [_, _, _, _, _, some (V.int (gF 0 (List.take i (tops (lF 1 qs) qs) ++ [y]))), _]
      rw [gF_snoc]
      rfl
    rintro σ' H' ⟨rfl, o2, rfl⟩
    rw [hlen2, ← htl, List.take_length]
    have hg := gcdL_nonneg (tops (lF 1 qs) qs)
    have e03 : Ext H H' := e2.trans e3
    have low1 : ∀ h0 : gcdL (tops (lF 1 qs) qs) = 0, lowest qs = tops (lF 1 qs) qs := fun h0 => if_pos h0
    have low2 : ∀ h0 : ¬ gcdL (tops (lF 1 qs) qs) = 0, lowest qs = (tops (lF 1 qs) qs).map (· / gcdL (tops (lF 1 qs) qs)) := fun h0 => if_neg h0
    refine ⟨_, rfl, rfl, _, rfl, ite2 (fun hc => ?_) fun hc => ?_⟩
    · have h0 : gcdL (tops (lF 1 qs) qs) = 0 := V.int.inj (of_decide_eq_true hc)
      refine ⟨_, rfl, D2, _, rfl, .inl ⟨SqL.of hacc2, fun l hl => k _ _ (e03.upd' hl) ⟨l, rfl, SqT.of ?_⟩⟩⟩
      rw [upd_same, etops, low1 h0]
    · have h0 : ¬ gcdL (tops (lF 1 qs) qs) = 0 := fun z => hc (decide_eq_true (by rw [z]))
      have hmem : ∀ x ∈ tops (lF 1 qs) qs, x.natAbs < 2 ^ (n + (1 + 40 * d)) := fun x hx => tops_mem_lt hz h40 hx
      have hgl := gcd_mem_lt hmem
      refine ⟨_, rfl, D2, rfl, ⟨_, SqL.of hacc2⟩, fun D3 hD3 => lc_map (walk_list (K := K) (a := D2) (xs := acc2)) hD3 (fun i x => acc2[i]? = some x) yAt_of (fun i H v => ∃ q, (tops (lF 1 qs) qs)[i]? = some q ∧ v = .int (q / gcdL (tops (lF 1 qs) qs))) (by omega) (fun i H H' v e h => h) (fun H'' e => SqL.of (e _ _ hacc2)) (fun i x H4 Q4 hi hx e4 k4 => ?_) fun H4 acc3 e4 hacc3 hlen3 hrel3 => ?_⟩
      · rw [etops, List.getElem?_map] at hx
        obtain ⟨y, hy, rfl⟩ := Option.map_eq_some_iff.mp hx
        exact ⟨_, rfl, _, rfl, y, gcdL (tops (lF 1 qs) qs), rfl, rfl, wide_div (by omega) hgl (by omega) (by omega), k4 H4 _ (Ext.refl _) ⟨y, hy, rfl⟩⟩
      · rw [hlen2, ← htl] at hlen3 hrel3
        have e5 : acc3 = (lowest qs).map V.int := by
          rw [low2 h0, List.map_map]
          exact list_of_at hlen3 hrel3
        refine ⟨D3, _, rfl, .inl ⟨SqL.of hacc3, fun l hl => k _ _ ((e03.trans e4).upd' hl) ⟨l, rfl, SqT.of ?_⟩⟩⟩
        rw [upd_same, e5]
end
end K06


set_option Elab.async false
set_option linter.all false
set_option maxRecDepth 100000
set_option maxHeartbeats 4000000
/-! D4: rows in the heap; check_balls. -/
namespace K06
open PySem PySem.Spec PyProof.Rows L2
def ImmT : HO → Prop
  | .tup _ => True
  | .frz _ _ => True
  | _ => False
/-- tuples (and what is locked) stand -/
def ExtT (H H' : Hp) : Prop := ∀ b o, ImmT o → H b = some o → H' b = some o
theorem ExtI.t {H H' : Hp} (e : ExtI H H') : ExtT H H' := fun b o i h => e b o (by cases o <;> first | exact True.intro | exact i.elim) h
theorem Ext.t {H H' : Hp} (e : Ext H H') : ExtT H H' := fun b o _ h => e b o h
theorem ExtT.trans {H H1 H2 : Hp} (a : ExtT H H1) (b : ExtT H1 H2) : ExtT H H2 := fun c o i h => b c o i (a c o i h)
/-- all but an instance, a list stands -/
theorem But.t {x : Addr} {H H' : Hp} (e : But x H H') {u : HO} (hx : H x = some u) (n : ¬ ImmT u) : ExtT H H' := fun b o i h => e b o (fun z => by rw [z, hx] at h; cases h; exact n i) h
theorem But.i {x : Addr} {H H' : Hp} (e : But x H H') {u : HO} (hx : H x = some u) (n : ¬ Imm u) : ExtI H H' := fun b o i h => e b o (fun z => by rw [z, hx] at h; cases h; exact n i) h
section
variable {K : PySem.W.Frag} {H H' : Hp} {v : V} {q : Rat} {qs : List Rat} {xs : List V}
theorem sqT_t {a : Addr} (h : SqT K H a xs) (e : ExtT H H') : SqT K H' a xs :=
  h.elim (fun h => .inl (h.elim (fun h => .inl (e _ _ True.intro h)) fun ⟨o, h⟩ => .inr ⟨o, e _ _ True.intro h⟩)) fun h => .inr h
theorem Rt.monoT (h : Rt K H v q) (e : ExtT H H') : Rt K H' v q := by
  obtain ⟨p, rfl, h⟩ := h
  exact ⟨p, rfl, sqT_t h e⟩
theorem RtI.monoT (h : RtI K H v q) (e : ExtT H H') : RtI K H' v q := h.imp (fun h => h.monoT e) id
theorem Rts.monoT (h : Rts K H xs qs) (e : ExtT H H') : Rts K H' xs qs := Paired.mapP h fun _ _ r => Rt.monoT r e
theorem RtsI.monoT (h : RtsI K H xs qs) (e : ExtT H H') : RtsI K H' xs qs := Paired.mapP h fun _ _ r => RtI.monoT r e
/-- a tuple of told ratios -/
def RtT (K : PySem.W.Frag) (H : Hp) (a : Addr) (qs : List Rat) : Prop := ∃ xs, SqT K H a xs ∧ Rts K H xs qs
theorem RtT.monoT {a : Addr} (h : RtT K H a qs) (e : ExtT H H') : RtT K H' a qs := by
  obtain ⟨xs, h1, h2⟩ := h
  exact ⟨xs, sqT_t h1 e, h2.monoT e⟩
theorem sqE_but {x a : Addr} {u : HO} (h : SqE K H a xs) (e : But x H H') (hx : H x = some u) (n1 : ∀ ys, u ≠ .lst ys) (n2 : ∀ ys, u ≠ .tup ys) (n3 : ∀ o w, u ≠ .frz o w) : SqE K H' a xs := by
  have step : ∀ {a : Addr} {w : HO}, u ≠ w → H a = some w → H' a = some w := fun {a w} hn h => e a w (fun z => by rw [z, hx] at h; exact hn (Option.some.inj h)) h
  rcases h with ((h | ⟨o, h⟩) | h) | ((h | ⟨o, h⟩) | h)
  · exact .inl (.inl (.inl (step (n1 _) h)))
  · exact .inl (.inl (.inr ⟨o, step (n3 _ _) h⟩))
  · exact .inl (.inr h)
  · exact .inr (.inl (.inl (step (n2 _) h)))
  · exact .inr (.inl (.inr ⟨o, step (n3 _ _) h⟩))
  · exact .inr (.inr h)
end
/-- the fields of a row -/
structure RowFs (fs : List (Str × V)) (pw ps : Addr) (wall : Bool) : Prop where
  w : fs.lookup ("weights" : Str) = some (V.ref pw)
  s : fs.lookup ("speeds" : Str) = some (V.ref ps)
  l : fs.lookup ("wall" : Str) = some (V.bl wall)
  mh : fs.lookup ("heavier" : Str) = none
  mq : fs.lookup ("quicker" : Str) = none
  mu : fs.lookup ("hurried" : Str) = none
/-- at x a row stands -/
def RowAt (K : PySem.W.Frag) (C : Addr) (H : Hp) (x : Addr) (R : RV) : Prop :=
  ∃ (dx pw ps : Addr) (fs : List (Str × V)), H x = some (.ins C dx fs) ∧ RowFs fs pw ps R.wall ∧ SqT K H pw (R.ws.map V.int) ∧ RtT K H ps R.vs
theorem RowAt.mono {K : PySem.W.Frag} {C : Addr} {H H' : Hp} {x : Addr} {R : RV} (h : RowAt K C H x R) (e : ExtI H H') : RowAt K C H' x R := by
  obtain ⟨dx, pw, ps, fs, h1, h2, h3, h4⟩ := h
  exact ⟨dx, pw, ps, fs, e _ _ True.intro h1, h2, sqT_t h3 e.t, h4.monoT e.t⟩
/-- speeds that a row may be made of -/
def Szs (n d : Nat) (qs : List Rat) : Prop := ∀ q ∈ qs, Sz n d q
/-- what Row(..) is made of -/
structure RowIn (K : PySem.W.Frag) (H : Hp) (a b : Addr) (R : RV) : Prop where
  g : Good R
  ws : SqE K H a (R.ws.map V.int)
  vs : ∃ xs, SqE K H b xs ∧ RtsI K H xs R.vs
  sz : Szs 6000 100 R.vs
theorem iteB {b : Bool} {A B : Prop} (h : b = true) (x : A) : if b = true then A else B := by
  rw [if_pos h]
  exact x
theorem iteN {b : Bool} {A B : Prop} (h : b = false) (x : B) : if b = true then A else B := by
  rw [h, if_neg Bool.false_ne_true]
  exact x
theorem notB {b : Bool} (h : b = true) : (!b) = false := by rw [h]; rfl
section
variable {X : Cx} {e a b : Expr} {t t' : TE} {pos : Pos}
theorem pe_imp (h : PE X e t) (i : ∀ σ H Q, t' σ H Q → t σ H Q) : PE X e t' := ⟨fun pins s σ H Q I q => h.run pins s σ H Q I (i σ H Q q)⟩
/-- one constant or another, as one value -/
theorem pe_ifC {c : Expr} {tA : TT} {m n : V} (hc : PT X c tA) (ha : PE X a (tC m)) (hb : PE X b (tC n)) : PE X (.IfExp c a b pos) (fun σ H Q => tA σ H fun c H1 => Q (if c = true then m else n) H1) := by
  refine pe_imp (pe_ifExp hc ha hb) fun σ H Q q => ?_
  have e : (fun (c : Bool) (H1 : Hp) => if c = true then tC m σ H1 Q else tC n σ H1 Q) = fun c H1 => Q (if c = true then m else n) H1 := by
    funext c H1
    cases c <;> rfl
  show tA σ H (fun c H1 => if c = true then tC m σ H1 Q else tC n σ H1 Q)
  rw [e]
  exact q
theorem pe_neg1 {j : Nat} {p : Pos} : PE X (.UnaryOp .USub (.Constant (.int 1) j p) pos) (tC (.int (-1))) := pe_imp (pe_un un_neg pe_int) fun _ _ _ q => ⟨1, rfl, q⟩
end
theorem seq_ty {K : PySem.W.Frag} {H : Hp} {a : Addr} {xs : List V} (h : SqE K H a xs) : ∃ T, TyX K H (.ref a) (.type T) ∧ PySem.W.kitAny K (.type T) [.type "list", .type "tuple"] = some true := by
  rcases h with h | h
  · exact ⟨"list", ty_lst h, kitAny_cons (b := true) (kit_ty (by decide +kernel)) (fun z => nomatch z) fun _ => rfl⟩
  · exact ⟨"tuple", ty_tup h, kitAny_cons (b := false) (kit_ty (by decide +kernel)) (fun _ => kitAny_cons (b := true) (kit_ty (by decide +kernel)) (fun z => nomatch z) fun _ => rfl) fun z => nomatch z⟩
theorem tyx_ext {K : PySem.W.Frag} {H H' : Hp} {x : V} {t : Value} (h : TyX K H x t) (e : Ext H H') : TyX K H' x t := by
  cases h with
  | base h =>
    cases h with
    | non => exact .base .non
    | bl b => exact .base (.bl b)
    | int i => exact .base (.int i)
    | str z => exact .base (.str z)
    | flt z => exact .base (.flt z)
    | lst h => exact .base (.lst (e _ _ h))
    | frz h => exact .base (.frz (e _ _ h))
    | tup h => exact .base (.tup (e _ _ h))
    | dK h => exact .base (.dK (e _ _ h))
    | dT h => exact .base (.dT (e _ _ h))
    | ins h a b c d f => exact .base (.ins (e _ _ h) a b c d f)
  | byt b => exact .byt b
  | set h => exact .set (e _ _ h)
  | kList h c => exact .kList h c
  | kTuple h c => exact .kTuple h c
  | kDict h c => exact .kDict h c
  | fTuple h => exact .fTuple (e _ _ h)
  | fDict h => exact .fDict (e _ _ h)
theorem ix_of {K : PySem.W.Frag} {H : Hp} {a : Addr} {xs : List V} (h : SqE K H a xs) {i : Nat} {v : V} (hv : xs[i]? = some v) {Q : VK} (q : Q v H) : rIx K (.ref a) (.int (i : Int)) H Q := by
  rcases h with h | h
  · exact .inl ⟨a, xs, _, v, rfl, rfl, h, atI_nat hv, q⟩
  · exact .inr (.inl ⟨a, xs, _, v, rfl, rfl, h, atI_nat hv, q⟩)
theorem ix_seqK {X : Cx} (K : PySem.W.Frag) (h : X.K = K := by rfl) : IxR X (rIx K) := h ▸ ix_seq
theorem rngOk {n : Nat} (h : n ≤ 1000) : -(2 ^ 62) ≤ (n : Int) ∧ (n : Int) < 2 ^ 62 := ⟨by omega, by omega⟩
section
variable {P : Program} {w : World} {K : PySem.W.Frag} {mg : Str → Option Value} {base : Heap} {f : Addr} {fd : FuncData}
/-- the module's numbers -/
structure Nums (mg : Str → Option Value) : Prop where
  mb : ∃ t, mg "MOST_BALLS" = some (.int 40 t)
  mw : ∃ t, mg "MOST_WEIGHT" = some (.int 9 t)
/-! check_balls -/
abbrev sCheck : Stmt := top 21
def spCheck (K : PySem.W.Frag) : Sp := fun vs H Q _ => ∃ (a b : Addr) (R : RV), vs = [.ref a, .ref b, .bl R.wall] ∧ RowIn K H a b R ∧ ∀ H', Ext H H' → Q .non H'
theorem scCheck : FnScope ["weights", "speeds", "wall", "least", "ball"] ["weights", "speeds", "wall"] (defScope sCheck) := ⟨rfl, rfl, rfl, by decide +kernel, rfl, by decide +kernel, by decide +kernel⟩
theorem ok_check (F : FnP K "check_balls" "check_balls" sCheck [] f fd) (B : Blt mg) (M : Nums mg) (W : Def P w K mg base CX0 1 "is_whole" ["thing"] spWhole) (S : Def P w K mg base CX0 2 "is_ratio" ["thing"] (spRatio K)) : FnOk P w K mg base CX0 3 f fd ["weights", "speeds", "wall"] (spCheck K) := by
  refine F.ok scCheck (fun vs H Q E h => ?_) (fun cdv A outer s H vs Q E hr h => ?_)
  · obtain ⟨a, b, R, rfl, _⟩ := h
    rfl
  · obtain ⟨a, b, R, rfl, I, k⟩ := h
    obtain ⟨tb, mb⟩ := M.mb
    obtain ⟨tw, mw⟩ := M.mw
    have nd := scCheck.nd
    have isT : ∀ i : Nat, True := fun _ => trivial
    refine ⟨_, PSs.nox (pss_cons (ps_if (pt_not (pt_val (pe_callB call_isi (by rfl) B.isi (by decide +kernel) (pa_cons (pv 2) (pa_cons (pe_bltn (v := .ty "bool") (by rfl) B.bool (by decide +kernel) rfl) pa_nil))))) (pss_one ps_never) pss_nil)
      (pss_cons (ps_set (i := 3) nd rfl (.inl rfl) (pe_ifC (pt_val (pv 2)) pe_int pe_int))
      (pss_cons (ps_if (PW.pt (pw_or (pt_not (pt_val (pe_callB call_isiT (by rfl) B.isi (by decide +kernel) (pa_cons (pv 0) (pa_cons (pe_tup (pa_cons (pe_bltn (v := .ty "list") (by rfl) B.list (by decide +kernel) rfl) (pa_cons (pe_bltn (v := .ty "tuple") (by rfl) B.tuple (by decide +kernel) rfl) pa_nil))) pa_nil)))))
          (pw_or1 (pt_not (pt_chain op_le op_le (pv 3) (pe_callB call_len_seq (by rfl) B.len PySem.boot_len (pa_cons (pv 0) pa_nil)) (pe_glob (v := .int 40) rfl mb ⟨_, rfl⟩)))))) (pss_one ps_never) pss_nil)
      (pss_cons (ps_if (PW.pt (pw_or (pt_not (pt_val (pe_callB call_isiT (by rfl) B.isi (by decide +kernel) (pa_cons (pv 1) (pa_cons (pe_tup (pa_cons (pe_bltn (v := .ty "list") (by rfl) B.list (by decide +kernel) rfl) (pa_cons (pe_bltn (v := .ty "tuple") (by rfl) B.tuple (by decide +kernel) rfl) pa_nil))) pa_nil)))))
          (pw_or1 (pt_cmpR op_ne (pe_callB call_len_seq (by rfl) B.len PySem.boot_len (pa_cons (pv 1) pa_nil)) (pe_callB call_len_seq (by rfl) B.len PySem.boot_len (pa_cons (pv 0) pa_nil)) (nomark _))))) (pss_one ps_never) pss_nil)
      (pss_one (ps_for PassesOwn.never rfl (pi_range1 (by rfl) B.range (pa_cons (pe_callB call_len_seq (by rfl) B.len PySem.boot_len (pa_cons (pv 0) pa_nil)) pa_nil)) (pg_name (i := 4) nd rfl (Or.inl rfl))
        (pss_cons (ps_if (PW.pt (pw_or (pt_not (pt_val (pe_fn W (hr.mono (by decide)) (pa_cons (pe_ix ix_seq (pv 0) (pv 4) (fun _ _ => rfl)) pa_nil))))
            (pw_or1 (pt_not (pt_chain op_le op_le pe_int (pe_ix ix_seq (pv 0) (pv 4) (fun _ _ => rfl)) (pe_glob (v := .int 9) rfl mw ⟨_, rfl⟩)))))) (pss_one ps_never) pss_nil)
        (pss_one (ps_if (pt_not (pt_val (pe_fn S hr (pa_cons (pe_ix ix_seq (pv 1) (pv 4) (fun _ _ => rfl)) pa_nil)))) (pss_one ps_never) pss_nil))))))))), ?_⟩
    obtain ⟨xs, hs, hx⟩ := I.vs
    have g := I.g
    have lx : xs.length = R.ws.length := (Paired.len hx).trans g.len
    have lw : (R.ws.map V.int).length = R.ws.length := List.length_map ..
    refine ⟨_, rfl, .bl R.wall, .ty "bool", .type "bool", .type "bool", true, rfl, .ty _, .base (.bl _), kit_ty (by decide +kernel), true, rfl, iteF ?_⟩
    refine ⟨_, rfl, R.wall, rfl, ?_⟩
    obtain ⟨z, ez, hz⟩ : ∃ z : Int, (if R.wall = true then V.int 1 else V.int 2) = V.int z ∧ z ≤ (R.ws.length : Int) := by
      by_cases hw : R.wall = true
      · exact ⟨1, if_pos hw, by have := g.n1; omega⟩
      · exact ⟨2, if_neg hw, by have := g.n2 (by simpa using hw); omega⟩
    rw [ez]
    obtain ⟨T1, ty1, kt1⟩ := seq_ty I.ws
    obtain ⟨T2, ty2, kt2⟩ := seq_ty hs
    -- isinstance(weights, (list, tuple)), the number
    refine ⟨_, rfl, by show 2 ≤ sizeLine; decide, fun p hp => ⟨.ref a, p, _, _, _, true, rfl, upd_same, .cons (.ty _) (.cons (.ty _) .nil), tyx_ext ty1 (ext_new hp), kt1, true, rfl, iteF ?_⟩⟩
    have e1 : Ext H (upd H p (.tup [.ty "list", .ty "tuple"])) := ext_new hp
    refine ⟨_, rfl, _, rfl, a, _, rfl, I.ws.ext e1, z, _, rfl, rfl, decide (z ≤ (((R.ws.map V.int).length : Nat) : Int)), rfl, iteB (decide_eq_true (by rw [lw]; exact hz)) ?_⟩
    refine ⟨_, _, rfl, rfl, _, rfl, iteN (notB (decide_eq_true (by rw [lw]; have := g.n40; omega))) ?_⟩
    -- isinstance(speeds, ..), the number
    refine ⟨_, rfl, by show 2 ≤ sizeLine; decide, fun p2 hp2 => ⟨.ref b, p2, _, _, _, true, rfl, upd_same, .cons (.ty _) (.cons (.ty _) .nil), tyx_ext ty2 (e1.upd' hp2), kt2, true, rfl, iteF ?_⟩⟩
    have e2 : Ext H (upd (upd H p (.tup [.ty "list", .ty "tuple"])) p2 (.tup [.ty "list", .ty "tuple"])) := e1.upd' hp2
    refine ⟨_, rfl, b, _, rfl, hs.ext e2, _, rfl, a, _, rfl, I.ws.ext e2, rfl, _, rfl, iteN (notB (decide_eq_true (by rw [lx, lw]))) ?_⟩
    -- the balls
    refine ⟨_, rfl, a, _, rfl, I.ws.ext e2, _, rfl, (rngOk (by rw [lw]; have := g.n40; omega)).1, (rngOk (by rw [lw]; have := g.n40; omega)).2, for_range (lo := 0) (n := (((R.ws.map V.int).length : Nat) : Int).toNat) (fun i σ' H' => Ext H H' ∧ ∃ o, σ' = [some (.ref a), some (.ref b), some (.bl R.wall), some (.int z), o]) ⟨e2, _, rfl⟩ ?_ ?_⟩
    · rintro i σ' H' hi ⟨e3, o, rfl⟩
      have hi' : i < R.ws.length := by rw [lw] at hi; omega
      obtain ⟨wt, hwt⟩ := get_lt hi'
      obtain ⟨x, hxx⟩ := get_lt (show i < xs.length by omega)
      obtain ⟨q, hq, rq⟩ := paired_at hx hxx
      have hv : (R.ws.map V.int)[i]? = some (V.int wt) := by rw [List.getElem?_map, hwt]; rfl
      have w1 := g.w1 wt (List.mem_of_getElem? hwt)
      have w9 := g.w9 wt (List.mem_of_getElem? hwt)
      have e0 : (0 : Int) + (i : Int) = (i : Int) := Int.zero_add _
      rw [e0]
      refine ⟨_, rfl, _, rfl, ix_of (I.ws.ext e3) hv ⟨wt, rfl, true, rfl, iteF ?_⟩⟩
      refine ⟨_, rfl, _, rfl, ix_of (I.ws.ext e3) hv ⟨1, wt, rfl, rfl, _, rfl, iteB (decide_eq_true w1) ⟨wt, 9, rfl, rfl, _, rfl, iteN (notB (decide_eq_true w9)) ?_⟩⟩⟩
      refine ⟨_, rfl, _, rfl, ix_of (hs.ext e3) hxx ⟨x, q, rfl, rq.mono (Ext.imm e3), true, rfl, iteF ⟨e3, _, rfl⟩⟩⟩
    · rintro σ' H' ⟨e3, o, rfl⟩
      exact k H' e3
end
end K06


set_option Elab.async false
set_option linter.all false
set_option maxRecDepth 100000
set_option maxHeartbeats 4000000
/-! D5: Row.__init__. -/
namespace K06
open PySem PySem.Spec PyProof.Rows L2
local macro_rules | `(tactic| walk_at "lk") => `(tactic| (repeat (first | rw [lookup_putF, if_pos rfl] | rw [lookup_putF, if_neg (by decide +kernel)]); try rfl))
theorem putF_le {f : Str} {v : V} {fs : List (Str × V)} {k : Nat} (h : fs.length ≤ k) : (putF f v fs).length ≤ k + 1 := Nat.le_trans (length_putF f v fs) (Nat.succ_le_succ h)
theorem lt1000 {fs : List (Str × V)} {k : Nat} (h : fs.length ≤ k) (hk : k < 1000 := by decide) : fs.length < 1000 := Nat.lt_of_le_of_lt h hk
theorem but_upd {x : Addr} {H : Hp} {o : HO} : But x H (upd H x o) := fun b u n h => by rw [upd_ne n]; exact h
theorem callR_imp {X : Cx} {f : Value} {r r' : List V → Hp → VK → Prop} (h : CallR X f r) (i : ∀ vs H Q, r' vs H Q → r vs H Q) : CallR X f r' := fun pins s σ H vs us Q I rv q => h pins s σ H vs us Q I rv (i vs H Q q)
/-- tuple(..) of a list or a tuple -/
def rTup (K : PySem.W.Frag) : List V → Hp → VK → Prop := fun vs H Q => ∃ (a : Addr) (ys : List V), vs = [.ref a] ∧ SqE K H a ys ∧ ∀ H' p, Ext H H' → SqT K H' p ys → Q (.ref p) H'
theorem cr_tup {X : Cx} : CallR X (.type "tuple") (rTup X.K) := callR_imp call_tuple_of fun vs H Q h => by
  obtain ⟨a, ys, rfl, h, q⟩ := h
  rcases h with h | h
  · exact ⟨a, ys, rfl, .inl ⟨h, fun l hl => q _ _ (ext_new hl) (SqT.of upd_same)⟩⟩
  · exact ⟨a, ys, rfl, .inr ⟨h, q _ _ (Ext.refl _) h⟩⟩
/-- the class of rows -/
structure RowC (K : PySem.W.Frag) (mg : Str → Option Value) (C : Addr) : Prop where
  cl : Cls K C
  w : NoAttr K C "weights"
  s : NoAttr K C "speeds"
  l : NoAttr K C "wall"
  p : NoAttr K C "pairs"
  gc : NoAttr K C "gap_count"
  il : NoAttr K C "is_like"
  fs : NoAttr K C "first_sum"
  ss : NoAttr K C "second_sum"
  mg : mg "Row" = some (.ref C)
/-- sums of ratios, by turns -/
theorem sz0 {n d : Nat} (hn : 0 < n) (hd : 0 < d) : Sz n d 0 := ⟨by show (0 : Int).natAbs < _; exact Nat.two_pow_pos n, by show 1 < 2 ^ d; exact Nat.one_lt_two_pow (by omega), hn, hd⟩
theorem sz_step {a b i : Nat} {S q : Rat} (h : Sz (a + i * (b + 1) + 1) (1 + i * b) S) (g : Sz a b q) : Sz (a + (i + 1) * (b + 1) + 1) (1 + (i + 1) * b) (S + q) := by
  have z := h.add g (m := a + i * (b + 1) + 1 + b) (Nat.le_refl _) (by
    have : i * b ≤ i * (b + 1) := Nat.mul_le_mul_left i (Nat.le_succ b)
    omega)
  refine z.up ?_ ?_
  · rw [Nat.succ_mul]; omega
  · rw [Nat.succ_mul]; omega
/-- a row being made at x -/
structure St0 (K : PySem.W.Frag) (C dx x a pw ps : Addr) (R : RV) (H0 H : Hp) (fs : List (Str × V)) : Prop where
  hx : H x = some (.ins C dx fs)
  b : But x H0 H
  tw : SqT K H pw (R.ws.map V.int)
  ts : RtT K H ps R.vs
  ws : SqE K H a (R.ws.map V.int)
theorem St0.ext {K : PySem.W.Frag} {C dx x a pw ps : Addr} {R : RV} {H0 H H' : Hp} {fs : List (Str × V)} (S : St0 K C dx x a pw ps R H0 H fs) (e : Ext H H') : St0 K C dx x a pw ps R H0 H' fs := ⟨e _ _ S.hx, S.b.trans (Ext.but e), S.tw.ext e, S.ts.monoT (Ext.t e), S.ws.ext e⟩
theorem St0.put {K : PySem.W.Frag} {C dx x a pw ps : Addr} {R : RV} {H0 H : Hp} {fs fs' : List (Str × V)} (S : St0 K C dx x a pw ps R H0 H fs) : St0 K C dx x a pw ps R H0 (upd H x (.ins C dx fs')) fs' :=
  have t : ExtT H (upd H x (.ins C dx fs')) := But.t (x := x) but_upd S.hx id
  ⟨upd_same, S.b.trans but_upd, sqT_t S.tw t, S.ts.monoT t, sqE_but S.ws but_upd S.hx (fun _ z => nomatch z) (fun _ z => nomatch z) fun _ _ z => nomatch z⟩
theorem tup_put {K : PySem.W.Frag} {H : Hp} {x C dx pp : Addr} {ys : List V} {fs fs' : List (Str × V)} (hx : upd H pp (.tup ys) x = some (.ins C dx fs)) : SqT K (upd (upd H pp (.tup ys)) x (.ins C dx fs')) pp ys := sqT_t (SqT.of upd_same) (But.t (x := x) but_upd hx id)
theorem SqT.cast {K : PySem.W.Frag} {H : Hp} {a : Addr} {xs ys : List V} (e : xs = ys) (h : SqT K H a xs) : SqT K H a ys := e ▸ h
theorem rgV_len (z : Int) (n : Nat) (hz : z = -1 ∨ z = 0) (hn : n ≤ 40) : RgOk z ((n : Int) - 1) := ⟨by omega, by omega, by omega, by omega, by omega⟩
section
variable {P : Program} {w : World} {K : PySem.W.Frag} {mg : Str → Option Value} {base : Heap} {f C : Addr} {fd : FuncData}
abbrev sRInit : Stmt := inClass (top 22) 0
def spRowInit (K : PySem.W.Frag) (C : Addr) : Sp := fun vs H Q _ => ∃ (x dx a b : Addr) (R : RV), vs = [.ref x, .ref a, .ref b, .bl R.wall] ∧ H x = some (.ins C dx []) ∧ RowIn K H a b R ∧ ∀ H', But x H H' → RowAt K C H' x R → Q .non H'
theorem scRInit : FnScope ["self", "weights", "speeds", "wall", "speed", "first", "once", "twice", "weight"] ["self", "weights", "speeds", "wall"] (defScope sRInit) := ⟨rfl, rfl, rfl, by decide +kernel, rfl, by decide +kernel, by decide +kernel⟩
theorem ok_rinit {dvs : List V} (F : FnP K "__init__" "Row.__init__" sRInit dvs f fd) (B : Blt mg) (T : RowC K mg C) (Ck : Def P w K mg base CX0 3 "check_balls" ["weights", "speeds", "wall"] (spCheck K)) (O : Def P w K mg base CX0 3 "ratio_of" ["thing"] (spOf K))
    (Pl : Def P w K mg base CX0 4 "plus" ["one", "other"] (spPlus K)) (Ti : Def P w K mg base CX0 4 "times" ["one", "other"] (spTimes K)) : FnOk P w K mg base CX0 5 f fd ["self", "weights", "speeds", "wall"] (spRowInit K C) := by
  refine F.ok scRInit (fun vs H Q E h => ?_) (fun cdv A outer s H vs Q E hr h => ?_)
  · obtain ⟨x, dx, a, b, R, rfl, _⟩ := h
    rfl
  · obtain ⟨x, dx, a, b, R, rfl, hx, I, k⟩ := h
    have nd := scRInit.nd
    have hr3 : Room 3 _ := hr.mono (by decide)
    have hu := hu_of hr
    refine ⟨_, PSs.nox (pss_cons (ps_expr (pe_fn Ck hr3 (pa_cons (pv 1) (pa_cons (pv 2) (pa_cons (pv 3) pa_nil)))))
      (pss_cons (ps_fld (pv 0) (pe_callTy cr_tup (by rfl) B.tuple (by decide +kernel) (pa_cons (pv 1) pa_nil)) rfl)
      (pss_cons (ps_fld (pv 0) (pe_callTy cr_tup (by rfl) B.tuple (by decide +kernel) (pa_cons (pe_lc (own := [("speed", 4)]) (g := gName 4) (tt := tYes) rfl nd (pi_seq (pv 2)) (blkOk_by (N := ["self", "weights", "speeds", "wall", "speed", "first", "once", "twice", "weight"]) (sc := defScope sRInit) (by decide +kernel))
          (fun _ _ _ _ _ => pg_name (i := 4) nd rfl (Or.inl rfl)) (fun _ _ _ _ _ => pts_nil) (fun _ _ _ _ _ => pe_fn O hr3 (pa_cons (pv 4) pa_nil))) pa_nil)) rfl)
      (pss_cons (ps_fld (pv 0) (pv 3) rfl)
      (pss_cons (ps_set (i := 5) nd rfl (.inl rfl) (pe_ifC (pt_val (pv 3)) pe_neg1 pe_int))
      (pss_cons (ps_fld (pv 0) (pe_tupRg rfl rfl B.tuple (prg_2 rfl B.range (pv 5) (pe_op op_sub (pe_callB call_len_seq (by rfl) B.len PySem.boot_len (pa_cons (pv 1) pa_nil)) pe_int))) rfl)
      (pss_cons (ps_fld (pv 0) (pe_callB call_len_seq (by rfl) B.len PySem.boot_len (pa_cons (pe_fld (pv 0) rfl) pa_nil)) rfl)
      (pss_cons (ps_fld (pv 0) (pe_cmpR op_eq (pe_callB (cr_maxT rfl hu) (by rfl) B.max (by decide +kernel) (pa_cons (pe_fld (pv 0) rfl) pa_nil)) (pe_callB (cr_minT rfl hu) (by rfl) B.min (by decide +kernel) (pa_cons (pe_fld (pv 0) rfl) pa_nil)) (nomark _)) rfl)
      (pss_cons (ps_set (i := 6) nd rfl (.inl rfl) (pe_tup (pa_cons pe_int (pa_cons pe_int pa_nil))))
      (pss_cons (ps_set (i := 7) nd rfl (.inl rfl) (pe_tup (pa_cons pe_int (pa_cons pe_int pa_nil))))
      (pss_cons (ps_for PassesOwn.never rfl (RZ.pi_zipA (by rfl) B.zip (pa_cons (pe_fld (pv 0) rfl) (pa_cons (pe_fld (pv 0) rfl) pa_nil))) (pg_tup rfl (pgs_cons (pg_name (i := 8) nd rfl (.inl rfl)) (pgs_cons (pg_name (i := 4) nd rfl (.inl rfl)) pgs_nil)))
        (pss_cons (ps_set (i := 6) nd rfl (.inl rfl) (pe_fn Pl hr (pa_cons (pv 6) (pa_cons (pe_fn Ti hr (pa_cons (pv 8) (pa_cons (pv 4) pa_nil))) pa_nil))))
        (pss_one (ps_set (i := 7) nd rfl (.inl rfl) (pe_fn Pl hr (pa_cons (pv 7) (pa_cons (pe_fn Ti hr (pa_cons (pv 8) (pa_cons (pe_fn Ti hr (pa_cons (pv 4) (pa_cons (pv 4) pa_nil))) pa_nil))) pa_nil)))))))
      (pss_cons (ps_fld (pv 0) (pv 6) rfl) (pss_one (ps_fld (pv 0) (pv 7) rfl)))))))))))))), ?_⟩
    have g := I.g
    have lw : (R.ws.map V.int).length = R.ws.length := List.length_map ..
    -- check_balls
    refine ⟨_, rfl, _, rfl, _, rfl, a, b, R, rfl, I, fun H1 e1 => ?_⟩
    have hx1 := e1 _ _ hx
    -- self.weights
    refine ⟨_, rfl, a, _, rfl, I.ws.ext e1, fun H2 pw e2 tw => ?_⟩
    have hx2 := e2 _ _ hx1
    refine ⟨_, rfl, x, C, dx, _, rfl, hx2, T.cl, T.w, Nat.zero_lt_succ _, ?_⟩
    have b3 : But x H (upd H2 x (.ins C dx (putF "weights" (.ref pw) []))) := (Ext.but (Ext.trans e1 e2)).trans but_upd
    have l1 : (putF "weights" (V.ref pw) []).length ≤ 1 := putF_le (Nat.le_refl 0)
    generalize hH3 : upd H2 x (.ins C dx (putF "weights" (.ref pw) [])) = H3 at b3
    have hx3 : H3 x = some (.ins C dx (putF "weights" (.ref pw) [])) := by rw [← hH3]; exact upd_same
    have tw3 : SqT K H3 pw (R.ws.map V.int) := sqT_t tw (But.t (x := x) (by rw [← hH3]; exact but_upd) hx2 id)
    clear hH3
    -- self.speeds
    obtain ⟨xs, hs, hxs⟩ := I.vs
    have hs3 : SqE K H3 b xs := sqE_but hs b3 hx (fun _ z => nomatch z) (fun _ z => nomatch z) fun _ _ z => nomatch z
    have hxs3 : RtsI K H3 xs R.vs := hxs.monoT (b3.t hx id)
    have lx : xs.length = R.vs.length := Paired.len hxs
    refine ⟨_, rfl, b, xs, rfl, hs3, fun J wk D hD => lc_map wk hD (fun i x => xs[i]? = some x) yAt_of (fun i H v => ∃ q, R.vs[i]? = some q ∧ Rt K H v q) (by rw [lx, g.len]; have := g.n40; omega) (fun i H H' v e ⟨q, h1, h2⟩ => ⟨q, h1, h2.mono e⟩) (fun H' e o => e b o) (fun i y H4 Q4 hi hy e4 k4 => ?_) fun H4 acc e4 hacc hlen hrel => ?_⟩
    · obtain ⟨q, hq, rq⟩ := paired_at hxs3 hy
      exact ⟨_, rfl, y, q, rfl, rq.mono (Ext.imm e4), lt_up (I.sz q (List.mem_of_getElem? hq)).den (by decide), fun H5 v e5 r5 => k4 H5 v e5 ⟨q, hq, r5⟩⟩
    rw [lx] at hlen hrel
    have racc : Rts K H4 acc R.vs := rts_of_at hlen hrel
    refine ⟨D, acc, rfl, .inl (SqL.of hacc), fun H5 ps e5 ts => ?_⟩
    have e35 : Ext H3 H5 := e4.trans e5
    have hx5 := e35 _ _ hx3
    have r5 : RtT K H5 ps R.vs := ⟨acc, ts, racc.mono (Ext.imm e5)⟩
    have tw5 : SqT K H5 pw (R.ws.map V.int) := tw3.ext e35
    have b5 : But x H H5 := b3.trans (Ext.but e35)
    refine ⟨_, rfl, x, C, dx, _, rfl, hx5, T.cl, T.s, lt1000 l1, ?_⟩
    have S6 : St0 K C dx x a pw ps R H _ _ := (⟨hx5, b5, tw5, r5, sqE_but I.ws b5 hx (fun _ z => nomatch z) (fun _ z => nomatch z) fun _ _ z => nomatch z⟩ : St0 K C dx x a pw ps R H H5 _).put (fs' := putF "speeds" (.ref ps) (putF "weights" (.ref pw) []))
    have l2 := putF_le (f := "speeds") (v := .ref ps) l1
    -- self.wall
    refine ⟨_, rfl, _, rfl, x, C, dx, _, rfl, S6.hx, T.cl, T.l, lt1000 l2, ?_⟩
    have S7 := S6.put (fs' := putF "wall" (.bl R.wall) (putF "speeds" (.ref ps) (putF "weights" (.ref pw) [])))
    have l3 := putF_le (f := "wall") (v := .bl R.wall) l2
    -- first
    refine ⟨_, rfl, R.wall, rfl, ?_⟩
    obtain ⟨z, ez, hz⟩ : ∃ z : Int, (if R.wall = true then V.int (-1) else V.int 0) = V.int z ∧ (z = -1 ∨ z = 0) := by
      by_cases hw : R.wall = true
      · exact ⟨-1, if_pos hw, .inl rfl⟩
      · exact ⟨0, if_neg hw, .inr rfl⟩
    rw [ez]
    -- self.pairs
    have n40 := g.n40
    refine ⟨_, rfl, _, rfl, a, _, rfl, S7.ws, _, _, rfl, rfl, z, _, rfl, rfl, by rw [lw]; exact rgV_len z _ hz n40, fun pp hpp => ?_⟩
    have S8 := S7.ext (ext_new (o := .tup (rgV z (((R.ws.map V.int).length : Nat) - 1))) hpp)
    refine ⟨_, rfl, x, C, dx, _, rfl, S8.hx, T.cl, T.p, lt1000 l3, ?_⟩
    have S9 := S8.put (fs' := putF "pairs" (.ref pp) (putF "wall" (.bl R.wall) (putF "speeds" (.ref ps) (putF "weights" (.ref pw) []))))
    have l4 := putF_le (f := "pairs") (v := .ref pp) l3
    -- self.gap_count
    refine ⟨_, rfl, x, C, dx, _, _, rfl, S9.hx, T.cl, T.p, by walk_at "lk", pp, _, rfl, .inr (tup_put S8.hx), ?_⟩
    refine ⟨_, rfl, x, C, dx, _, rfl, S9.hx, T.cl, T.gc, lt1000 l4, ?_⟩
    generalize hgc : V.int (((rgV z (((R.ws.map V.int).length : Nat) - 1)).length : Nat) : Int) = gc
    have S10 := S9.put (fs' := putF "gap_count" gc (putF "pairs" (.ref pp) (putF "wall" (.bl R.wall) (putF "speeds" (.ref ps) (putF "weights" (.ref pw) [])))))
    have l5 := putF_le (f := "gap_count") (v := gc) l4
    clear hgc
    -- self.is_like
    obtain ⟨n0, ns, ews⟩ : ∃ n0 ns, R.ws = n0 :: ns := by
      have := g.n1
      cases h : R.ws with
      | nil => rw [h] at this; exact absurd this (by decide)
      | cons a b => exact ⟨a, b, rfl⟩
    have tw10 := SqT.cast (show R.ws.map V.int = (n0 :: ns).map V.int by rw [ews]) S10.tw
    refine ⟨_, rfl, x, C, dx, _, _, rfl, S10.hx, T.cl, T.w, by walk_at "lk", pw, n0, ns, rfl, tw10, fun m1 _ => ?_⟩
    refine ⟨_, rfl, x, C, dx, _, _, rfl, S10.hx, T.cl, T.w, by walk_at "lk", pw, n0, ns, rfl, tw10, fun m2 _ => ?_⟩
    refine ⟨rfl, _, rfl, x, C, dx, _, rfl, S10.hx, T.cl, T.il, lt1000 l5, ?_⟩
    generalize V.bl (decide (V.int m1 = V.int m2)) = il
    have S11 := S10.put (fs' := putF "is_like" il (putF "gap_count" gc (putF "pairs" (.ref pp) (putF "wall" (.bl R.wall) (putF "speeds" (.ref ps) (putF "weights" (.ref pw) []))))))
    have l6 := putF_le (f := "is_like") (v := il) l5
    generalize hfs : putF "is_like" il (putF "gap_count" gc (putF "pairs" (.ref pp) (putF "wall" (.bl R.wall) (putF "speeds" (.ref ps) (putF "weights" (.ref pw) []))))) = fs6 at S11 l6
    have L6 : RowFs fs6 pw ps R.wall := by
      subst hfs
      exact ⟨by walk_at "lk", by walk_at "lk", by walk_at "lk", by walk_at "lk", by walk_at "lk", by walk_at "lk"⟩
    -- once, twice
    refine ⟨by show 2 ≤ sizeLine; decide, fun p1 hp1 => ?_⟩
    refine ⟨by show 2 ≤ sizeLine; decide, fun p2 hp2 => ?_⟩
    have S12 := (S11.ext (ext_new (o := .tup [.int 0, .int 1]) hp1)).ext (ext_new (o := .tup [.int 0, .int 1]) hp2)
    -- the loop
    obtain ⟨ts, hts, rts⟩ := S12.ts
    have lts : (R.ws.map V.int).length = ts.length := by rw [lw, ← g.len]; exact (Paired.len rts).symm
    refine ⟨_, rfl, x, C, dx, _, _, rfl, S12.hx, T.cl, T.w, L6.w, _, rfl, x, C, dx, _, _, rfl, S12.hx, T.cl, T.s, L6.s, pw, ps, _, ts, rfl, .inr ⟨S12.tw, hts, ?_⟩⟩
    have q0 : ∀ {H : Hp} {p : Addr}, H p = some (.tup [.int 0, .int 1]) → Rt K H (.ref p) 0 := fun h => ⟨_, rfl, SqT.of h⟩
    refine RZ.for_zipT lts (fun i σ' H' => ∃ (o4 o8 : Option V) (v1 v2 : V) (S U : Rat), σ' = [some (.ref x), some (.ref a), some (.ref b), some (.bl R.wall), o4, some (.int z), some v1, some v2, o8] ∧ Rt K H' v1 S ∧ Sz (6004 + i * (101 + 1) + 1) (1 + i * 101) S ∧ Rt K H' v2 U ∧ Sz (12004 + i * (201 + 1) + 1) (1 + i * 201) U ∧ St0 K C dx x a pw ps R H H' fs6 ∧ SqT K H' ps ts ∧ Rts K H' ts R.vs)
      ⟨none, none, .ref p1, .ref p2, 0, 0, rfl, q0 ?_, sz0 (by decide) (by decide), q0 upd_same, sz0 (by decide) (by decide), S12, hts, rts⟩ (fun i σ' H' h => ?_) (fun i v1 v2 T' σ' H' e1' e2' h hT => ?_) fun σ' H' h => ?_
    · rw [upd_ne (ne_of_none upd_same hp2)]
      exact upd_same
    · obtain ⟨o4, o8, v1, v2, S, U, rfl, _, _, _, _, St, hs', _⟩ := h
      exact ⟨St.tw, hs'⟩
    · obtain ⟨o4, o8, u1, u2, S, U, rfl, r1, z1, r2, z2, St, hs', rs'⟩ := h
      obtain ⟨wt, hwt, rfl⟩ : ∃ wt, R.ws[i]? = some wt ∧ v1 = V.int wt := by
        rw [List.getElem?_map] at e1'
        cases h : R.ws[i]? with
        | none => rw [h] at e1'; cases e1'
        | some c => rw [h] at e1'; exact ⟨c, rfl, (Option.some.inj e1').symm⟩
      have hi : i < 40 := Nat.lt_of_lt_of_le (List.getElem?_eq_some_iff.mp hwt).1 n40
      obtain ⟨q, hq, rq⟩ := paired_at rs' e2'
      have w1 := g.w1 wt (List.mem_of_getElem? hwt)
      have w9 := g.w9 wt (List.mem_of_getElem? hwt)
      have zq := I.sz q (List.mem_of_getElem? hq)
      have zw : Sz 4 1 (wt : Rat) := sz_int (by show wt.natAbs < 16; omega) (by decide)
      have eT := ext_new (o := .tup [V.int wt, v2]) hT
      refine ⟨T', _, rfl, SqT.of upd_same, rfl, _, _, rfl, _, _, rfl, rfl, ?_⟩
      refine ⟨_, rfl, _, rfl, _, rfl, .int wt, v2, wt, q, rfl, ⟨RtI.int wt, .inl (rq.mono (Ext.imm eT)), 4, 1, 6000, 100, zw, zq, by decide, by decide⟩, fun Ha va ea ra => ?_⟩
      refine ⟨_, va, S, _, rfl, ⟨.inl (r1.mono (Ext.imm (Ext.trans eT ea))), .inl ra, _, _, 6004, 101, z1, zw.mul zq, by omega, by omega⟩, fun Hb vb eb rb => ?_⟩
      refine ⟨_, rfl, _, rfl, _, rfl, _, rfl, v2, v2, q, q, rfl, ⟨.inl (rq.mono (Ext.imm (Ext.trans (Ext.trans eT ea) eb))), .inl (rq.mono (Ext.imm (Ext.trans (Ext.trans eT ea) eb))), 6000, 100, 6000, 100, zq, zq, by decide, by decide⟩, fun Hc vc ec rc => ?_⟩
      refine ⟨.int wt, vc, wt, _, rfl, ⟨RtI.int wt, .inl rc, 4, 1, 12000, 200, zw, zq.mul zq, by decide, by decide⟩, fun Hd vd ed rd => ?_⟩
      have eA := Ext.trans (Ext.trans (Ext.trans (Ext.trans eT ea) eb) ec) ed
      refine ⟨_, vd, U, _, rfl, ⟨.inl (r2.mono (Ext.imm eA)), .inl rd, _, _, 12004, 201, z2, zw.mul (zq.mul zq), by omega, by omega⟩, fun He ve ee re => ?_⟩
      have eB := Ext.trans eA ee
      exact ⟨_, _, vb, ve, _, _, rfl, rb.mono (Ext.imm (Ext.trans (Ext.trans ec ed) ee)), sz_step z1 (zw.mul zq), re, sz_step z2 (zw.mul (zq.mul zq)), St.ext eB, hs'.ext eB, rs'.mono (Ext.imm eB)⟩
    · obtain ⟨o4, o8, u1, u2, S, U, rfl, r1, z1, r2, z2, St, hs', rs'⟩ := h
      refine ⟨_, rfl, _, rfl, x, C, dx, _, rfl, St.hx, T.cl, T.fs, lt1000 l6, ?_⟩
      have T1 := St.put (fs' := putF "first_sum" u1 fs6)
      have l7 := putF_le (f := "first_sum") (v := u1) l6
      refine ⟨_, rfl, _, rfl, x, C, dx, _, rfl, T1.hx, T.cl, T.ss, lt1000 l7, ?_⟩
      have T2 := T1.put (fs' := putF "second_sum" u2 (putF "first_sum" u1 fs6))
      refine k _ T2.b ⟨dx, pw, ps, _, T2.hx, ?_, T2.tw, T2.ts⟩
      have up : ∀ {n : Str}, n ≠ "second_sum" → n ≠ "first_sum" → (putF "second_sum" u2 (putF "first_sum" u1 fs6)).lookup n = fs6.lookup n := fun {n} h1 h2 => by rw [lookup_putF, if_neg h1, lookup_putF, if_neg h2]
      exact ⟨(up (by decide +kernel) (by decide +kernel)).trans L6.w, (up (by decide +kernel) (by decide +kernel)).trans L6.s, (up (by decide +kernel) (by decide +kernel)).trans L6.l, (up (by decide +kernel) (by decide +kernel)).trans L6.mh, (up (by decide +kernel) (by decide +kernel)).trans L6.mq, (up (by decide +kernel) (by decide +kernel)).trans L6.mu⟩
end
end K06


set_option Elab.async false
set_option linter.all false
set_option maxRecDepth 100000
set_option maxHeartbeats 2000000
/-! K06D: == of data, by shapes; makers. -/
namespace K06
open PySem PySem.Spec PyProof.Rows L2
/-- data of one shape: equal as data if equal -/
structure Shp {α : Type} (D : α → PyData) (k : Nat) : Prop where
  lay : ∀ a, (D a).canLay0 = true
  dep : ∀ a, (D a).depth ≤ k
  eq : ∀ a b, PyData.eqv (D a) (D b) = true ↔ a = b
section
variable {α β γ : Type} {D : α → PyData} {D2 : β → PyData} {D3 : γ → PyData} {k : Nat}
theorem layAll (S : Shp D k) : ∀ xs : List α, PyData.canLayAll0 (xs.map D) = true
  | [] => by simp only [List.map_nil, PyData.canLayAll0]
  | a :: r => by simp only [List.map_cons, PyData.canLayAll0, S.lay a, layAll S r, Bool.and_self]
theorem depAll (S : Shp D k) : ∀ xs : List α, PyData.depthAll (xs.map D) ≤ k
  | [] => by simp only [List.map_nil, PyData.depthAll]; exact Nat.zero_le _
  | a :: r => by simp only [List.map_cons, PyData.depthAll]; exact Nat.max_le.mpr ⟨S.dep a, depAll S r⟩
theorem eqAll (S : Shp D k) : ∀ xs ys : List α, PyData.eqvAll (xs.map D) (ys.map D) = true ↔ xs = ys
  | [], [] => by simp [PyData.eqvAll]
  | [], _ :: _ => by simp [PyData.eqvAll]
  | _ :: _, [] => by simp [PyData.eqvAll]
  | a :: r, b :: t => by simp only [List.map_cons, PyData.eqvAll, Bool.and_eq_true, S.eq a b, eqAll S r t, List.cons.injEq]
theorem shpInt : Shp PyData.int 0 := ⟨fun a => by simp only [PyData.canLay0], fun a => by simp only [PyData.depth]; exact Nat.le_refl 0, fun a b => by simp only [PyData.eqv, beq_iff_eq]⟩
theorem Shp.tup (S : Shp D k) : Shp (fun xs : List α => PyData.tuple (xs.map D)) (k + 1) := ⟨fun a => by simp only [PyData.canLay0]; exact layAll S a, fun a => by simp only [PyData.depth]; exact Nat.succ_le_succ (depAll S a), fun a b => by simp only [PyData.eqv]; exact eqAll S a b⟩
theorem Shp.lst (S : Shp D k) : Shp (fun xs : List α => PyData.list (xs.map D)) (k + 1) := ⟨fun a => by simp only [PyData.canLay0]; exact layAll S a, fun a => by simp only [PyData.depth]; exact Nat.succ_le_succ (depAll S a), fun a b => by simp only [PyData.eqv]; exact eqAll S a b⟩
theorem Shp.pair (S : Shp D k) (T : Shp D2 k) : Shp (fun p : α × β => PyData.tuple [D p.1, D2 p.2]) (k + 1) := ⟨fun a => by simp only [PyData.canLay0, PyData.canLayAll0, S.lay, T.lay, Bool.and_self],
  fun a => by simp only [PyData.depth, PyData.depthAll]; have := S.dep a.1; have := T.dep a.2; omega,
  fun a b => by simp only [PyData.eqv, PyData.eqvAll, Bool.and_eq_true, S.eq, T.eq, and_true, Prod.ext_iff]⟩
theorem Shp.comap (S : Shp D k) {f : β → α} (hf : ∀ a b, f a = f b → a = b) : Shp (fun b => D (f b)) k := ⟨fun a => S.lay _, fun a => S.dep _, fun a b => by rw [S.eq]; exact ⟨hf a b, fun e => by rw [e]⟩⟩
theorem Shp.up (S : Shp D k) {m : Nat} (h : k ≤ m) : Shp D m := ⟨S.lay, fun a => Nat.le_trans (S.dep a) h, S.eq⟩
theorem Shp.shaped (S : Shp D k) (h : k ≤ 64) (a : α) : SeqAt.shaped (D a) = true := by
  show ((D a).canLay0 && decide ((D a).depth ≤ 64)) = true
  rw [S.lay, decide_eq_true (Nat.le_trans (S.dep a) h)]
  rfl
end
def dRat (q : Rat) : PyData := .tuple ([q.num, (q.den : Int)].map PyData.int)
theorem shpRat : Shp dRat 1 := (shpInt.tup).comap (f := fun q : Rat => [q.num, (q.den : Int)]) fun a b e => by
  have h := List.cons.inj e
  have h2 := (List.cons.inj h.2).1
  exact Rat.ext h.1 (by exact_mod_cast h2)
def dInts (ns : List Int) : PyData := .tuple (ns.map PyData.int)
theorem shpInts : Shp dInts 1 := shpInt.tup
def dRats (qs : List Rat) : PyData := .tuple (qs.map dRat)
theorem shpRats : Shp dRats 2 := shpRat.tup
def dRatL (qs : List Rat) : PyData := .list (qs.map dRat)
theorem shpRatL : Shp dRatL 2 := shpRat.lst
def dBoth (p : List Int × List Rat) : PyData := .tuple [dInts p.1, dRats p.2]
theorem shpBoth : Shp dBoth 3 := (shpInts.up (by decide : 1 ≤ 2)).pair shpRats
def dKin (k : KV) : PyData := dRats [k.f, k.p, k.m]
theorem shpKin : Shp dKin 2 := shpRats.comap (f := fun k : KV => [k.f, k.p, k.m]) fun a b e => by
  cases a; cases b
  simp only [List.cons.injEq, and_true] at e
  obtain ⟨rfl, rfl, rfl⟩ := e
  rfl
section
variable {K : PySem.W.Frag} {H : Hp} {v x y : V} {q : Rat} {qs : List Rat} {xs : List V}
theorem dp_rat (h : Rt K H v q) : Dp K H v (dRat q) := by
  obtain ⟨p, rfl, h⟩ := h
  exact .tup h (dp_ints [q.num, (q.den : Int)])
theorem dp_intsT {a : Addr} {ns : List Int} (h : SqT K H a (ns.map V.int)) : Dp K H (.ref a) (dInts ns) := .tup h (dp_ints ns)
theorem dp_all : ∀ {xs : List V} {qs : List Rat}, Rts K H xs qs → DpAll K H xs (qs.map dRat)
  | _, _, .nil => .nil
  | _, _, .cons h t => .cons (dp_rat h) (dp_all t)
theorem dp_ratsT {a : Addr} (h : RtT K H a qs) : Dp K H (.ref a) (dRats qs) := by
  obtain ⟨xs, h1, h2⟩ := h
  exact .tup h1 (dp_all h2)
theorem dp_ratL {a : Addr} (h : SqL K H a xs) (r : Rts K H xs qs) : Dp K H (.ref a) (dRatL qs) := .lst h (dp_all r)
theorem eqd {α : Type} {D : α → PyData} {k : Nat} {Q : VK} (S : Shp D k) (hk : k ≤ 64) {a b : α} (h1 : Dp K H x (D a)) (h2 : Dp K H y (D b)) (q : ∀ c : Bool, (c = true ↔ a = b) → Q (.bl c) H) : rEqD K x y H Q := ⟨D a, D b, h1, h2, S.shaped hk a, S.shaped hk b, q _ (S.eq a b)⟩
theorem ned {α : Type} {D : α → PyData} {k : Nat} {Q : VK} (S : Shp D k) (hk : k ≤ 64) {a b : α} (h1 : Dp K H x (D a)) (h2 : Dp K H y (D b)) (q : ∀ c : Bool, (c = true ↔ a = b) → Q (.bl (!c)) H) : rNeD K x y H Q := ⟨D a, D b, h1, h2, S.shaped hk a, S.shaped hk b, q _ (S.eq a b)⟩
end
/-- what isinstance asks of an own class -/
structure InsC (K : PySem.W.Frag) (C : Addr) : Prop where
  cl : Cls K C
  ha : PySem.W.findIn K (.ref C) "__class__" = some (some (.builtin "object.__class__"))
  hn : PySem.W.specialIn K (.builtin "object.__class__") "__get__" = some (some (.builtin "getset_descriptor.__get__"))
  htk : PySem.W.takesIn K (.builtin "object.__class__") = some true
  hm : PySem.W.mroIn K C (.type "object") = some true
  me : PySem.W.kitOne K (.ref C) (.ref C) = some true
/-! ### makers, by what they promise -/
/-- a class that may be made by its name; sp: its __init__ -/
structure Mak (P : Program) (w : World) (K : PySem.W.Frag) (mg : Str → Option Value) (base : Heap) (k : Nat) (x : Str) (C : Addr) (sp : Sp) : Prop where
  ex : ∃ (f : Addr) (fd : FuncData) (ps : List Str), Mk K C f ∧ FnOk P w K mg base CX0 k f fd ps sp ∧ mg x = some (.ref C) ∧ Binds K fd ps []
section
variable {X : Cx} {k j : Nat} {C : Addr} {x : Str} {sp sp' : Sp} {p pos : Pos} {e : Expr} {es : List Expr} {t : TA}
theorem pe_mkI (c : Mak X.prog X.w X.K X.mg X.base k x C sp) (imp : ∀ vs H (Q : VK) (E : XK), sp' vs H Q E → ∀ x dx, H x = none → H dx = none → dx ≠ x → sp (.ref x :: vs) (upd (upd H dx (.own x)) x (.ins C dx [])) (fun v H2 => v = .non ∧ Q (.ref x) H2) E)
    (hr : Room j X.A) (hk : k + 1 ≤ j) (ha : PA X (e :: es) t) (hg : Gl X x := by rfl)
    (hdb : (x == ("__debug__" : Str)) = false := by decide) (he : starEach (e :: es) X.env = (false, eval e X.env) :: starEach es X.env := by rfl) (hpl : (backTo pos (starEach es X.env)).any (·.1) = false := by rfl) :
    PE X (.Call (.Name x p) (e :: es) [] pos) (tCall sp' [] E0 t) := by
  obtain ⟨f, fd, ps, M, F, hm, b⟩ := c.ex
  refine ⟨fun pins s σ H Q I h => ?_⟩
  refine wpAny_Call_Name_kw (ld_glob I hg hm ?_ hdb)
  refine PySem.W.callWith_K (h₀ := X.base) I.ok.mod.kin M.kp (thn (ha.run pos pins s σ H _ I h) fun us s1 ⟨vs, H1, I1, r, q⟩ => ⟨I1.kIn, ?_⟩) he hpl
  refine run_make (dvs := []) M F (hr.mono hk) b .nil pass0 I1 r ?_
  have q : sp' (vs ++ []) H1 Q E0 := q
  rw [List.append_nil] at q ⊢
  exact imp vs H1 Q E0 q
end
end K06


set_option Elab.async false
set_option linter.all false
set_option maxRecDepth 100000
set_option maxHeartbeats 4000000
/-! D6: Row(..), Row.__eq__, Kin(..), Kin.__eq__. -/
namespace K06
open PySem PySem.Spec PyProof.Rows L2
theorem Szs.up {n d n' d' : Nat} {qs : List Rat} (h : Szs n d qs) (hn : n ≤ n') (hd : d ≤ d') : Szs n' d' qs := fun q hq => (h q hq).up hn hd
/-- rows as the law makes them -/
structure Fit (R : RV) : Prop where
  g : Good R
  sz : Szs 100 60 R.vs
section
variable {P : Program} {w : World} {K : PySem.W.Frag} {mg : Str → Option Value} {base : Heap} {f C : Addr} {fd : FuncData}
def spRow (K : PySem.W.Frag) (C : Addr) : Sp := fun vs H Q _ => ∃ (a b : Addr) (R : RV), vs = [.ref a, .ref b, .bl R.wall] ∧ RowIn K H a b R ∧ gives (fun H' v => ∃ x, v = .ref x ∧ RowAt K C H' x R) H Q
theorem RowIn.ext {H H' : Hp} {a b : Addr} {R : RV} (I : RowIn K H a b R) (e : Ext H H') : RowIn K H' a b R := by
  obtain ⟨xs, h1, h2⟩ := I.vs
  exact ⟨I.g, I.ws.ext e, ⟨xs, h1.ext e, h2.mono (Ext.imm e)⟩, I.sz⟩
theorem ext_made {H : Hp} {x dx C : Addr} (hx : H x = none) (hd : H dx = none) (hn : dx ≠ x) : Ext H (upd (upd H dx (.own x)) x (.ins C dx [])) := fun b o h => by
  rw [upd_ne (ne_of_none h hx), upd_ne (ne_of_none h hd)]
  exact h
theorem row_made {vs : List V} {H : Hp} {Q : VK} {E : XK} (h : spRow K C vs H Q E) : ∀ x dx, H x = none → H dx = none → dx ≠ x → spRowInit K C (.ref x :: vs) (upd (upd H dx (.own x)) x (.ins C dx [])) (fun v H2 => v = .non ∧ Q (.ref x) H2) E := by
  obtain ⟨a, b, R, rfl, I, k⟩ := h
  intro x dx hx hd hn
  exact ⟨x, dx, a, b, R, rfl, upd_same, I.ext (ext_made hx hd hn), fun H' b' r => ⟨rfl, k _ _ (Same.made hx hd fun c o h n => b' c o n h) ⟨x, rfl, r⟩⟩⟩
/-! Row.__eq__ -/
abbrev sREq : Stmt := inClass (top 22) 2
def spRowEq (K : PySem.W.Frag) (C : Addr) : Sp := fun vs H Q _ => ∃ (x y : Addr) (R S : RV), vs = [.ref x, .ref y] ∧ RowAt K C H x R ∧ RowAt K C H y S ∧ ∀ c : Bool, (c = true ↔ R = S) → Q (.bl c) H
theorem scREq : FnScope ["self", "other"] ["self", "other"] (defScope sREq) := ⟨rfl, rfl, rfl, by decide +kernel, rfl, by decide +kernel, by decide +kernel⟩
theorem tyIns {H : Hp} {x C dx : Addr} {fs : List (Str × V)} (N : InsC K C) (h : H x = some (.ins C dx fs)) : TyX K H (.ref x) (.ref C) := .base (.ins h N.cl N.ha N.hn N.htk N.hm)
theorem ok_roweq (F : FnP K "__eq__" "Row.__eq__" sREq [] f fd) (B : Blt mg) (T : RowC K mg C) (N : InsC K C) : FnOk P w K mg base CX0 1 f fd ["self", "other"] (spRowEq K C) := by
  refine F.ok scREq (fun vs H Q E h => ?_) (fun cdv A outer s H vs Q E hr h => ?_)
  · obtain ⟨x, y, R, S, rfl, _⟩ := h
    rfl
  · obtain ⟨x, y, R, S, rfl, hR, hS, k⟩ := h
    have hu := hr.units
    refine ⟨_, PSs.nox (pss_one (ps_ret (pe_and (pe_callB call_isi (by rfl) B.isi (by decide +kernel) (pa_cons (pv 1) (pa_cons (pe_glob (v := .ref C) rfl T.mg rfl) pa_nil)))
      (pe_and (pe_cmpR (op_eqD hu) (pe_fld (pv 0) rfl) (pe_fld (pv 1) rfl) (nomark _))
      (pe_and (pe_cmpR (op_eqD hu) (pe_fld (pv 0) rfl) (pe_fld (pv 1) rfl) (nomark _))
      (pe_one (pe_cmpR op_eq (pe_fld (pv 0) rfl) (pe_fld (pv 1) rfl) (nomark _)))))))), ?_⟩
    obtain ⟨dx, pw, ps, fs, hx, fx, twx, tsx⟩ := hR
    obtain ⟨dy, qw, qs, gs, hy, fy, twy, tsy⟩ := hS
    refine ⟨_, rfl, .ref y, .ref C, .ref C, .ref C, true, rfl, .own C, tyIns N hy, N.me, true, rfl, iteT ?_⟩
    refine ⟨_, rfl, x, C, dx, _, _, rfl, hx, T.cl, T.w, fx.w, _, rfl, y, C, dy, _, _, rfl, hy, T.cl, T.w, fy.w, eqd shpInts (by decide) (dp_intsT twx) (dp_intsT twy) fun c1 h1 => ⟨c1, rfl, ite2 (fun hc => ?_) fun hc => ?_⟩⟩
    · refine ⟨_, rfl, x, C, dx, _, _, rfl, hx, T.cl, T.s, fx.s, _, rfl, y, C, dy, _, _, rfl, hy, T.cl, T.s, fy.s, eqd shpRats (by decide) (dp_ratsT tsx) (dp_ratsT tsy) fun c2 h2 => ⟨c2, rfl, ite2 (fun hc2 => ?_) fun hc2 => ?_⟩⟩
      · refine ⟨_, rfl, x, C, dx, _, _, rfl, hx, T.cl, T.l, fx.l, _, rfl, y, C, dy, _, _, rfl, hy, T.cl, T.l, fy.l, rfl, k _ ?_⟩
        have e1 := h1.mp hc
        have e2 := h2.mp hc2
        rw [decide_eq_true_iff]
        constructor
        · intro z
          cases R; cases S
          cases z; cases e1; cases e2
          rfl
        · rintro rfl
          rfl
      · exact k false ⟨fun z => Bool.noConfusion z, fun z => absurd (h2.mpr (by rw [z])) hc2⟩
    · exact k false ⟨fun z => Bool.noConfusion z, fun z => absurd (h1.mpr (by rw [z])) hc⟩
end
local macro_rules | `(tactic| walk_at "lk") => `(tactic| (repeat (first | rw [lookup_putF, if_pos rfl] | rw [lookup_putF, if_neg (by decide +kernel)]); try rfl))
/-! Kin -/
structure KinC (K : PySem.W.Frag) (mg : Str → Option Value) (C : Addr) : Prop where
  cl : Cls K C
  f : NoAttr K C "factor"
  p : NoAttr K C "pace"
  m : NoAttr K C "more"
  mg : mg "Kin" = some (.ref C)
def KinAt (K : PySem.W.Frag) (C : Addr) (H : Hp) (x : Addr) (k : KV) : Prop :=
  ∃ (dx : Addr) (fs : List (Str × V)) (f p m : V), H x = some (.ins C dx fs) ∧ (fs.lookup ("factor" : Str) = some f ∧ fs.lookup ("pace" : Str) = some p ∧ fs.lookup ("more" : Str) = some m) ∧ Rt K H f k.f ∧ Rt K H p k.p ∧ Rt K H m k.m
theorem KinAt.mono {K : PySem.W.Frag} {C : Addr} {H H' : Hp} {x : Addr} {k : KV} (h : KinAt K C H x k) (e : ExtI H H') : KinAt K C H' x k := by
  obtain ⟨dx, fs, f, p, m, h1, h2, h3, h4, h5⟩ := h
  exact ⟨dx, fs, f, p, m, e _ _ True.intro h1, h2, h3.mono e, h4.mono e, h5.mono e⟩
section
variable {P : Program} {w : World} {K : PySem.W.Frag} {mg : Str → Option Value} {base : Heap} {f C : Addr} {fd : FuncData}
abbrev sKInit : Stmt := inClass (top 24) 0
def spKinInit (K : PySem.W.Frag) (C : Addr) : Sp := fun vs H Q _ => ∃ (x dx : Addr) (a b c : V) (k : KV), vs = [.ref x, a, b, c] ∧ H x = some (.ins C dx []) ∧ Rt K H a k.f ∧ Rt K H b k.p ∧ Rt K H c k.m ∧ ∀ H', But x H H' → KinAt K C H' x k → Q .non H'
theorem scKInit : FnScope ["self", "factor", "pace", "more"] ["self", "factor", "pace", "more"] (defScope sKInit) := ⟨rfl, rfl, rfl, by decide +kernel, rfl, by decide +kernel, by decide +kernel⟩
theorem ok_kinit (F : FnP K "__init__" "Kin.__init__" sKInit [] f fd) (T : KinC K mg C) : FnOk P w K mg base CX0 1 f fd ["self", "factor", "pace", "more"] (spKinInit K C) := by
  refine F.ok scKInit (fun vs H Q E h => ?_) (fun cdv A outer s H vs Q E hr h => ?_)
  · obtain ⟨x, dx, a, b, c, k, rfl, _⟩ := h
    rfl
  · obtain ⟨x, dx, a, b, c, k, rfl, hx, ra, rb, rc, q⟩ := h
    refine ⟨_, PSs.nox (pss_cons (ps_fld (pv 0) (pv 1) rfl) (pss_cons (ps_fld (pv 0) (pv 2) rfl) (pss_one (ps_fld (pv 0) (pv 3) rfl)))), ?_⟩
    refine ⟨_, rfl, _, rfl, x, C, dx, _, rfl, hx, T.cl, T.f, lt1000 (Nat.le_refl 0), ?_⟩
    refine ⟨_, rfl, _, rfl, x, C, dx, _, rfl, upd_same, T.cl, T.p, lt1000 (putF_le (Nat.le_refl 0)), ?_⟩
    refine ⟨_, rfl, _, rfl, x, C, dx, _, rfl, upd_same, T.cl, T.m, lt1000 (putF_le (putF_le (Nat.le_refl 0))), ?_⟩
    have e : But x H (upd (upd (upd H x (.ins C dx (putF "factor" a []))) x (.ins C dx (putF "pace" b (putF "factor" a [])))) x (.ins C dx (putF "more" c (putF "pace" b (putF "factor" a []))))) := (but_upd.trans but_upd).trans but_upd
    have t := But.t e hx id
    exact q _ e ⟨dx, _, a, b, c, upd_same, ⟨by walk_at "lk", by walk_at "lk", by walk_at "lk"⟩, ra.monoT t, rb.monoT t, rc.monoT t⟩
def spKin (K : PySem.W.Frag) (C : Addr) : Sp := fun vs H Q _ => ∃ (a b c : V) (k : KV), vs = [a, b, c] ∧ Rt K H a k.f ∧ Rt K H b k.p ∧ Rt K H c k.m ∧ gives (fun H' v => ∃ x, v = .ref x ∧ KinAt K C H' x k) H Q
theorem kin_made {vs : List V} {H : Hp} {Q : VK} {E : XK} (h : spKin K C vs H Q E) : ∀ x dx, H x = none → H dx = none → dx ≠ x → spKinInit K C (.ref x :: vs) (upd (upd H dx (.own x)) x (.ins C dx [])) (fun v H2 => v = .non ∧ Q (.ref x) H2) E := by
  obtain ⟨a, b, c, k, rfl, ra, rb, rc, q⟩ := h
  intro x dx hx hd hn
  have e := Ext.imm (ext_made (C := C) hx hd hn)
  exact ⟨x, dx, a, b, c, k, rfl, upd_same, ra.mono e, rb.mono e, rc.mono e, fun H' b' r => ⟨rfl, q _ _ (Same.made hx hd fun c o h n => b' c o n h) ⟨x, rfl, r⟩⟩⟩
abbrev sKEq : Stmt := inClass (top 24) 1
def spKinEq (K : PySem.W.Frag) (C : Addr) : Sp := fun vs H Q _ => ∃ (x : Addr) (y : V) (k : KV), vs = [.ref x, y] ∧ KinAt K C H x k ∧ ((∃ (z : Addr) (l : KV), y = .ref z ∧ KinAt K C H z l ∧ ∀ c : Bool, (c = true ↔ k = l) → Q (.bl c) H) ∨ ∃ t, TyX K H y t ∧ PySem.W.kitOne K t (.ref C) = some false ∧ Q (.bl false) H)
theorem scKEq : FnScope ["self", "other"] ["self", "other"] (defScope sKEq) := ⟨rfl, rfl, rfl, by decide +kernel, rfl, by decide +kernel, by decide +kernel⟩
theorem ok_kineq (F : FnP K "__eq__" "Kin.__eq__" sKEq [] f fd) (B : Blt mg) (T : KinC K mg C) (N : InsC K C) : FnOk P w K mg base CX0 1 f fd ["self", "other"] (spKinEq K C) := by
  refine F.ok scKEq (fun vs H Q E h => ?_) (fun cdv A outer s H vs Q E hr h => ?_)
  · obtain ⟨x, y, k, rfl, _⟩ := h
    rfl
  · obtain ⟨x, y, k, rfl, hR, h⟩ := h
    have hu := hr.units
    refine ⟨_, PSs.nox (pss_one (ps_ret (pe_and (pe_callB call_isi (by rfl) B.isi (by decide +kernel) (pa_cons (pv 1) (pa_cons (pe_glob (v := .ref C) rfl T.mg rfl) pa_nil)))
      (pe_and (pe_cmpR (op_eqD hu) (pe_fld (pv 0) rfl) (pe_fld (pv 1) rfl) (nomark _))
      (pe_and (pe_cmpR (op_eqD hu) (pe_fld (pv 0) rfl) (pe_fld (pv 1) rfl) (nomark _))
      (pe_one (pe_cmpR (op_eqD hu) (pe_fld (pv 0) rfl) (pe_fld (pv 1) rfl) (nomark _)))))))), ?_⟩
    obtain ⟨dx, fs, a, b, c, hx, ⟨la, lb, lc⟩, ra, rb, rc⟩ := hR
    rcases h with ⟨z, l, rfl, hS, q⟩ | ⟨t, ty, kt, q⟩
    · obtain ⟨dz, gs, a', b', c', hz, ⟨la', lb', lc'⟩, ra', rb', rc'⟩ := hS
      refine ⟨_, rfl, .ref z, .ref C, .ref C, .ref C, true, rfl, .own C, tyIns N hz, N.me, true, rfl, iteT ?_⟩
      refine ⟨_, rfl, x, C, dx, _, _, rfl, hx, T.cl, T.f, la, _, rfl, z, C, dz, _, _, rfl, hz, T.cl, T.f, la', eqd shpRat (by decide) (dp_rat ra) (dp_rat ra') fun c1 h1 => ⟨c1, rfl, ite2 (fun hc => ?_) fun hc => ?_⟩⟩
      · refine ⟨_, rfl, x, C, dx, _, _, rfl, hx, T.cl, T.p, lb, _, rfl, z, C, dz, _, _, rfl, hz, T.cl, T.p, lb', eqd shpRat (by decide) (dp_rat rb) (dp_rat rb') fun c2 h2 => ⟨c2, rfl, ite2 (fun hc2 => ?_) fun hc2 => ?_⟩⟩
        · refine ⟨_, rfl, x, C, dx, _, _, rfl, hx, T.cl, T.m, lc, _, rfl, z, C, dz, _, _, rfl, hz, T.cl, T.m, lc', eqd shpRat (by decide) (dp_rat rc) (dp_rat rc') fun c3 h3 => q _ ?_⟩
          have e1 := h1.mp hc
          have e2 := h2.mp hc2
          rw [h3]
          constructor
          · intro z
            cases k; cases l
            cases z; cases e1; cases e2
            rfl
          · rintro rfl
            rfl
        · exact q false ⟨fun z => Bool.noConfusion z, fun z => absurd (h2.mpr (by rw [z])) hc2⟩
      · exact q false ⟨fun z => Bool.noConfusion z, fun z => absurd (h1.mpr (by rw [z])) hc⟩
    · exact ⟨_, rfl, y, .ref C, t, .ref C, false, rfl, .own C, ty, kt, false, rfl, iteF q⟩
end
end K06


set_option Elab.async false
set_option linter.all false
set_option maxRecDepth 100000
set_option maxHeartbeats 4000000
/-! D7: least_row, are_kin, pace_between, kin_of. -/
namespace K06
open PySem PySem.Spec PyProof.Rows L2
theorem castL_sz {m : Nat} {l : List Int} (h : ∀ x ∈ l, x.natAbs < 2 ^ m) (hm : 0 < m) : Szs m 1 (castL l) := fun q hq => by
  unfold castL at hq
  obtain ⟨x, hx, rfl⟩ := List.mem_map.mp hq
  exact sz_int (h x hx) hm
theorem v0_sz {R : RV} {n d : Nat} (g : Good R) (h : Szs n d R.vs) : Sz n d (v0 R) := by
  have l := g.len
  have n1 := g.n1
  unfold v0
  cases hv : R.vs with
  | nil => rw [hv] at l; simp at l; omega
  | cons a r =>
    have za := h a (by rw [hv]; exact List.mem_cons_self)
    by_cases hw : R.wall = true
    · rw [if_pos hw]
      exact sz0 za.n0 za.d0
    · rw [if_neg hw]
      exact za
theorem rested_sz {R : RV} {n d : Nat} (g : Good R) (h : Szs n d R.vs) : Szs (n + d + 1) (d + d) (rested R) := fun q hq => by
  unfold rested at hq
  obtain ⟨x, hx, rfl⟩ := List.mem_map.mp hq
  exact (h x hx).sub (v0_sz g h) (Nat.le_refl _) (Nat.le_refl _)
theorem v0_head {R : RV} (h : R.wall = false) {q : Rat} (hq : R.vs[0]? = some q) : v0 R = q := by
  unfold v0
  rw [h, if_neg (by decide)]
  cases hv : R.vs with
  | nil => rw [hv] at hq; cases hq
  | cons a r => rw [hv] at hq; exact Option.some.inj hq
section
variable {P : Program} {w : World} {K : PySem.W.Frag} {mg : Str → Option Value} {base : Heap} {f C : Addr} {fd : FuncData}
/-! least_row -/
abbrev sLeast : Stmt := top 25
def spLeast (K : PySem.W.Frag) (C : Addr) : Sp := fun vs H Q _ => ∃ (x : Addr) (R : RV) (n d : Nat), vs = [.ref x] ∧ RowAt K C H x R ∧ Good R ∧ Szs n d R.vs ∧ n + 81 * d + 3 ≤ 6000 ∧ gives (fun H' v => ∃ y, v = .ref y ∧ RowAt K C H' y (least R)) H Q
theorem scLeast : FnScope ["row", "common", "weight", "rested", "speed"] ["row"] (defScope sLeast) := ⟨rfl, rfl, rfl, by decide +kernel, rfl, by decide +kernel, by decide +kernel⟩
theorem ok_least (F : FnP K "least_row" "least_row" sLeast [] f fd) (B : Blt mg) (T : RowC K mg C) (Mr : Mak P w K mg base 5 "Row" C (spRowInit K C)) (Mi : Def P w K mg base CX0 4 "minus" ["one", "other"] (spMinus K))
    (L : Def P w K mg base CX0 4 "lowest_row" ["numbers"] (spLowRow K)) : FnOk P w K mg base CX0 7 f fd ["row"] (spLeast K C) := by
  refine F.ok scLeast (fun vs H Q E h => ?_) (fun cdv A outer s H vs Q E hr h => ?_)
  · obtain ⟨x, R, n, d, rfl, _⟩ := h
    rfl
  · obtain ⟨x, R, n, d, rfl, hR, g, hz, hb, k⟩ := h
    have nd := scLeast.nd
    have hr4 : Room 4 _ := hr.mono (by decide)
    refine ⟨_, PSs.nox (pss_cons (ps_set (i := 1) nd rfl (.inr rfl) pe_int)
      (pss_cons (ps_for PassesOwn.never rfl (pi_tup (pe_fld (pv 0) rfl)) (pg_name (i := 2) nd rfl (.inl rfl)) (pss_one (ps_set (i := 1) nd rfl (.inr rfl) (pe_callBfun cr_gcd rfl B.gcd (pa_cons (pv 1) (pa_cons (pv 2) pa_nil))))))
      (pss_cons (ps_set (i := 3) nd rfl (.inl rfl) (pe_fld (pv 0) rfl))
      (C8.pss_cut (ps_if (pt_not (pt_val (pe_fld (pv 0) rfl))) (pss_one (ps_setLc (i := 3) (own := [("speed", 4)]) (g := gName 4) (tt := tYes) rfl nd rfl rfl (sw_true rfl rfl rfl (by decide +kernel)) (pi_tup (pe_fld (pv 0) rfl)) (blkOk_by (N := ["row", "common", "weight", "rested", "speed"]) (sc := defScope sLeast) (by decide +kernel))
          (fun _ _ _ _ _ => pg_name (i := 4) nd rfl (Or.inl rfl)) (fun _ _ _ _ _ => pts_nil) (fun _ _ _ _ _ => pe_fn Mi hr4 (pa_cons (pv 4) (pa_cons (pe_ix (ix_tupK K) (pe_fldK K (pv 0) rfl) pe_int (fun _ _ => rfl)) pa_nil))))) pss_nil)
      (pss_one (ps_ret (pe_mkI Mr (fun _ _ _ _ => row_made) hr (by decide) (pa_cons (pe_lc (own := [("weight", 2)]) (g := gName 2) (tt := tYes) rfl nd (pi_tup (pe_fld (pv 0) rfl)) (blkOk_by (N := ["row", "common", "weight", "rested", "speed"]) (sc := defScope sLeast) (by decide +kernel))
          (fun _ _ _ _ _ => pg_name (i := 2) nd rfl (Or.inl rfl)) (fun _ _ _ _ _ => pts_nil) (fun _ _ _ _ _ => pe_op op_fdivS (pv 2) (pv 1)))
        (pa_cons (pe_fn L hr4 (pa_cons (pv 3) pa_nil)) (pa_cons (pe_fld (pv 0) rfl) pa_nil)))))))))), ?_⟩
    obtain ⟨dx, pw, ps, fs, hx, fx, tw, ts⟩ := hR
    obtain ⟨xs, txs, hxs⟩ := ts
    have n40 := g.n40
    have n1 := g.n1
    have len := g.len
    have lx : xs.length = R.vs.length := Paired.len hxs
    have gp := gcdW_pos g
    -- common
    refine ⟨_, rfl, x, C, dx, _, _, rfl, hx, T.cl, T.w, fx.w, pw, rfl, ⟨_, tw⟩, for_tup (K := K) (a := pw) (xs := R.ws.map V.int) (fun i σ' H' => H' = H ∧ ∃ o2, σ' = [some (.ref x), some (.int (gcdL (R.ws.take i))), o2, none, none]) ⟨rfl, _, rfl⟩ (fun i σ' H' _ h => by obtain ⟨rfl, _⟩ := h; exact tw) ?_ ?_⟩
    · rintro i v σ' H' hv ⟨rfl, o2, rfl⟩
      rw [List.getElem?_map] at hv
      obtain ⟨y, hy, rfl⟩ := Option.map_eq_some_iff.mp hv
      refine ⟨_, rfl, _, rfl, gcdL (R.ws.take i), y, rfl, rfl, some (.int y), ?_⟩
      rw [take_snoc hy]
      show _ = [_, some (V.int (gF 0 (List.take i R.ws ++ [y]))), _, _, _]
      rw [gF_snoc]
      rfl
    rintro σ' H' ⟨rfl, o2, rfl⟩
    rw [List.length_map, List.take_length]
    -- rested
    refine ⟨_, rfl, x, C, dx, _, _, rfl, hx, T.cl, T.s, fx.s, ?_⟩
    refine ⟨fun σ' H2 => ∃ (r : Addr) (rs : List V) (o4 : Option V), σ' = [some (.ref x), some (.int (gcdL R.ws)), o2, some (.ref r), o4] ∧ Ext H' H2 ∧ SqE K H2 r rs ∧ Rts K H2 rs (rested R), ?_, ?_⟩
    · refine ⟨_, rfl, x, C, dx, _, _, rfl, hx, T.cl, T.l, fx.l, R.wall, rfl, ?_⟩
      cases hw : R.wall with
      | true => exact iteF ⟨ps, xs, _, rfl, Ext.refl _, .inr txs, by rw [rested_wall hw]; exact hxs⟩
      | false =>
        obtain ⟨z, hz0⟩ := get_lt (show 0 < xs.length by rw [lx, len]; omega)
        obtain ⟨q0, hq0, rq0⟩ := paired_at hxs hz0
        have ev := v0_head hw hq0
        refine iteT ⟨_, rfl, x, C, dx, _, _, rfl, hx, T.cl, T.s, fx.s, ps, rfl, ⟨_, txs⟩, fun D hD => lc_map (walk_tup (K := K) (a := ps) (xs := xs)) hD (fun i x => xs[i]? = some x) yAt_of (fun i H v => ∃ q, (rested R)[i]? = some q ∧ Rt K H v q) (by omega) (fun i H H' v e ⟨q, h1, h2⟩ => ⟨q, h1, h2.mono e⟩) (fun H'' e => txs.ext e) (fun i v H3 Q3 hi hv e3 k3 => ?_) fun H3 acc e3 hacc hlen hrel => ?_⟩
        · obtain ⟨q, hq, rq⟩ := paired_at hxs hv
          refine ⟨_, rfl, _, rfl, x, C, dx, _, _, rfl, e3 _ _ hx, T.cl, T.s, fx.s, ps, _, _, _, rfl, rfl, txs.ext e3, atI_nat (j := 0) hz0, ?_⟩
          refine ⟨v, z, q, q0, rfl, ⟨.inl (rq.mono (Ext.imm e3)), .inl (rq0.mono (Ext.imm e3)), n, d, n, d, hz q (List.mem_of_getElem? hq), hz q0 (List.mem_of_getElem? hq0), by omega, by omega⟩, fun H4 v4 e4 r4 => k3 H4 v4 e4 ⟨q - q0, ?_, r4⟩⟩
          unfold rested
          rw [List.getElem?_map, hq, ev]
          rfl
        · have hl : acc.length = (rested R).length := by rw [hlen, rested_length]; exact lx
          exact ⟨D, acc, _, rfl, e3, .inl (SqL.of hacc), rts_of_at hl fun i hi => hrel i (by rw [lx, ← rested_length]; exact hi)⟩
    · rintro σ' H2 ⟨r, rs, o4, rfl, e2, hrs, rts⟩
      have lws : (R.ws.map V.int).length = R.ws.length := List.length_map ..
      refine ⟨_, rfl, x, C, dx, _, _, rfl, e2 _ _ hx, T.cl, T.w, fx.w, pw, rfl, ⟨_, tw.ext e2⟩, fun D hD => lc_map (walk_tup (K := K) (a := pw) (xs := R.ws.map V.int)) hD (fun i x => (R.ws.map V.int)[i]? = some x) yAt_of (fun i H v => ∃ y, R.ws[i]? = some y ∧ v = .int (y / gcdL R.ws)) (by omega) (fun i H H' v e h => h) (fun H'' e => (tw.ext e2).ext e) (fun i v H3 Q3 hi hv e3 k3 => ?_) fun H3 acc e3 hacc hlen hrel => ?_⟩
      · rw [List.getElem?_map] at hv
        obtain ⟨y, hy, rfl⟩ := Option.map_eq_some_iff.mp hv
        refine ⟨_, rfl, _, rfl, y, gcdL R.ws, rfl, rfl, ⟨by omega, log_lt (lt_up (gcd_mem_lt (m := 4) fun u hu => ?_) (by decide)) (by decide)⟩, k3 H3 _ (Ext.refl _) ⟨y, hy, ?_⟩⟩
        · have := g.w1 u hu
          have := g.w9 u hu
          show u.natAbs < 16
          omega
        · show V.int (y.fdiv (gcdL R.ws)) = _
          rw [Int.fdiv_eq_ediv_of_nonneg _ (by omega)]
      rw [lws] at hlen hrel
      have ew : acc = (leastW R.ws).map V.int := by
        unfold leastW
        rw [List.map_map]
        exact list_of_at hlen hrel
      subst ew
      have lr := rested_length R
      refine ⟨_, rfl, r, rs, rested R, n + d + 1, d + d, rfl, hrs.ext e3, rts.mono (Ext.imm e3), rested_sz g hz, by omega, by omega, fun H5 v5 e5 r5 => ?_⟩
      obtain ⟨p, rfl, tp⟩ := r5
      have e5' := Ext.trans (Ext.trans e2 e3) e5
      refine ⟨_, rfl, x, C, dx, _, _, rfl, e5' _ _ hx, T.cl, T.l, fx.l, ?_⟩
      have z0 := (rested_sz g hz _ (List.mem_of_getElem? (get_lt (l := rested R) (i := 0) (by omega)).choose_spec)).n0
      refine ⟨D, p, least R, rfl, ⟨least_good g, .inl (SqL.of (e5 _ _ hacc)), ⟨_, .inr tp, rtsI_ints _⟩, (castL_sz (fun u hu => lowest_mem_lt (rested_sz g hz) (by omega) hu) (by omega)).up (by omega) (by decide)⟩, fun H6 v6 e6 r6 => k H6 v6 (Ext.trans e5' e6) r6⟩
/-- the own == of a class -/
structure EqOf (P : Program) (w : World) (K : PySem.W.Frag) (mg : Str → Option Value) (base : Heap) (k : Nat) (C : Addr) (sp : Sp) : Prop where
  ex : ∃ (f : Addr) (fd : FuncData) (ps : List Str), FnOk P w K mg base CX0 k f fd ps sp ∧ PySem.W.findIn K (.ref C) "__eq__" = some (some (.ref f)) ∧ PySem.W.isFn K (.ref f) = true ∧ Binds K fd ps []
theorem op_eqOf {X : Cx} {k : Nat} {C : Addr} {sp : Sp} (e : EqOf X.prog X.w X.K X.mg X.base k C sp) (hr : Room k X.A) : OpR X (compareOp .Eq) (rOwnEq X.K C sp) := by
  obtain ⟨f, fd, ps, F, h1, h2, b⟩ := e.ex
  exact op_ownEq F hr h1 h2 b pass0
theorem notFirst_self {K : PySem.W.Frag} {C : Addr} : PySem.W.notFirst K C (.ref C) = true := by
  unfold PySem.W.notFirst
  rw [beq_self_eq_true]
  rfl
/-- the question of an own == of two rows -/
theorem eq_rows {K : PySem.W.Frag} {C x y : Addr} {R S : RV} {H : Hp} {Q : VK} (N : InsC K C) (hR : RowAt K C H x R) (hS : RowAt K C H y S) (q : ∀ c : Bool, (c = true ↔ R = S) → Q (.bl c) H) : rOwnEq K C (spRowEq K C) (.ref x) (.ref y) H Q := by
  have hR' := hR
  have hS' := hS
  obtain ⟨dx, _, _, fs, hx, _⟩ := hR'
  obtain ⟨dy, _, _, gs, hy, _⟩ := hS'
  exact ⟨x, dx, fs, .ref C, rfl, hx, tyIns N hy, notFirst_self, x, y, R, S, rfl, hR, hS, fun c hc => ⟨⟨c, rfl⟩, q c hc⟩⟩
/-! are_kin -/
abbrev sAre : Stmt := top 26
def spAre (K : PySem.W.Frag) (C : Addr) : Sp := fun vs H Q _ => ∃ (x y : Addr) (R S : RV), vs = [.ref x, .ref y] ∧ RowAt K C H x R ∧ RowAt K C H y S ∧ Fit R ∧ Fit S ∧ ∀ H' c, Ext H H' → (c = true ↔ least R = least S) → Q (.bl c) H'
theorem scAre : FnScope ["one", "other"] ["one", "other"] (defScope sAre) := ⟨rfl, rfl, rfl, by decide +kernel, rfl, by decide +kernel, by decide +kernel⟩
theorem ok_are (F : FnP K "are_kin" "are_kin" sAre [] f fd) (N : InsC K C) (L : Def P w K mg base CX0 7 "least_row" ["row"] (spLeast K C)) (Eq : EqOf P w K mg base 1 C (spRowEq K C)) : FnOk P w K mg base CX0 8 f fd ["one", "other"] (spAre K C) := by
  refine F.ok scAre (fun vs H Q E h => ?_) (fun cdv A outer s H vs Q E hr h => ?_)
  · obtain ⟨x, y, R, S, rfl, _⟩ := h
    rfl
  · obtain ⟨x, y, R, S, rfl, hR, hS, fR, fS, k⟩ := h
    refine ⟨_, PSs.nox (pss_one (ps_ret (pe_cmpR (op_eqOf Eq (hr.mono (by decide))) (pe_fn L hr (pa_cons (pv 0) pa_nil)) (pe_fn L hr (pa_cons (pv 1) pa_nil)) (nomark _)))), ?_⟩
    refine ⟨_, rfl, x, R, 100, 60, rfl, hR, fR.g, fR.sz, by decide, fun H1 v1 e1 r1 => ?_⟩
    obtain ⟨x1, rfl, r1⟩ := r1
    refine ⟨_, rfl, y, S, 100, 60, rfl, hS.mono (Ext.imm e1), fS.g, fS.sz, by decide, fun H2 v2 e2 r2 => ?_⟩
    obtain ⟨y1, rfl, r2⟩ := r2
    exact eq_rows N (r1.mono (Ext.imm e2)) r2 fun c hc => k H2 c (Ext.trans e1 e2) hc
/-! pace_between -/
abbrev sPace : Stmt := top 27
def spPace (K : PySem.W.Frag) : Sp := fun vs H Q _ => ∃ (a b : Addr) (xs ys : List V) (qs rs : List Rat) (n d : Nat), vs = [.ref a, .ref b] ∧ SqL K H a xs ∧ SqL K H b ys ∧ Rts K H xs qs ∧ Rts K H ys rs ∧ qs.length = rs.length ∧ Szs n d qs ∧ Szs n d rs ∧ n + d ≤ 4000 ∧
  gives (fun H' v => Rt K H' v (paceOf qs rs)) H Q
theorem scPace : FnScope ["one", "other", "left", "right"] ["one", "other"] (defScope sPace) := ⟨rfl, rfl, rfl, by decide +kernel, rfl, by decide +kernel, by decide +kernel⟩
theorem cmpR_zero (q : Rat) : cmpR q ((0 : Int) : Rat) = 0 ↔ q = 0 := by
  unfold cmpR
  have e : ((0 : Int) : Rat) = 0 := rfl
  rw [e]
  constructor
  · intro h
    split at h
    · cases h
    · split at h
      · cases h
      · rename_i h1 h2
        exact Rat.le_antisymm (Rat.not_lt.mp h2) (Rat.not_lt.mp h1)
  · rintro rfl
    simp
theorem pace_step {qs rs : List Rat} {i : Nat} {q r : Rat} (hq : qs[i]? = some q) (hr : rs[i]? = some r) : paceOf (qs.drop i) (rs.drop i) = if q = 0 then paceOf (qs.drop (i + 1)) (rs.drop (i + 1)) else r / q := by
  obtain ⟨h1, rfl⟩ := List.getElem?_eq_some_iff.mp hq
  obtain ⟨h2, rfl⟩ := List.getElem?_eq_some_iff.mp hr
  rw [List.drop_eq_getElem_cons h1, List.drop_eq_getElem_cons h2]
  rfl
theorem ok_pace (F : FnP K "pace_between" "pace_between" sPace [] f fd) (B : Blt mg) (Cm : Def P w K mg base CX0 4 "compare" ["one", "other"] (spCompare K)) (Ov : Def P w K mg base CX0 4 "over" ["one", "other"] (spOver K)) : FnOk P w K mg base CX0 5 f fd ["one", "other"] (spPace K) := by
  refine F.ok scPace (fun vs H Q E h => ?_) (fun cdv A outer s H vs Q E hr h => ?_)
  · obtain ⟨a, b, xs, ys, qs, rs, n, d, rfl, _⟩ := h
    rfl
  · obtain ⟨a, b, xs, ys, qs, rs, n, d, rfl, ha, hb, rx, ry, hl, zq, zr, hnd, k⟩ := h
    have nd := scPace.nd
    refine ⟨_, PSs.nox (pss_cons (ps_for PassesOwn.never rfl (RZ.pi_zipA (by rfl) B.zip (pa_cons (pv 0) (pa_cons (pv 1) pa_nil))) (pg_tup rfl (pgs_cons (pg_name (i := 2) nd rfl (.inl rfl)) (pgs_cons (pg_name (i := 3) nd rfl (.inl rfl)) pgs_nil)))
        (pss_one (ps_if (pt_cmpR op_ne (pe_fn Cm hr (pa_cons (pv 2) (pa_cons pe_int pa_nil))) pe_int (nomark _)) (pss_one (ps_ret (pe_fn Ov hr (pa_cons (pv 3) (pa_cons (pv 2) pa_nil))))) pss_nil)))
      (pss_one (ps_ret (pe_tup (pa_cons pe_int (pa_cons pe_int pa_nil)))))), ?_⟩
    have lx := Paired.len rx
    have ly := Paired.len ry
    refine ⟨_, rfl, _, rfl, a, b, xs, ys, rfl, .inl ⟨ha, hb, RZ.for_zipL (by omega) (fun i σ' H' => Ext H H' ∧ paceOf (qs.drop i) (rs.drop i) = paceOf qs rs ∧ ∃ o2 o3, σ' = [some (.ref a), some (.ref b), o2, o3]) ⟨Ext.refl _, rfl, _, _, rfl⟩ (fun i σ' H' h => ⟨ha.ext h.1, hb.ext h.1⟩) (fun i v1 v2 T' σ' H' e1' e2' h hT => ?_) fun σ' H' h => ?_⟩⟩
    · obtain ⟨e, hp, o2, o3, rfl⟩ := h
      obtain ⟨q, hq, rq⟩ := paired_at rx e1'
      obtain ⟨r, hr', rr⟩ := paired_at ry e2'
      have zq' := zq q (List.mem_of_getElem? hq)
      have zr' := zr r (List.mem_of_getElem? hr')
      have q0 := zq'.n0
      have eT := ext_new (o := .tup [v1, v2]) hT
      have e2 := Ext.trans e eT
      refine ⟨T', _, rfl, SqT.of upd_same, rfl, _, _, rfl, _, _, rfl, rfl, ?_⟩
      refine ⟨_, rfl, v1, .int 0, q, ((0 : Int) : Rat), rfl, ⟨.inl (rq.mono (Ext.imm e2)), RtI.int 0, n, d, 1, 1, zq', sz_int (by decide) (by decide), by omega, by omega⟩, fun H3 e3 => ?_⟩
      have eA := Ext.trans e2 e3
      refine ⟨rfl, _, rfl, ite2 (fun hc => ?_) fun hc => ?_⟩
      · have hne : q ≠ 0 := fun z => by
          rw [(cmpR_zero q).mpr z] at hc
          exact absurd hc (by decide)
        refine ⟨_, rfl, _, rfl, v2, v1, r, q, rfl, ⟨.inl (rr.mono (Ext.imm eA)), .inl (rq.mono (Ext.imm eA)), n, d, n, d, zr', zq', by omega, by omega⟩, hne, lt_up (imul_lt zr'.deni zq'.num) (by omega), fun H4 v4 e4 r4 => k H4 v4 (Ext.trans eA e4) ?_⟩
        rw [← hp, pace_step hq hr', if_neg hne]
        exact r4
      · have he : q = 0 := (cmpR_zero q).mp (by
          have : ¬ ((!decide (V.int (cmpR q ((0 : Int) : Rat)) = V.int 0)) = true) := hc
          simpa using this)
        refine ⟨eA, ?_, _, _, rfl⟩
        rw [pace_step hq hr', if_pos he] at hp
        exact hp
    · obtain ⟨e, hp, o2, o3, rfl⟩ := h
      refine ⟨by show 2 ≤ sizeLine; decide, fun p hp' => k _ _ (e.upd' hp') ⟨p, rfl, SqT.of ?_⟩⟩
      rw [upd_same, ← hp, lx, List.drop_length]
      rfl
/-- a value with a word behind it -/
theorem pe_cut {X : Cx} {e : Expr} {t : TE} (h : PE X e t) : PE X e (fun σ H Q => ∃ R : VK, t σ H R ∧ ∀ v H', R v H' → Q v H') := ⟨fun pins s σ H Q I ⟨R, h1, h2⟩ => thn (h.run pins s σ H R I h1) fun u s1 ⟨x, H1, I1, rx, q⟩ => ⟨x, H1, I1, rx, h2 _ _ q⟩⟩
theorem head_at {l : List Int} {y : Int} (h : l[0]? = some y) : l.headD 0 = y := by
  cases l with
  | nil => cases h
  | cons a r => exact Option.some.inj h
theorem pace_sz {n d : Nat} (hn : 1 ≤ n) (hd : 1 ≤ d) : ∀ {qs rs : List Rat}, Szs n d qs → Szs n d rs → Sz (n + d) (d + n) (paceOf qs rs)
  | [], _, _, _ => (sz_int (k := 1) (n := n + d) (Nat.lt_of_lt_of_le (by decide : (1 : Int).natAbs < 2 ^ 1) (pow_le (by omega))) (by omega)).up (Nat.le_refl _) (by omega)
  | _ :: _, [], _, _ => (sz_int (k := 1) (n := n + d) (Nat.lt_of_lt_of_le (by decide : (1 : Int).natAbs < 2 ^ 1) (pow_le (by omega))) (by omega)).up (Nat.le_refl _) (by omega)
  | q :: qs, r :: rs, h1, h2 => by
    show Sz (n + d) (d + n) (if q = 0 then paceOf qs rs else r / q)
    by_cases h : q = 0
    · rw [if_pos h]
      exact pace_sz hn hd (fun x hx => h1 x (List.mem_cons_of_mem _ hx)) fun x hx => h2 x (List.mem_cons_of_mem _ hx)
    · rw [if_neg h]
      exact (h2 r List.mem_cons_self).div (h1 q List.mem_cons_self) h
/-! kin_of -/
abbrev sKinOf : Stmt := top 28
def spKinOf (K : PySem.W.Frag) (C D : Addr) : Sp := fun vs H Q _ => ∃ (x y : Addr) (R S : RV), vs = [.ref x, .ref y] ∧ RowAt K C H x R ∧ RowAt K C H y S ∧ Fit R ∧ Fit S ∧ (least R ≠ least S → ∀ H', Ext H H' → Q .non H') ∧ (least R = least S → gives (fun H' v => ∃ z, v = .ref z ∧ KinAt K D H' z (kinOf R S)) H Q)
theorem scKinOf : FnScope ["one", "other", "start", "end", "pace", "speed"] ["one", "other"] (defScope sKinOf) := ⟨rfl, rfl, rfl, by decide +kernel, rfl, by decide +kernel, by decide +kernel⟩
theorem ok_kinof {D : Addr} (F : FnP K "kin_of" "kin_of" sKinOf [] f fd) (B : Blt mg) (T : RowC K mg C) (Ar : Def P w K mg base CX0 8 "are_kin" ["one", "other"] (spAre K C)) (Pc : Def P w K mg base CX0 5 "pace_between" ["one", "other"] (spPace K))
    (Mi : Def P w K mg base CX0 4 "minus" ["one", "other"] (spMinus K)) (Ti : Def P w K mg base CX0 4 "times" ["one", "other"] (spTimes K)) (Ov : Def P w K mg base CX0 4 "over" ["one", "other"] (spOver K)) (Mk : Mak P w K mg base 1 "Kin" D (spKinInit K D)) :
    FnOk P w K mg base CX0 9 f fd ["one", "other"] (spKinOf K C D) := by
  refine F.ok scKinOf (fun vs H Q E h => ?_) (fun cdv A outer s H vs Q E hr h => ?_)
  · obtain ⟨x, y, R, S, rfl, _⟩ := h
    rfl
  · obtain ⟨x, y, R, S, rfl, hR, hS, fR, fS, k1, k2⟩ := h
    have nd := scKinOf.nd
    have hr4 : Room 4 _ := hr.mono (by decide)
    refine ⟨_, PSs.nox (pss_cons (ps_if (pt_not (pt_val (pe_fn Ar hr (pa_cons (pv 0) (pa_cons (pv 1) pa_nil))))) (pss_one (ps_ret pe_non)) pss_nil)
      (pss_cons (ps_set (i := 2) nd rfl (.inr rfl) (pe_cut (pe_ifExp (pt_val (pe_fld (pv 0) rfl)) (pe_tup (pa_cons pe_int (pa_cons pe_int pa_nil))) (pe_ix ix_tup (pe_fld (pv 0) rfl) pe_int (fun _ _ => rfl)))))
      (pss_cons (ps_set (i := 3) nd rfl (.inr rfl) (pe_cut (pe_ifExp (pt_val (pe_fld (pv 0) rfl)) (pe_tup (pa_cons pe_int (pa_cons pe_int pa_nil))) (pe_ix ix_tup (pe_fld (pv 1) rfl) pe_int (fun _ _ => rfl)))))
      (pss_cons (ps_set (i := 4) nd rfl (.inl rfl) (pe_fn Pc (hr.mono (by decide)) (pa_cons (pe_lc (own := [("speed", 5)]) (g := gName 5) (tt := tYes) rfl nd (pi_tup (pe_fld (pv 0) rfl)) (blkOk_by (N := ["one", "other", "start", "end", "pace", "speed"]) (sc := defScope sKinOf) (by decide +kernel))
          (fun _ _ _ _ _ => pg_name (i := 5) nd rfl (Or.inl rfl)) (fun _ _ _ _ _ => pts_nil) (fun _ _ _ _ _ => pe_fn Mi hr4 (pa_cons (pv 5) (pa_cons (pv 2) pa_nil))))
        (pa_cons (pe_lc (own := [("speed", 5)]) (g := gName 5) (tt := tYes) rfl nd (pi_tup (pe_fld (pv 1) rfl)) (blkOk_by (N := ["one", "other", "start", "end", "pace", "speed"]) (sc := defScope sKinOf) (by decide +kernel))
          (fun _ _ _ _ _ => pg_name (i := 5) nd rfl (Or.inl rfl)) (fun _ _ _ _ _ => pts_nil) (fun _ _ _ _ _ => pe_fn Mi hr4 (pa_cons (pv 5) (pa_cons (pv 3) pa_nil)))) pa_nil))))
      (pss_one (ps_ret (pe_mkI Mk (fun _ _ _ _ => kin_made) hr (by decide) (pa_cons (pe_fn Ov hr4 (pa_cons (pe_ix ix_tup (pe_fld (pv 1) rfl) pe_int (fun _ _ => rfl)) (pa_cons (pe_ix ix_tup (pe_fld (pv 0) rfl) pe_int (fun _ _ => rfl)) pa_nil)))
        (pa_cons (pv 4) (pa_cons (pe_fn Mi hr4 (pa_cons (pv 3) (pa_cons (pe_fn Ti hr4 (pa_cons (pv 4) (pa_cons (pv 2) pa_nil))) pa_nil))) pa_nil)))))))))), ?_⟩
    refine ⟨_, rfl, _, rfl, x, y, R, S, rfl, hR, hS, fR, fS, fun H1 c e1 hc => ⟨c, rfl, ite2 (fun hn => ?_) fun hn => ?_⟩⟩
    · exact k1 (fun z => by rw [hc.mpr z] at hn; cases hn) H1 e1
    have hl : least R = least S := hc.mp (by cases c with | true => rfl | false => exact absurd rfl hn)
    have k2 := k2 hl
    have gR := fR.g
    have gS := fS.g
    have lw := least_wall hl
    have ll := least_len hl
    have len := gR.len
    have len' := gS.len
    have n1 := gR.n1
    have n40 := gR.n40
    obtain ⟨dx, pw, ps, fs, hx, fx, tw, ts⟩ := hR.mono (Ext.imm e1)
    obtain ⟨xs, txs, hxs⟩ := ts
    obtain ⟨dy, qw, qs, gs, hy, fy, uw, us⟩ := hS.mono (Ext.imm e1)
    obtain ⟨ys, tys, hys⟩ := us
    have lx := Paired.len hxs
    have ly := Paired.len hys
    obtain ⟨x0, hx0⟩ := get_lt (show 0 < xs.length by omega)
    obtain ⟨q0, hq0, rq0⟩ := paired_at hxs hx0
    obtain ⟨y0, hy0⟩ := get_lt (show 0 < ys.length by omega)
    obtain ⟨r0, hr0, rr0⟩ := paired_at hys hy0
    -- start
    refine ⟨fun v H' => Ext H1 H' ∧ Rt K H' v (v0 R), ?_, fun v1 H2 h2 => ?_⟩
    · refine ⟨_, rfl, x, C, dx, _, _, rfl, hx, T.cl, T.l, fx.l, R.wall, rfl, ?_⟩
      cases hw : R.wall with
      | true =>
        refine iteT ⟨by show 2 ≤ sizeLine; decide, fun p hp => ⟨ext_new hp, p, rfl, SqT.of ?_⟩⟩
        rw [upd_same]
        unfold v0
        rw [hw, if_pos rfl]
        rfl
      | false => exact iteF ⟨_, rfl, x, C, dx, _, _, rfl, hx, T.cl, T.s, fx.s, ps, _, _, _, rfl, rfl, txs, atI_nat (j := 0) hx0, Ext.refl _, by rw [v0_head hw hq0]; exact rq0⟩
    obtain ⟨e2, rs⟩ := h2
    -- end
    refine ⟨fun v H' => Ext H2 H' ∧ Rt K H' v (v0 S), ?_, fun v2 H3 h3 => ?_⟩
    · refine ⟨_, rfl, x, C, dx, _, _, rfl, e2 _ _ hx, T.cl, T.l, fx.l, R.wall, rfl, ?_⟩
      rw [lw]
      cases hw : S.wall with
      | true =>
        refine iteT ⟨by show 2 ≤ sizeLine; decide, fun p hp => ⟨ext_new hp, p, rfl, SqT.of ?_⟩⟩
        rw [upd_same]
        unfold v0
        rw [hw, if_pos rfl]
        rfl
      | false => exact iteF ⟨_, rfl, y, C, dy, _, _, rfl, e2 _ _ hy, T.cl, T.s, fy.s, qs, _, _, _, rfl, rfl, tys.ext e2, atI_nat (j := 0) hy0, Ext.refl _, by rw [v0_head hw hr0]; exact rr0.mono (Ext.imm e2)⟩
    obtain ⟨e3, re⟩ := h3
    have e13 := Ext.trans e2 e3
    have rs := rs.mono (Ext.imm e3)
    have zR := v0_sz gR fR.sz
    have zS := v0_sz gS fS.sz
    have resR := rested_sz gR fR.sz
    have resS := rested_sz gS fS.sz
    -- the rested speeds
    refine ⟨_, rfl, x, C, dx, _, _, rfl, e13 _ _ hx, T.cl, T.s, fx.s, ps, rfl, ⟨_, txs.ext e13⟩, fun D1 hD1 => lc_map (walk_tup (K := K) (a := ps) (xs := xs)) hD1 (fun i x => xs[i]? = some x) yAt_of (fun i H v => ∃ q, (rested R)[i]? = some q ∧ Rt K H v q) (by omega) (fun i H H' v e ⟨q, h1, h2⟩ => ⟨q, h1, h2.mono e⟩) (fun H'' e => (txs.ext e13).ext e) (fun i v H4 Q4 hi hv e4 k4 => ?_) fun H4 acc e4 hacc hlen hrel => ?_⟩
    · obtain ⟨q, hq, rq⟩ := paired_at hxs hv
      refine ⟨_, rfl, _, rfl, v, v1, q, v0 R, rfl, ⟨.inl (rq.mono (Ext.imm (Ext.trans e13 e4))), .inl (rs.mono (Ext.imm e4)), 100, 60, 100, 60, fR.sz q (List.mem_of_getElem? hq), zR, by decide, by decide⟩, fun H5 v5 e5 r5 => k4 H5 v5 e5 ⟨q - v0 R, ?_, r5⟩⟩
      unfold rested
      rw [List.getElem?_map, hq]
      rfl
    have racc : Rts K H4 acc (rested R) := rts_of_at (by rw [hlen, rested_length]; exact lx) fun i hi => hrel i (by rw [lx, ← rested_length]; exact hi)
    have e14 := Ext.trans e13 e4
    refine ⟨_, rfl, y, C, dy, _, _, rfl, e14 _ _ hy, T.cl, T.s, fy.s, qs, rfl, ⟨_, tys.ext e14⟩, fun D2 hD2 => lc_map (walk_tup (K := K) (a := qs) (xs := ys)) hD2 (fun i x => ys[i]? = some x) yAt_of (fun i H v => ∃ q, (rested S)[i]? = some q ∧ Rt K H v q) (by omega) (fun i H H' v e ⟨q, h1, h2⟩ => ⟨q, h1, h2.mono e⟩) (fun H'' e => (tys.ext e14).ext e) (fun i v H5 Q5 hi hv e5 k5 => ?_) fun H5 acc2 e5 hacc2 hlen2 hrel2 => ?_⟩
    · obtain ⟨q, hq, rq⟩ := paired_at hys hv
      refine ⟨_, rfl, _, rfl, v, v2, q, v0 S, rfl, ⟨.inl (rq.mono (Ext.imm (Ext.trans e14 e5))), .inl (re.mono (Ext.imm (Ext.trans e4 e5))), 100, 60, 100, 60, fS.sz q (List.mem_of_getElem? hq), zS, by decide, by decide⟩, fun H6 v6 e6 r6 => k5 H6 v6 e6 ⟨q - v0 S, ?_, r6⟩⟩
      unfold rested
      rw [List.getElem?_map, hq]
      rfl
    have racc2 : Rts K H5 acc2 (rested S) := rts_of_at (by rw [hlen2, rested_length]; exact ly) fun i hi => hrel2 i (by rw [ly, ← rested_length]; exact hi)
    have e15 := Ext.trans e14 e5
    -- pace
    refine ⟨D1, D2, acc, acc2, rested R, rested S, 161, 120, rfl, SqL.of (e5 _ _ hacc), SqL.of hacc2, racc.mono (Ext.imm e5), racc2, by rw [rested_length, rested_length]; omega, resR, resS, by decide, fun H6 v6 e6 r6 => ?_⟩
    have e16 := Ext.trans e15 e6
    have zp : Sz 281 281 (paceOf (rested R) (rested S)) := pace_sz (by decide) (by decide) resR resS
    obtain ⟨a0, ha0⟩ := get_lt (show 0 < R.ws.length by omega)
    obtain ⟨b0, hb0⟩ := get_lt (show 0 < S.ws.length by omega)
    have av : (R.ws.map V.int)[0]? = some (V.int a0) := by rw [List.getElem?_map, ha0]; rfl
    have bv : (S.ws.map V.int)[0]? = some (V.int b0) := by rw [List.getElem?_map, hb0]; rfl
    have a1 := gR.w1 a0 (List.mem_of_getElem? ha0)
    have a9 := gR.w9 a0 (List.mem_of_getElem? ha0)
    have b1 := gS.w1 b0 (List.mem_of_getElem? hb0)
    have b9 := gS.w9 b0 (List.mem_of_getElem? hb0)
    have za : Sz 4 1 (a0 : Rat) := sz_int (by show a0.natAbs < 16; omega) (by decide)
    have zb : Sz 4 1 (b0 : Rat) := sz_int (by show b0.natAbs < 16; omega) (by decide)
    refine ⟨_, rfl, y, C, dy, _, _, rfl, e16 _ _ hy, T.cl, T.w, fy.w, qw, _, _, _, rfl, rfl, uw.ext e16, atI_nat (j := 0) bv, _, rfl, x, C, dx, _, _, rfl, e16 _ _ hx, T.cl, T.w, fx.w, pw, _, _, _, rfl, rfl, tw.ext e16, atI_nat (j := 0) av, ?_⟩
    refine ⟨.int b0, .int a0, b0, a0, rfl, ⟨RtI.int b0, RtI.int a0, 4, 1, 4, 1, zb, za, by decide, by decide⟩, ?_, lt_up (imul_lt zb.deni za.num) (by decide), fun H7 v7 e7 r7 => ?_⟩
    · intro z
      have : (a0 : Rat) = ((0 : Int) : Rat) := z
      have := Rat.intCast_inj.mp this
      omega
    refine ⟨_, rfl, _, rfl, _, rfl, _, rfl, v6, v1, paceOf (rested R) (rested S), v0 R, rfl, ⟨.inl (r6.mono (Ext.imm e7)), .inl (rs.mono (Ext.imm (Ext.trans (Ext.trans (Ext.trans e4 e5) e6) e7))), 281, 281, 100, 60, zp, zR, by decide, by decide⟩, fun H8 v8 e8 r8 => ?_⟩
    refine ⟨v2, v8, v0 S, _, rfl, ⟨.inl (re.mono (Ext.imm (Ext.trans (Ext.trans (Ext.trans (Ext.trans e4 e5) e6) e7) e8))), .inl r8, 100, 60, 381, 341, zS, zp.mul zR, by decide, by decide⟩, fun H9 v9 e9 r9 => ?_⟩
    refine ⟨v7, v6, v9, kinOf R S, rfl, ?_, r6.mono (Ext.imm (Ext.trans (Ext.trans e7 e8) e9)), r9, fun H10 v10 e10 r10 => k2 H10 v10 (Ext.trans (Ext.trans (Ext.trans (Ext.trans (Ext.trans e1 e16) e7) e8) e9) e10) r10⟩
    show Rt K H9 v7 (((S.ws.headD 0 : Int) : Rat) / ((R.ws.headD 0 : Int) : Rat))
    rw [head_at ha0, head_at hb0]
    exact r7.mono (Ext.imm (Ext.trans e8 e9))
end
end K06


set_option Elab.async false
set_option linter.all false
set_option maxRecDepth 100000
set_option maxHeartbeats 4000000
/-! D8: BadRow.__init__, hurried, quicker, heavier, lead_along. -/
namespace K06
open PySem PySem.Spec PyProof.Rows L2
/-- a method by its name -/
structure MetE (P : Program) (w : World) (K : PySem.W.Frag) (mg : Str → Option Value) (base : Heap) (CX : CXT) (k : Nat) (C : Addr) (m : Str) (sp : Sp) : Prop where
  ex : ∃ (f : Addr) (fd : FuncData) (ps : List Str), Cls K C ∧ Meth K C m f ∧ FnOk P w K mg base CX k f fd ps sp ∧ Binds K fd ps []
theorem pe_mt {X : Cx} {CX : CXT} {k : Nat} {C : Addr} {m : Str} {sp : Sp} {E : XK} {o e : Expr} {es : List Expr} {ta : TE} {t : TA} {apos pos : Pos} {pl : Sem Bool} (c : MetE X.prog X.w X.K X.mg X.base CX k C m sp) (hr : Room k X.A) (hx : Passes CX X E) (he : PE X o ta) (ha : PA X (e :: es) t)
    (hst : starEach (e :: es) X.env = (false, eval e X.env) :: starEach es X.env := by rfl) (hpl : (backTo pos (starEach es X.env)).any (·.1) = false := by rfl)
    (ht : eval (.Call (.Attribute o m apos) (e :: es) [] pos) X.env = (do
      let ov ← eval o X.env
      standAt apos.atName
      let (f, first) ← holding [ov] (getMethod ov m pl)
      callWith pos f first (backTo pos (starEach (e :: es) X.env)) (backToKw pos (keywordEach [] X.env))) := by rfl) :
    PE X (.Call (.Attribute o m apos) (e :: es) [] pos) (tMeth C m sp [] E ta t) := by
  obtain ⟨f, fd, ps, hc, hm, F, b⟩ := c.ex
  exact pe_meth (pl := pl) he hc hm F hr b .nil hx ha hst hpl ht
theorem But.ext {x : Addr} {H H' : Hp} (b : But x H H') (h : H x = none) : Ext H H' := fun c o e => b c o (ne_of_none e h) e
section
variable {P : Program} {w : World} {K : PySem.W.Frag} {mg : Str → Option Value} {base : Heap} {f C : Addr} {fd : FuncData}
/-! BadRow.__init__ -/
abbrev sBad : Stmt := inClass (top 5) 0
def spBad (K : PySem.W.Frag) (B : Addr) : Sp := fun vs H Q _ => ∃ (a : Addr) (x y : V), vs = [.ref a, x, y] ∧ H a = some (exo a B none) ∧
  ∀ H' dx, H dx = none → H' a = some (exo a B (some dx)) → H' dx = some (exd dx [("what", y), ("index", x)]) → (∀ b o, b ≠ a → H b = some o → H' b = some o) → Q .non H'
theorem scBad : FnScope ["self", "index", "what"] ["self", "index", "what"] (defScope sBad) := ⟨rfl, rfl, rfl, by decide +kernel, rfl, by decide +kernel, by decide +kernel⟩
structure BadC (K : PySem.W.Frag) (B : Addr) : Prop where
  o : OexC K B
  i : PySem.W.findIn K (.ref B) "index" = some none
  w : PySem.W.findIn K (.ref B) "what" = some none
theorem ok_bad {B : Addr} (F : FnP K "__init__" "BadRow.__init__" sBad [] f fd) (T : BadC K B) : FnOk P w K mg base CX0 1 f fd ["self", "index", "what"] (spBad K B) := by
  refine F.ok scBad (fun vs H Q E h => ?_) (fun cdv A outer s H vs Q E hr h => ?_)
  · obtain ⟨a, x, y, rfl, _⟩ := h
    rfl
  · obtain ⟨a, x, y, rfl, ha, k⟩ := h
    refine ⟨_, PSs.nox (pss_cons (ps_ost (pv 0) (pv 1)) (pss_one (ps_ost (pv 0) (pv 2)))), ?_⟩
    refine ⟨_, rfl, _, rfl, a, B, rfl, T.o, T.i, .inl ⟨ha, fun dx hd hn => ?_⟩⟩
    have h1 : upd (upd H dx (exd dx [("index", x)])) a (exo a B (some dx)) dx = some (exd dx [("index", x)]) := by rw [upd_ne hn]; exact upd_same
    refine ⟨_, rfl, _, rfl, a, B, rfl, T.o, T.w, .inr ⟨dx, _, upd_same, h1, by show 1 ≤ 900; decide, ?_⟩⟩
    refine k _ dx hd ?_ upd_same fun b o hb h => ?_
    · rw [upd_ne (Ne.symm hn)]
      exact upd_same
    · have hbd : b ≠ dx := ne_of_none h hd
      rw [upd_ne hbd, upd_ne hb, upd_ne hbd]
      exact h
/-- what raise BadRow(i, s) lets out -/
def BadOut (B : Addr) (i : Nat) (s : Str) (H : Hp) (E : XK) : Prop := ∀ H' d fs, Ext H H' → H' d = some (.xd fs) → fs.lookup ("index" : Str) = some (.int (i : Int)) → fs.lookup ("what" : Str) = some (.str s) → E (.ref B) (some d) H'
theorem BadOut.mono {B : Addr} {i : Nat} {s : Str} {H H1 : Hp} {E : XK} (h : BadOut B i s H E) (e : Ext H H1) : BadOut B i s H1 E := fun H' d fs e' => h H' d fs (Ext.trans e e')
theorem bad_made {B : Addr} {i : Nat} {s : Str} {H : Hp} {E : XK} (q : BadOut B i s H E) : ∀ a, H a = none → spBad K B (.ref a :: ([V.int (i : Int), V.str s] ++ [])) (upd H a (exo a B none))
    (fun v H2 => v = .non ∧ ∃ (d : Addr) (fs : List (Str × V)), H2 a = some (exo a B (some d)) ∧ H2 d = some (exd d fs) ∧ H d = none ∧ E (.ref B) (some d) (upd (del H2 a) d (.xd fs))) (fun _ _ _ => False) := fun a ha => by
  refine ⟨a, _, _, rfl, upd_same, fun H' dx hd h1 h2 h3 => ⟨rfl, dx, _, h1, h2, ?_, ?_⟩⟩
  · by_cases e : dx = a
    · rw [e]; exact ha
    · rw [upd_ne e] at hd; exact hd
  · have hda : dx ≠ a := fun e => by
      rw [e, upd_same] at hd
      cases hd
    have hd0 : H dx = none := by rw [upd_ne hda] at hd; exact hd
    refine q _ dx _ (fun b o hb => ?_) upd_same rfl rfl
    have n1 : b ≠ a := ne_of_none hb ha
    have n2 : b ≠ dx := ne_of_none hb hd0
    rw [upd_ne n2, del_ne n1]
    exact h3 b o n1 (by rw [upd_ne n1]; exact hb)
/-- what raise BadRow(..) asks of the written part -/
structure BadX (P : Program) (w : World) (K : PySem.W.Frag) (mg : Str → Option Value) (base : Heap) (B : Addr) : Prop where
  c : BadC K B
  ex : ∃ (f : Addr) (fd : FuncData) (ps : List Str), PySem.W.findIn K (.ref B) "__init__" = some (some (.ref f)) ∧ PySem.W.typeIn K (.ref f) = some (.type "function") ∧ FnOk P w K mg base CX0 1 f fd ps (spBad K B) ∧ Binds K fd ps []
  mg : mg "BadRow" = some (.ref B)
theorem ps_bad {X : Cx} {W : WX} {B : Addr} {e : Expr} {es : List Expr} {ta : TA} {p pos cpos : Pos} (T : BadX X.prog X.w X.K X.mg X.base B) (hc : X.calm = true) (tk : Takes X W) (hr : Room 2 X.A) (ha : PA X (e :: es) ta) (hg : Gl X "BadRow" := by rfl)
    (he : starEach (e :: es) X.env = (false, eval e X.env) :: starEach es X.env := by rfl) (hpl : (backTo cpos (starEach es X.env)).any (·.1) = false := by rfl) :
    PS X (.Raise (some (.Call (.Name "BadRow" p) (e :: es) [] cpos)) none pos) (fun _ σ H => tMkO B (spBad X.K B) [] ta σ H fun cls d H' => W cls d σ H') := by
  obtain ⟨f, fd, ps, h1, h2, F, b⟩ := T.ex
  exact ps_raise hc tk (pmk_oex T.c.o h1 h2 F hr b .nil pass0 hg T.mg ha (by decide) he hpl)
/-! quicker -/
abbrev sQuick : Stmt := inClass (top 22) 7
def spQuick (K : PySem.W.Frag) (C : Addr) : Sp := fun vs H Q _ => ∃ (x : Addr) (v : V) (R : RV) (p : Rat), vs = [.ref x, v] ∧ RowAt K C H x R ∧ Good R ∧ Rt K H v p ∧ Sz 100 60 p ∧ Szs 100 60 R.vs ∧ Szs 6000 100 (R.vs.map (· * p)) ∧
  gives (fun H' v => ∃ y, v = .ref y ∧ RowAt K C H' y ⟨R.ws, R.vs.map (· * p), R.wall⟩) H Q
theorem scQuick : FnScope ["self", "factor", "known", "speed"] ["self", "factor"] (defScope sQuick) := ⟨rfl, rfl, rfl, by decide +kernel, rfl, by decide +kernel, by decide +kernel⟩
theorem good_vs {R : RV} (g : Good R) {us : List Rat} (h : us.length = R.vs.length) : Good ⟨R.ws, us, R.wall⟩ := ⟨h.trans g.len, g.n1, g.n2, g.n40, g.w1, g.w9⟩
theorem ok_quick (F : FnP K "quicker" "Row.quicker" sQuick [] f fd) (T : RowC K mg C) (Mr : Mak P w K mg base 5 "Row" C (spRowInit K C)) (O : Def P w K mg base CX0 3 "ratio_of" ["thing"] (spOf K)) (Ti : Def P w K mg base CX0 4 "times" ["one", "other"] (spTimes K)) :
    FnOk P w K mg base CX0 7 f fd ["self", "factor"] (spQuick K C) := by
  refine F.ok scQuick (fun vs H Q E h => ?_) (fun cdv A outer s H vs Q E hr h => ?_)
  · obtain ⟨x, v, R, p, rfl, _⟩ := h
    rfl
  · obtain ⟨x, v, R, p, rfl, hR, g, rv, zp, zv, zr, k⟩ := h
    have nd := scQuick.nd
    have hr4 : Room 4 _ := hr.mono (by decide)
    refine ⟨_, PSs.nox (pss_cons (ps_set (i := 2) nd rfl (.inr rfl) (pe_fn O (hr.mono (by decide)) (pa_cons (pv 1) pa_nil)))
      (pss_one (ps_ret (pe_mkI Mr (fun _ _ _ _ => row_made) hr (by decide) (pa_cons (pe_fld (pv 0) rfl) (pa_cons (pe_lc (own := [("speed", 3)]) (g := gName 3) (tt := tYes) rfl nd (pi_tup (pe_fld (pv 0) rfl)) (blkOk_by (N := ["self", "factor", "known", "speed"]) (sc := defScope sQuick) (by decide +kernel))
          (fun _ _ _ _ _ => pg_name (i := 3) nd rfl (Or.inl rfl)) (fun _ _ _ _ _ => pts_nil) (fun _ _ _ _ _ => pe_fn Ti hr4 (pa_cons (pv 3) (pa_cons (pv 2) pa_nil)))) (pa_cons (pe_fld (pv 0) rfl) pa_nil))))))), ?_⟩
    refine ⟨_, rfl, v, p, rfl, .inl rv, lt_up zp.den (by decide), fun H1 v1 e1 r1 => ?_⟩
    obtain ⟨dx, pw, ps, fs, hx, fx, tw, ts⟩ := hR.mono (Ext.imm e1)
    obtain ⟨xs, txs, hxs⟩ := ts
    have lx := Paired.len hxs
    have len := g.len
    have n40 := g.n40
    refine ⟨_, rfl, x, C, dx, _, _, rfl, hx, T.cl, T.w, fx.w, _, rfl, x, C, dx, _, _, rfl, hx, T.cl, T.s, fx.s, ps, rfl, ⟨_, txs⟩, fun D1 hD1 => lc_map (walk_tup (K := K) (a := ps) (xs := xs)) hD1 (fun i x => xs[i]? = some x) yAt_of (fun i H v => ∃ q, (R.vs.map (· * p))[i]? = some q ∧ Rt K H v q) (by omega) (fun i H H' v e ⟨q, h1, h2⟩ => ⟨q, h1, h2.mono e⟩) (fun H'' e => txs.ext e) (fun i u H4 Q4 hi hv e4 k4 => ?_) fun H4 acc e4 hacc hlen hrel => ?_⟩
    · obtain ⟨q, hq, rq⟩ := paired_at hxs hv
      refine ⟨_, rfl, _, rfl, u, v1, q, p, rfl, ⟨.inl (rq.mono (Ext.imm e4)), .inl (r1.mono (Ext.imm e4)), 100, 60, 100, 60, zv q (List.mem_of_getElem? hq), zp, by decide, by decide⟩, fun H5 v5 e5 r5 => k4 H5 v5 e5 ⟨q * p, ?_, r5⟩⟩
      rw [List.getElem?_map, hq]
      rfl
    have lm : (R.vs.map (· * p)).length = R.vs.length := List.length_map ..
    have racc : Rts K H4 acc (R.vs.map (· * p)) := rts_of_at (by rw [hlen, lm]; exact lx) fun i hi => hrel i (by rw [lx, ← lm]; exact hi)
    refine ⟨_, rfl, x, C, dx, _, _, rfl, e4 _ _ hx, T.cl, T.l, fx.l, pw, D1, ⟨R.ws, R.vs.map (· * p), R.wall⟩, rfl, ⟨good_vs g lm, .inr (tw.ext e4), ⟨acc, .inl (SqL.of hacc), RtsI.of racc⟩, zr⟩, fun H5 v5 e5 r5 => k H5 v5 (Ext.trans (Ext.trans e1 e4) e5) r5⟩
/-! hurried -/
abbrev sHur : Stmt := inClass (top 22) 6
def spHur (K : PySem.W.Frag) (C N : Addr) : Sp := fun vs H Q E => ∃ (x : Addr) (v : V) (R : RV) (m : Rat), vs = [.ref x, v] ∧ RowAt K C H x R ∧ ((R.wall = true ∧ ∀ H', Ext H H' → E (.ref N) none H') ∨ (R.wall = false ∧ Good R ∧ Rt K H v m ∧ Sz 100 60 m ∧ Szs 6000 100 R.vs ∧ Szs 6000 100 (R.vs.map (· + m)) ∧
  gives (fun H' v => ∃ y, v = .ref y ∧ RowAt K C H' y ⟨R.ws, R.vs.map (· + m), R.wall⟩) H Q))
theorem scHur : FnScope ["self", "more", "added", "speed"] ["self", "more"] (defScope sHur) := ⟨rfl, rfl, rfl, by decide +kernel, rfl, by decide +kernel, by decide +kernel⟩
/-- an own exception made of nothing -/
structure NoX (K : PySem.W.Frag) (mg : Str → Option Value) (x : Str) (N : Addr) : Prop where
  ex : ∃ (bmB : List Value) (B newId initId : String), ExcBaseFacts B newId initId bmB ∧ PySem.W.excIn K N bmB newId = true
  mg : mg x = some (.ref N)
  kp : PySem.W.keepIn K (.ref N) = true
  sub : PySem.W.subIn K (.ref N) (.type "BaseException") = some true
  ty : PySem.W.typeIn K (.ref N) = some (.type "type")
theorem ps_nox {X : Cx} {W : WX} {x : Str} {N : Addr} {p pos cpos : Pos} (T : NoX X.K X.mg x N) (hc : X.calm = true) (tk : Takes X W) (hg : Gl X x := by rfl) (hdb : (x == ("__debug__" : Str)) = false := by decide) :
    PS X (.Raise (some (.Call (.Name x p) [] [] cpos)) none pos) (fun _ σ H => W (.ref N) none σ H) := by
  obtain ⟨bmB, B, newId, initId, F, q⟩ := T.ex
  exact ps_raise hc tk (pmk_own0 F q T.mg T.kp (raises_own T.sub T.ty) hg hdb)
theorem ok_hur {N : Addr} (F : FnP K "hurried" "Row.hurried" sHur [] f fd) (T : RowC K mg C) (X : NoX K mg "NoHurry" N) (Mr : Mak P w K mg base 5 "Row" C (spRowInit K C)) (O : Def P w K mg base CX0 3 "ratio_of" ["thing"] (spOf K)) (Pl : Def P w K mg base CX0 4 "plus" ["one", "other"] (spPlus K)) :
    FnOk P w K mg base (L2.CX P w) 7 f fd ["self", "more"] (spHur K C N) := by
  refine F.ok scHur (fun vs H Q E h => ?_) (fun cdv A outer s H vs Q E hr h => ?_)
  · obtain ⟨x, v, R, p, rfl, _⟩ := h
    rfl
  · obtain ⟨x, v, R, m, rfl, hR, h⟩ := h
    have nd := scHur.nd
    have hr4 : Room 4 _ := hr.mono (by decide)
    refine ⟨_, pss_cons (ps_if (pt_val (pe_fld (pv 0) rfl)) (pss_one (ps_nox X rfl (takes_of rfl rfl rfl rfl))) pss_nil)
      (pss_cons (ps_set (i := 2) nd rfl (.inr rfl) (pe_fn O (hr.mono (by decide)) (pa_cons (pv 1) pa_nil)))
      (pss_one (ps_ret (pe_mkI Mr (fun _ _ _ _ => row_made) hr (by decide) (pa_cons (pe_fld (pv 0) rfl) (pa_cons (pe_lc (own := [("speed", 3)]) (g := gName 3) (tt := tYes) rfl nd (pi_tup (pe_fld (pv 0) rfl)) (blkOk_by (N := ["self", "more", "added", "speed"]) (sc := defScope sHur) (by decide +kernel))
          (fun _ _ _ _ _ => pg_name (i := 3) nd rfl (Or.inl rfl)) (fun _ _ _ _ _ => pts_nil) (fun _ _ _ _ _ => pe_fn Pl hr4 (pa_cons (pv 3) (pa_cons (pv 2) pa_nil)))) (pa_cons pe_bl pa_nil))))))), ?_⟩
    obtain ⟨dx, pw, ps, fs, hx, fx, tw, ts⟩ := hR
    refine ⟨_, rfl, x, C, dx, _, _, rfl, hx, T.cl, T.l, fx.l, R.wall, rfl, ?_⟩
    rcases h with ⟨hw, q⟩ | ⟨hw, g, rv, zm, zv, zr, k⟩
    · exact iteB hw (q H (Ext.refl _))
    refine iteN hw ?_
    refine ⟨_, rfl, v, m, rfl, .inl rv, lt_up zm.den (by decide), fun H1 v1 e1 r1 => ?_⟩
    have hx := e1 _ _ hx
    have tw := tw.ext e1
    obtain ⟨xs, txs, hxs⟩ := ts.monoT (Ext.t e1)
    have lx := Paired.len hxs
    have len := g.len
    have n40 := g.n40
    refine ⟨_, rfl, x, C, dx, _, _, rfl, hx, T.cl, T.w, fx.w, _, rfl, x, C, dx, _, _, rfl, hx, T.cl, T.s, fx.s, ps, rfl, ⟨_, txs⟩, fun D1 hD1 => lc_map (walk_tup (K := K) (a := ps) (xs := xs)) hD1 (fun i x => xs[i]? = some x) yAt_of (fun i H v => ∃ q, (R.vs.map (· + m))[i]? = some q ∧ Rt K H v q) (by omega) (fun i H H' v e ⟨q, h1, h2⟩ => ⟨q, h1, h2.mono e⟩) (fun H'' e => txs.ext e) (fun i u H4 Q4 hi hv e4 k4 => ?_) fun H4 acc e4 hacc hlen hrel => ?_⟩
    · obtain ⟨q, hq, rq⟩ := paired_at hxs hv
      refine ⟨_, rfl, _, rfl, u, v1, q, m, rfl, ⟨.inl (rq.mono (Ext.imm e4)), .inl (r1.mono (Ext.imm e4)), 6000, 100, 100, 60, zv q (List.mem_of_getElem? hq), zm, by decide, by decide⟩, fun H5 v5 e5 r5 => k4 H5 v5 e5 ⟨q + m, ?_, r5⟩⟩
      rw [List.getElem?_map, hq]
      rfl
    have lm : (R.vs.map (· + m)).length = R.vs.length := List.length_map ..
    have racc : Rts K H4 acc (R.vs.map (· + m)) := rts_of_at (by rw [hlen, lm]; exact lx) fun i hi => hrel i (by rw [lx, ← lm]; exact hi)
    exact ⟨pw, D1, ⟨R.ws, R.vs.map (· + m), R.wall⟩, by rw [hw]; rfl, ⟨good_vs g lm, .inr (tw.ext e4), ⟨acc, .inl (SqL.of hacc), RtsI.of racc⟩, zr⟩, fun H5 v5 e5 r5 => k H5 v5 (Ext.trans (Ext.trans e1 e4) e5) r5⟩
end
end K06


set_option Elab.async false
set_option linter.all false
set_option maxRecDepth 100000
set_option maxHeartbeats 4000000
/-! D9: heavier, lead_along. -/
namespace K06
open PySem PySem.Spec PyProof.Rows L2
theorem findIdx_none {α : Type} {p : α → Bool} : ∀ {l : List α}, (∀ y ∈ l, p y = false) → l.findIdx? p = none
  | [], _ => rfl
  | a :: r, h => by
    rw [List.findIdx?_cons, h a List.mem_cons_self, findIdx_none fun y hy => h y (List.mem_cons_of_mem _ hy)]
    rfl
theorem findIdx_at {α : Type} {p : α → Bool} : ∀ {l : List α} {i : Nat} {x : α}, l[i]? = some x → p x = true → (∀ y ∈ l.take i, p y = false) → l.findIdx? p = some i
  | [], _, _, h, _, _ => by simp at h
  | a :: r, 0, x, h, hp, _ => by
    simp at h
    subst h
    rw [List.findIdx?_cons, hp]
    rfl
  | a :: r, i + 1, x, h, hp, h0 => by
    rw [List.findIdx?_cons, h0 a (by rw [List.take_succ_cons]; exact List.mem_cons_self), findIdx_at (l := r) (by simpa using h) hp fun y hy => h0 y (by rw [List.take_succ_cons]; exact List.mem_cons_of_mem _ hy)]
    rfl
theorem badW_true {f : Rat} {w : Int} (h : badW f w = true) : ((w : Rat) * f).den ≠ 1 ∨ ¬ (1 ≤ ((w : Rat) * f).num ∧ ((w : Rat) * f).num ≤ 9) := of_decide_eq_true h
theorem badW_false {f : Rat} {w : Int} (h : badW f w = false) : ((w : Rat) * f).den = 1 ∧ 1 ≤ ((w : Rat) * f).num ∧ ((w : Rat) * f).num ≤ 9 := by
  have := of_decide_eq_false h
  omega
theorem good_heavy {R : RV} {f : Rat} (g : Good R) (h : ∀ y ∈ R.ws, badW f y = false) : Good ⟨heavy f R.ws, R.vs, R.wall⟩ := by
  have l : (heavy f R.ws).length = R.ws.length := List.length_map ..
  refine ⟨g.len.trans l.symm, l ▸ g.n1, fun z => l ▸ g.n2 z, l ▸ g.n40, fun u hu => ?_, fun u hu => ?_⟩
  · obtain ⟨y, hy, rfl⟩ := List.mem_map.mp hu
    exact (badW_false (h y hy)).2.1
  · obtain ⟨y, hy, rfl⟩ := List.mem_map.mp hu
    exact (badW_false (h y hy)).2.2
section
variable {P : Program} {w : World} {K : PySem.W.Frag} {mg : Str → Option Value} {base : Heap} {f C : Addr} {fd : FuncData}
abbrev sHeavy : Stmt := inClass (top 22) 8
def spHeavy (K : PySem.W.Frag) (C B : Addr) : Sp := fun vs H Q E => ∃ (x : Addr) (v : V) (R : RV) (k : Rat), vs = [.ref x, v] ∧ RowAt K C H x R ∧ Good R ∧ Szs 6000 100 R.vs ∧ Rt K H v k ∧ Sz 100 60 k ∧ (∀ i, R.ws.findIdx? (badW k) = some i → BadOut B i "weight" H E) ∧
  (R.ws.findIdx? (badW k) = none → gives (fun H' v => ∃ y, v = .ref y ∧ RowAt K C H' y ⟨heavy k R.ws, R.vs, R.wall⟩) H Q)
theorem scHeavy : FnScope ["self", "factor", "known", "made", "ball", "weight", "top", "bottom"] ["self", "factor"] (defScope sHeavy) := ⟨rfl, rfl, rfl, by decide +kernel, rfl, by decide +kernel, by decide +kernel⟩
theorem ok_heavy {Bd : Addr} (F : FnP K "heavier" "Row.heavier" sHeavy [] f fd) (B : Blt mg) (M : Nums mg) (T : RowC K mg C) (X : BadX P w K mg base Bd) (Mr : Mak P w K mg base 5 "Row" C (spRowInit K C)) (O : Def P w K mg base CX0 3 "ratio_of" ["thing"] (spOf K)) (Ti : Def P w K mg base CX0 4 "times" ["one", "other"] (spTimes K)) :
    FnOk P w K mg base (L2.CX P w) 7 f fd ["self", "factor"] (spHeavy K C Bd) := by
  refine F.ok scHeavy (fun vs H Q E h => ?_) (fun cdv A outer s H vs Q E hr h => ?_)
  · obtain ⟨x, v, R, p, rfl, _⟩ := h
    rfl
  · obtain ⟨x, v, R, kf, rfl, hR, g, zv, rv, zk, kb, kg⟩ := h
    obtain ⟨tw0, mw0⟩ := M.mw
    have nd := scHeavy.nd
    have hr4 : Room 4 _ := hr.mono (by decide)
    refine ⟨_, pss_cons (ps_set (i := 2) nd rfl (.inl rfl) (pe_fn O (hr.mono (by decide)) (pa_cons (pv 1) pa_nil)))
      (pss_cons (ps_set (i := 3) nd rfl (.inl rfl) (pe_lst pa_nil))
      (pss_cons (ps_for (passes_of rfl) rfl (pi_enumT (by rfl) B.enum (pa_cons (pe_fld (pv 0) rfl) pa_nil)) (pg_tup rfl (pgs_cons (pg_name (i := 4) nd rfl (.inl rfl)) (pgs_cons (pg_name (i := 5) nd rfl (.inl rfl)) pgs_nil)))
        (pss_cons (ps_asg (pe_fn Ti hr4 (pa_cons (pv 5) (pa_cons (pv 2) pa_nil))) (pg_tup rfl (pgs_cons (pg_name (i := 6) nd rfl (.inl rfl)) (pgs_cons (pg_name (i := 7) nd rfl (.inl rfl)) pgs_nil))))
        (pss_cons (ps_if (PW.pt (pw_or (pt_cmpR op_ne (pv 7) pe_int (nomark _)) (pw_or1 (pt_not (pt_chain op_le op_le pe_int (pv 6) (pe_glob (v := .int 9) rfl mw0 ⟨_, rfl⟩)))))) (pss_one (ps_bad X rfl (takes_of rfl rfl rfl rfl) (hr.mono (by decide)) (pa_cons (pv 4) (pa_cons pe_str pa_nil)))) pss_nil)
        (pss_one (ps_expr (pe_bm PySem.F.plainAttrs_list PySem.F.slot_list_append PySem.F.type_list_append mt_append (pv 3) (pa_cons (pv 6) pa_nil)))))))
      (pss_one (ps_ret (pe_mkI Mr (fun _ _ _ _ => row_made) hr (by decide) (pa_cons (pv 3) (pa_cons (pe_fld (pv 0) rfl) (pa_cons (pe_fld (pv 0) rfl) pa_nil)))))))), ?_⟩
    refine ⟨_, rfl, v, kf, rfl, .inl rv, lt_up zk.den (by decide), fun H1 v1 e1 r1 => ?_⟩
    obtain ⟨dx, pw, ps, fs, hx, fx, tw, ts⟩ := hR.mono (Ext.imm e1)
    have n40 := g.n40
    have lw : (R.ws.map V.int).length = R.ws.length := List.length_map ..
    refine ⟨by show 0 ≤ sizeLine; decide, fun m hm => ?_⟩
    have eM : Ext H1 (upd H1 m (.lst [])) := ext_new hm
    refine ⟨_, rfl, x, C, dx, _, _, rfl, eM _ _ hx, T.cl, T.w, fx.w, pw, R.ws.map V.int, rfl, tw.ext eM, for_it (walk_enumT (K := K) (a := pw) (xs := R.ws.map V.int)) (fun i σ' H' => But m H1 H' ∧ H' m = some (.lst ((heavy kf (R.ws.take i)).map V.int)) ∧ (∀ y ∈ R.ws.take i, badW kf y = false) ∧ ∃ o4 o5 o6 o7, σ' = [some (.ref x), some v, some v1, some (.ref m), o4, o5, o6, o7])
      ⟨but_upd, upd_same, fun y hy => by simp at hy, none, none, none, none, rfl⟩ (fun i σ' H' hi h => tw.ext (h.1.ext hm)) (fun i u σ' H' H'' hi h y => ?_) fun σ' H' h => ?_⟩
    · obtain ⟨b, hl, hg, o4, o5, o6, o7, rfl⟩ := h
      obtain ⟨T', u1, u2, rfl, hT, rfl, hu1, hu2⟩ := y
      have hu1 : some (V.int (i : Int)) = some u1 := hu1
      obtain rfl := Option.some.inj hu1
      have hu2 : (R.ws.map V.int)[i]? = some u2 := hu2
      rw [List.getElem?_map] at hu2
      obtain ⟨wt, hwt, rfl⟩ := Option.map_eq_some_iff.mp hu2
      have w1 := g.w1 wt (List.mem_of_getElem? hwt)
      have w9 := g.w9 wt (List.mem_of_getElem? hwt)
      have eH := b.ext hm
      have e2 := Ext.trans eH (ext_new (o := .tup [V.int (i : Int), V.int wt]) hT)
      refine ⟨T', _, rfl, SqT.of upd_same, rfl, _, _, rfl, _, _, rfl, rfl, ?_⟩
      refine ⟨_, rfl, _, rfl, .int wt, v1, wt, kf, rfl, ⟨RtI.int wt, .inl (r1.mono (Ext.imm e2)), 4, 1, 100, 60, sz_int (by show wt.natAbs < 16; omega) (by decide), zk, by decide, by decide⟩, fun H3 v3 e3 r3 => ?_⟩
      obtain ⟨p3, rfl, t3⟩ := r3
      refine ⟨p3, _, rfl, t3, rfl, _, _, rfl, _, _, rfl, rfl, ?_⟩
      have e13 := Ext.trans e2 e3
      generalize hq : (wt : Rat) * kf = q at t3
      have raise : badW kf wt = true → BadOut Bd i "weight" H3 E := fun hb => (kb i (findIdx_at hwt hb hg)).mono (Ext.trans e1 e13)
      have bT := fun h => badW_true (f := kf) (w := wt) h
      have bF := fun h => badW_false (f := kf) (w := wt) h
      rw [hq] at bT bF
      have den1 : (V.int (q.den : Int) = V.int 1) ↔ q.den = 1 := ⟨fun z => by have := V.int.inj z; omega, fun z => by rw [z]; rfl⟩
      refine ⟨_, rfl, rfl, _, rfl, ite2 (fun hc => ?_) fun hc => ?_⟩
      · refine iteT ⟨_, rfl, by show 2 ≤ 1000; decide, bad_made (raise ?_)⟩
        cases hb : badW kf wt with
        | true => rfl
        | false =>
          rw [decide_eq_true (den1.mpr (bF hb).1)] at hc
          cases hc
      · have hd : q.den = 1 := Classical.byContradiction fun z => hc (by rw [decide_eq_false (fun y => z (den1.mp y))]; rfl)
        have bad : ¬ (1 ≤ q.num ∧ q.num ≤ 9) → badW kf wt = true := fun hn => by
          cases hb : badW kf wt with
          | true => rfl
          | false => exact absurd (bF hb).2 hn
        refine ⟨_, rfl, 1, q.num, rfl, rfl, _, rfl, ite2 (fun h1 => ?_) fun h1 => ?_⟩
        · refine ⟨q.num, 9, rfl, rfl, _, rfl, ?_⟩
          by_cases h9 : q.num ≤ 9
          · refine iteN (notB (decide_eq_true h9)) ?_
            have h1 : 1 ≤ q.num := of_decide_eq_true h1
            have hgood : badW kf wt = false := by
              cases hb : badW kf wt with
              | false => rfl
              | true => exact (bT hb).elim (fun z => absurd hd z) fun z => absurd ⟨h1, h9⟩ z
            have hl3 := e3 _ _ (ext_new (o := .tup [V.int (i : Int), V.int wt]) hT _ _ hl)
            refine ⟨_, rfl, .inl ⟨rfl, _, SqL.of hl3⟩, _, rfl, m, _, _, rfl, rfl, hl3, small1000 ?_, ?_⟩
            · unfold heavy
              rw [List.length_map, List.length_map, List.length_take]
              omega
            · refine ⟨(b.trans (Ext.but (Ext.trans (ext_new (o := .tup [V.int (i : Int), V.int wt]) hT) e3))).trans but_upd, ?_, fun y hy => ?_, _, _, _, _, rfl⟩
              · rw [upd_same, take_snoc hwt]
                unfold heavy
                rw [List.map_append, List.map_append, ← hq]
                rfl
              · rw [take_snoc hwt] at hy
                rcases List.mem_append.mp hy with h | h
                · exact hg y h
                · obtain rfl := List.mem_singleton.mp h
                  exact hgood
          · refine iteB (by rw [decide_eq_false h9]; rfl) ⟨_, rfl, by show 2 ≤ 1000; decide, bad_made (raise (bad fun z => h9 z.2))⟩
        · exact ⟨false, rfl, iteT ⟨_, rfl, by show 2 ≤ 1000; decide, bad_made (raise (bad fun z => h1 (decide_eq_true z.1)))⟩⟩
    · obtain ⟨b, hl, hg, o4, o5, o6, o7, rfl⟩ := h
      rw [lw, List.take_length] at hl hg
      have eH := b.ext hm
      have kg := kg (findIdx_none hg)
      have gh := good_heavy g hg
      obtain ⟨xs, txs, hxs⟩ := ts.monoT (Ext.t eH)
      exact ⟨_, rfl, _, rfl, x, C, dx, _, _, rfl, eH _ _ hx, T.cl, T.s, fx.s, _, rfl, x, C, dx, _, _, rfl, eH _ _ hx, T.cl, T.l, fx.l, m, ps, ⟨heavy kf R.ws, R.vs, R.wall⟩, rfl, ⟨gh, .inl (SqL.of hl), ⟨xs, .inr txs, RtsI.of hxs⟩, zv⟩, fun H5 v5 e5 r5 => kg H5 v5 (Ext.trans (Ext.trans e1 eH) e5) r5⟩
/-! lead_along -/
abbrev sLead : Stmt := top 29
structure LeadSz (k : KV) (R : RV) : Prop where
  f : Sz 100 60 k.f
  p : Sz 100 60 k.p
  m : Sz 100 60 k.m
  vs : Szs 100 60 R.vs
  vp : Szs 100 60 (R.vs.map (· * k.p))
  vm : Szs 6000 100 ((R.vs.map (· * k.p)).map (· + k.m))
def spLead (K : PySem.W.Frag) (C D B N : Addr) : Sp := fun vs H Q E => ∃ (z x : Addr) (k : KV) (R : RV), vs = [.ref z, .ref x] ∧ KinAt K D H z k ∧ RowAt K C H x R ∧ Good R ∧ LeadSz k R ∧
  (∀ S, lead k R = .row S → gives (fun H' v => ∃ y, v = .ref y ∧ RowAt K C H' y S) H Q) ∧ (∀ i, lead k R = .weight i → BadOut B i "weight" H E) ∧ (lead k R = .wall → ∀ H', Ext H H' → E (.ref N) none H')
theorem scLead : FnScope ["kin", "row", "moved"] ["kin", "row"] (defScope sLead) := ⟨rfl, rfl, rfl, by decide +kernel, rfl, by decide +kernel, by decide +kernel⟩
theorem ok_lead {D Bd N : Addr} (F : FnP K "lead_along" "lead_along" sLead [] f fd) (T : KinC K mg D) (MH : MetE P w K mg base (L2.CX P w) 7 C "heavier" (spHeavy K C Bd)) (MQ : MetE P w K mg base CX0 7 C "quicker" (spQuick K C)) (MU : MetE P w K mg base (L2.CX P w) 7 C "hurried" (spHur K C N))
    (Cm : Def P w K mg base CX0 4 "compare" ["one", "other"] (spCompare K)) : FnOk P w K mg base (L2.CX P w) 8 f fd ["kin", "row"] (spLead K C D Bd N) := by
  refine F.ok scLead (fun vs H Q E h => ?_) (fun cdv A outer s H vs Q E hr h => ?_)
  · obtain ⟨z, x, k, R, rfl, _⟩ := h
    rfl
  · obtain ⟨z, x, k, R, rfl, hK, hR, g, sz, k1, k2, k3⟩ := h
    have nd := scLead.nd
    have hr4 : Room 4 _ := hr.mono (by decide)
    refine ⟨_, pss_cons (ps_set (i := 2) nd rfl (.inl rfl) (pe_mt MQ hr pass0 (pe_mt MH hr (passes_call (W := fun cls d _ H => E cls d H) (takes_of rfl rfl rfl rfl) (fun _ _ _ _ h => h)) (pv 1) (pa_cons (pe_fld (pv 0) rfl) pa_nil)) (pa_cons (pe_fld (pv 0) rfl) pa_nil)))
      (pss_one (ps_ret (pe_ifExp (pt_cmpR op_eq (pe_fn Cm hr4 (pa_cons (pe_fld (pv 0) rfl) (pa_cons pe_int pa_nil))) pe_int (nomark _)) (pv 2) (pe_mt MU hr (passes_call (W := fun cls d _ H => E cls d H) (takes_of rfl rfl rfl rfl) (fun _ _ _ _ h => h)) (pv 2) (pa_cons (pe_fld (pv 0) rfl) pa_nil))))), ?_⟩
    obtain ⟨dz, gs, a, b, c, hz, ⟨la, lb, lc⟩, ra, rb, rc⟩ := hK
    obtain ⟨dx, pw, ps, fs, hx, fx, _⟩ := id hR
    refine ⟨_, rfl, x, dx, fs, rfl, hx, fx.mh, _, rfl, z, D, dz, _, _, rfl, hz, T.cl, T.f, la, x, a, R, k.f, rfl, hR, g, sz.vs.up (by decide) (by decide), ra, sz.f, fun i hi => k2 i (by unfold lead; rw [hi]), fun hn => ?_⟩
    intro H1 v1 e1 r1
    obtain ⟨y1, rfl, r1⟩ := r1
    obtain ⟨dx1, pw1, ps1, fs1, hx1, fx1, _⟩ := id r1
    have g1 := good_heavy (f := k.f) g fun y hy => by
      have := List.findIdx?_eq_none_iff.mp hn y hy
      simpa using this
    refine ⟨y1, dx1, fs1, rfl, hx1, fx1.mq, _, rfl, z, D, dz, _, _, rfl, e1 _ _ hz, T.cl, T.p, lb, y1, b, ⟨heavy k.f R.ws, R.vs, R.wall⟩, k.p, rfl, r1, g1, rb.mono (Ext.imm e1), sz.p, sz.vs, sz.vp.up (by decide) (by decide), fun H2 v2 e2 r2 => ?_⟩
    obtain ⟨y2, rfl, r2⟩ := r2
    obtain ⟨dx2, pw2, ps2, fs2, hx2, fx2, _⟩ := id r2
    have e02 := Ext.trans e1 e2
    refine ⟨_, rfl, z, D, dz, _, _, rfl, e02 _ _ hz, T.cl, T.m, lc, c, .int 0, k.m, ((0 : Int) : Rat), rfl, ⟨.inl (rc.mono (Ext.imm e02)), RtI.int 0, 100, 60, 1, 1, sz.m, sz_int (by decide) (by decide), by decide, by decide⟩, fun H3 e3 => ?_⟩
    have e03 := Ext.trans e02 e3
    have r3 := r2.mono (Ext.imm e3)
    have z0 : (V.int (cmpR k.m ((0 : Int) : Rat)) = V.int 0) ↔ k.m = 0 := ⟨fun h => (cmpR_zero _).mp (V.int.inj h), fun h => by rw [(cmpR_zero _).mpr h]⟩
    refine ⟨rfl, _, rfl, ite2 (fun hc => ?_) fun hc => ?_⟩
    · have hm : k.m = 0 := z0.mp (of_decide_eq_true hc)
      exact ⟨_, rfl, k1 _ (by unfold lead; rw [hn]; exact if_pos hm) H3 _ e03 ⟨y2, rfl, r3⟩⟩
    · have hm : ¬ k.m = 0 := fun h => hc (decide_eq_true (z0.mpr h))
      have hl : lead k R = if R.wall = true then .wall else .row ⟨heavy k.f R.ws, (R.vs.map (· * k.p)).map (· + k.m), R.wall⟩ := by unfold lead; rw [hn]; exact if_neg hm
      refine ⟨_, rfl, y2, dx2, fs2, rfl, e3 _ _ hx2, fx2.mu, _, rfl, z, D, dz, _, _, rfl, e03 _ _ hz, T.cl, T.m, lc, y2, c, ⟨heavy k.f R.ws, R.vs.map (· * k.p), R.wall⟩, k.m, rfl, r3, ?_⟩
      cases hw : R.wall with
      | true =>
        rw [hw, if_pos rfl] at hl
        exact .inl ⟨rfl, fun H' e' => k3 hl H' (Ext.trans e03 e')⟩
      | false =>
        rw [hw, if_neg (by decide)] at hl
        have g2 : Good ⟨heavy k.f R.ws, R.vs.map (· * k.p), R.wall⟩ := good_vs g1 (List.length_map ..)
        rw [hw] at g2
        exact .inr ⟨rfl, g2, rc.mono (Ext.imm e03), sz.m, sz.vp.up (by decide) (by decide), sz.vm, fun H' v' e' r' => k1 _ hl H' v' (Ext.trans e03 e') r'⟩
end
end K06


set_option Elab.async false
set_option linter.all false
set_option maxRecDepth 100000
set_option maxHeartbeats 4000000
/-! D10: _law_mix, _law_low, _law_add, _law_sub, _law_mul, _law_common. -/
namespace K06
open PySem PySem.Spec PyProof.Rows L2
section
variable {P : Program} {w : World} {K : PySem.W.Frag} {mg : Str → Option Value} {base : Heap} {f C : Addr} {fd : FuncData}
/-- % by what holds of the rest -/
def rMod : R2 := fun x y H Q => ∃ i j : Int, x = .int i ∧ y = .int j ∧ 0 < j ∧ ∀ r : Int, 0 ≤ r → r < j → r = i % j → Q (.int r) H
theorem op_modR {X : Cx} : OpR X (binaryOp .Mod) rMod := fun pins s σ H x y v u Q I rx ry h => by
  obtain ⟨i, j, rfl, rfl, hj, q⟩ := h
  exact op_mod pins s σ H _ _ v u Q I rx ry ⟨i, j, rfl, rfl, hj, q _ (Int.emod_nonneg _ (by omega)) (Int.emod_lt_of_pos _ hj) rfl⟩
/-- the truth of a value -/
def tTru (K : PySem.W.Frag) (ta : TE) : TT := fun σ H Q => ta σ H fun x H' => ∃ k, TruV K x H' k ∧ Q k H'
theorem pt_tru' {X : Cx} {a : Expr} {ta : TE} (ha : PE X a ta) (he : ∀ whole, isTrue a X.env whole = (do let v ← whole; standAt a.pos; holding [v] (truthy v))) : PT X a (tTru X.K ta) := pt_truth ha he
/-- a while over an int's truth -/
theorem while_int {K : PySem.W.Frag} {i : Nat} {tb : TS} {D : Ends} {σ : L2.St} {H : Hp} (Pv : L2.St → Hp → Prop) (μ : L2.St → Hp → Nat) (h0 : Pv σ H)
    (hs : ∀ σ H, Pv σ H → ∃ d : Int, σ[i]? = some (some (.int d)) ∧ if d ≠ 0 then tb { D with nx := fun σ' H' => Pv σ' H' ∧ μ σ' H' < μ σ H, ct := fun σ' H' => Pv σ' H' ∧ μ σ' H' < μ σ H, bk := D.nx } σ H else D.nx σ H) :
    ∃ W : Nat → L2.St → Hp → Prop, (∃ m, W m σ H) ∧ ∀ m σ H, W m σ H →
      tTru K (tVar i) σ H fun b H1 => if b = true then ∃ N : L2.St → Hp → Prop, (∀ σ' H', N σ' H' → ∃ m', m' < m ∧ W m' σ' H') ∧ tb { D with nx := N, ct := N, bk := D.nx } σ H1 else D.nx σ H1 := by
  refine ⟨fun m σ H => m = μ σ H ∧ Pv σ H, ⟨_, rfl, h0⟩, ?_⟩
  rintro m σ H ⟨rfl, p⟩
  obtain ⟨d, e, h⟩ := hs σ H p
  refine ⟨.int d, e, _, rfl, ?_⟩
  by_cases z : d = 0
  · rw [if_neg (fun n => n z)] at h
    rw [if_neg (by simpa using z)]
    exact h
  · rw [if_pos z] at h
    rw [if_pos (by simpa using z)]
    exact ⟨_, fun σ' H' ⟨p', l⟩ => ⟨_, l, rfl, p'⟩, h⟩
/-! _law_mix -/
abbrev sMix : Stmt := top 31
def spMix : Sp := fun vs H Q _ => ∃ n t : Int, vs = [.int n, .int t] ∧ 0 ≤ n ∧ n < 2147483648 ∧ 0 ≤ t ∧ t < 2147483648 ∧ ∀ r : Int, 0 ≤ r → Q (.int r) H
theorem scMix : FnScope ["_law_number", "_law_turn", "_law_once", "_law_twice"] ["_law_number", "_law_turn"] (defScope sMix) := ⟨rfl, rfl, rfl, by decide +kernel, rfl, by decide +kernel, by decide +kernel⟩
theorem sq_lt {a : Int} (h0 : 0 ≤ a) (h : a < 2147483648) : 0 ≤ a * a ∧ a * a < 4611686018427387904 := by
  refine ⟨Int.mul_nonneg h0 h0, ?_⟩
  have : a * a ≤ 2147483647 * 2147483647 := Int.mul_le_mul (by omega) (by omega) h0 (by decide)
  omega
theorem ok_mix (F : FnP K "_law_mix" "_law_mix" sMix [] f fd) (B : Blt mg) : FnOk P w K mg base CX0 1 f fd ["_law_number", "_law_turn"] spMix := by
  refine F.ok scMix (fun vs H Q E h => ?_) (fun cdv A outer s H vs Q E hr h => ?_)
  · obtain ⟨n, t, rfl, _⟩ := h
    rfl
  · obtain ⟨n, t, rfl, n0, n1, t0, t1, k⟩ := h
    have nd := scMix.nd
    refine ⟨_, PSs.nox (pss_cons (ps_set (i := 2) nd rfl (.inl rfl) (pe_op op_modR (pe_callTy call_int1 (by rfl) B.int (by decide +kernel) (pa_cons (pe_op op_add (pe_op op_add (pe_op op_mul (pv 0) pe_int) (pe_op op_mul (pv 1) pe_int)) pe_int) pa_nil)) pe_int))
      (pss_cons (ps_set (i := 3) nd rfl (.inl rfl) (pe_op op_modR (pe_callTy call_int1 (by rfl) B.int (by decide +kernel) (pa_cons (pe_op op_add (pe_op op_add (pe_op op_mul (pv 2) (pv 2)) (pe_op op_mul (pe_op op_fdiv (pv 2) pe_int) pe_int)) (pe_op op_mul (pv 1) pe_int)) pa_nil)) pe_int))
      (pss_one (ps_ret (pe_op op_fdiv (pe_op op_modR (pe_callTy call_int1 (by rfl) B.int (by decide +kernel) (pa_cons (pe_op op_add (pe_op op_fdiv (pe_op op_mul (pv 3) (pv 3)) pe_int) (pv 2)) pa_nil)) pe_int) pe_int))))), ?_⟩
    refine ⟨_, rfl, n, 48271, rfl, rfl, .inr ⟨by decide, by decide⟩, _, rfl, t, 16807, rfl, rfl, .inr ⟨by decide, by decide⟩, _, _, rfl, rfl, _, 11, rfl, rfl, .inl ⟨_, rfl, _, 2147483647, rfl, rfl, by decide, fun a a0 a1 _ => ?_⟩⟩
    refine ⟨_, rfl, _, rfl, a, a, rfl, rfl, .inr ⟨by omega, by omega⟩, _, rfl, a, 127, rfl, rfl, ⟨by decide, by decide⟩, _, 40692, rfl, rfl, .inr ⟨by decide, by decide⟩, _, _, rfl, rfl, _, rfl, t, 69621, rfl, rfl, .inr ⟨by decide, by decide⟩, _, _, rfl, rfl, .inl ⟨_, rfl, _, 2147483399, rfl, rfl, by decide, fun b b0 b1 _ => ?_⟩⟩
    refine ⟨_, rfl, _, rfl, b, b, rfl, rfl, .inr ⟨by omega, by omega⟩, _, 1009, rfl, rfl, ⟨by decide, by decide⟩, _, rfl, _, _, rfl, rfl, .inl ⟨_, rfl, _, 2147483563, rfl, rfl, by decide, fun c c0 c1 _ => ⟨c, 16, rfl, rfl, ⟨by decide, by decide⟩, k _ (Int.ediv_nonneg c0 (by decide))⟩⟩⟩
/-! _law_common -/
abbrev sCom : Stmt := top 39
def spCom : Sp := fun vs H Q _ => ∃ a b : Int, vs = [.int a, .int b] ∧ Q (.int (gI a b)) H
theorem scCom : FnScope ["_law_one", "_law_other", "_law_a", "_law_b"] ["_law_one", "_law_other"] (defScope sCom) := ⟨rfl, rfl, rfl, by decide +kernel, rfl, by decide +kernel, by decide +kernel⟩
theorem gI_step {a b : Int} (ha : 0 ≤ a) (hb : 0 < b) : gI b (a % b) = gI a b := by
  unfold gI
  obtain ⟨m, rfl⟩ := Int.eq_ofNat_of_zero_le ha
  obtain ⟨n, rfl⟩ := Int.eq_ofNat_of_zero_le (Int.le_of_lt hb)
  have : ((m : Int) % (n : Int)) = ((m % n : Nat) : Int) := rfl
  rw [this, Int.natAbs_natCast, Int.natAbs_natCast, Int.natAbs_natCast, Nat.gcd_comm n, ← Nat.gcd_rec, Nat.gcd_comm]
theorem gI_zero {a : Int} (ha : 0 ≤ a) : gI a 0 = a := by
  unfold gI
  rw [Int.natAbs_zero, Nat.gcd_zero_right]
  exact Int.natAbs_of_nonneg ha
theorem gI_abs (a b : Int) : gI (if a < 0 then -a else a) (if b < 0 then -b else b) = gI a b := by
  have h : ∀ x : Int, (if x < 0 then -x else x).natAbs = x.natAbs := fun x => by split <;> simp
  unfold gI
  rw [h, h]
theorem abs_nn (a : Int) : 0 ≤ (if a < 0 then -a else a) := by split <;> omega
theorem ok_com (F : FnP K "_law_common" "_law_common" sCom [] f fd) (B : Blt mg) : FnOk P w K mg base CX0 1 f fd ["_law_one", "_law_other"] spCom := by
  refine F.ok scCom (fun vs H Q E h => ?_) (fun cdv A outer s H vs Q E hr h => ?_)
  · obtain ⟨n, t, rfl, _⟩ := h
    rfl
  · obtain ⟨a, b, rfl, k⟩ := h
    have nd := scCom.nd
    refine ⟨_, PSs.nox (pss_cons (ps_set (i := 2) nd rfl (.inl rfl) (pe_callB call_abs (by rfl) B.abs (by decide +kernel) (pa_cons (pv 0) pa_nil)))
      (pss_cons (ps_set (i := 3) nd rfl (.inl rfl) (pe_callB call_abs (by rfl) B.abs (by decide +kernel) (pa_cons (pv 1) pa_nil)))
      (pss_cons (ps_while PassesOwn.never (pt_tru' (pv 3) (fun _ => rfl)) (pss_one (ps_par (i := 2) (j := 3) rfl nd rfl rfl (by decide) rfl rfl (pa_cons (pv 3) (pa_cons (pe_op op_mod (pe_callTy call_int1 (by rfl) B.int (by decide +kernel) (pa_cons (pv 2) pa_nil)) (pv 3)) pa_nil)) (by rfl))))
      (pss_one (ps_ret (pv 2)))))), ?_⟩
    refine ⟨_, rfl, a, rfl, _, rfl, b, rfl, while_int (fun σ' H' => H' = H ∧ ∃ c d : Int, 0 ≤ c ∧ 0 ≤ d ∧ gI c d = gI a b ∧ σ' = [some (.int a), some (.int b), some (.int c), some (.int d)]) (fun σ' _ => match σ' with | [_, _, _, some (.int d)] => d.toNat | _ => 0) ⟨rfl, _, _, abs_nn a, abs_nn b, gI_abs a b, rfl⟩ ?_⟩
    rintro σ' H' ⟨rfl, c, d, hc, hd, hg, rfl⟩
    refine ⟨d, rfl, ?_⟩
    by_cases z : d = 0
    · subst z
      rw [if_neg (fun n => n rfl)]
      rw [gI_zero hc] at hg
      exact ⟨_, rfl, by rw [hg]; exact k⟩
    · have hd0 : 0 < d := by omega
      rw [if_pos z]
      refine ⟨_, rfl, _, rfl, .inl ⟨c, rfl, _, rfl, c, d, rfl, rfl, hd0, _, _, rfl, ⟨rfl, d, c % d, hd, Int.emod_nonneg _ z, (gI_step hc hd0).trans hg, rfl⟩, ?_⟩⟩
      show (c % d).toNat < d.toNat
      have := Int.emod_lt_of_pos c hd0
      have := Int.emod_nonneg c z
      omega
end
end K06


set_option Elab.async false
set_option linter.all false
set_option maxRecDepth 100000
set_option maxHeartbeats 4000000
/-! D11: _law_low, _law_add, _law_sub, _law_mul. -/
namespace K06
open PySem PySem.Spec PyProof.Rows L2
/-- two told ratios that may be reckoned with -/
def TwoT (K : PySem.W.Frag) (H : Hp) (x y : V) (q r : Rat) : Prop := Rt K H x q ∧ Rt K H y r ∧ ∃ n d n' d' : Nat, Sz n d q ∧ Sz n' d' r ∧ n + n' + d + d' ≤ 900000 ∧ d + d' ≤ 9000
section
variable {P : Program} {w : World} {K : PySem.W.Frag} {mg : Str → Option Value} {base : Heap} {f C : Addr} {fd : FuncData}
/-! _law_low -/
abbrev sLLow : Stmt := top 34
theorem scLLow : FnScope ["_law_top", "_law_bottom", "_law_one", "_law_other"] ["_law_top", "_law_bottom"] (defScope sLLow) := ⟨rfl, rfl, rfl, by decide +kernel, rfl, by decide +kernel, by decide +kernel⟩
theorem ok_llow (F : FnP K "_law_low" "_law_low" sLLow [] f fd) (B : Blt mg) : FnOk P w K mg base CX0 1 f fd ["_law_top", "_law_bottom"] (spLow K) := by
  refine F.ok scLLow (fun vs H Q E h => ?_) (fun cdv A outer s H vs Q E hr h => ?_)
  · obtain ⟨n, t, rfl, _⟩ := h
    rfl
  · obtain ⟨t, b, rfl, h0, hb, k⟩ := h
    have nd := scLLow.nd
    refine ⟨_, PSs.nox (pss_cons (ps_set (i := 2) nd rfl (.inl rfl) (pe_callB call_abs (by rfl) B.abs (by decide +kernel) (pa_cons (pv 0) pa_nil)))
      (pss_cons (ps_set (i := 3) nd rfl (.inl rfl) (pe_callB call_abs (by rfl) B.abs (by decide +kernel) (pa_cons (pv 1) pa_nil)))
      (pss_cons (ps_while PassesOwn.never (pt_tru' (pv 3) (fun _ => rfl)) (pss_one (ps_par (i := 2) (j := 3) rfl nd rfl rfl (by decide) rfl rfl (pa_cons (pv 3) (pa_cons (pe_op op_mod (pe_callTy call_int1 (by rfl) B.int (by decide +kernel) (pa_cons (pv 2) pa_nil)) (pv 3)) pa_nil)) (by rfl))))
      (pss_cons (ps_if (pt_cmpR op_lt (pv 1) pe_int (nomark _)) (pss_one (ps_set (i := 2) nd rfl (.inl rfl) (pe_un un_neg (pv 2)))) pss_nil)
      (pss_one (ps_ret (pe_tup (pa_cons (pe_op op_fdivS (pv 0) (pv 2)) (pa_cons (pe_op op_fdivS (pv 1) (pv 2)) pa_nil))))))))), ?_⟩
    refine ⟨_, rfl, t, rfl, _, rfl, b, rfl, while_int (fun σ' H' => H' = H ∧ ∃ c d : Int, 0 ≤ c ∧ 0 ≤ d ∧ gI c d = gI t b ∧ σ' = [some (.int t), some (.int b), some (.int c), some (.int d)]) (fun σ' _ => match σ' with | [_, _, _, some (.int d)] => d.toNat | _ => 0) ⟨rfl, _, _, abs_nn t, abs_nn b, gI_abs t b, rfl⟩ ?_⟩
    rintro σ' H' ⟨rfl, c, d, hc, hd, hg, rfl⟩
    refine ⟨d, rfl, ?_⟩
    by_cases z : d = 0
    · subst z
      rw [if_neg (fun n => n rfl)]
      rw [gI_zero hc] at hg
      subst hg
      have fin : ∀ c : Int, c = gS t b → ∀ p, H' p = none → Q (.ref p) (upd H' p (.tup [.int (t.fdiv c), .int (b.fdiv c)])) := fun c e p hp => by
        subst e
        obtain ⟨e1, e2⟩ := low_num (t := t) h0
        refine k _ _ (ext_new hp) ⟨p, rfl, SqT.of ?_⟩
        rw [upd_same, e1, e2]
        rfl
      refine ⟨_, rfl, _, _, rfl, rfl, _, rfl, ite2 (fun hlt => ?_) fun hlt => ?_⟩
      · have hlt := of_decide_eq_true hlt
        have e : -(gI t b) = gS t b := (if_pos hlt).symm
        refine ⟨_, rfl, gI t b, rfl, ?_⟩
        refine ⟨_, rfl, _, rfl, t, -(gI t b), rfl, rfl, e ▸ gS_div h0 hb t, _, rfl, _, rfl, b, -(gI t b), rfl, rfl, e ▸ gS_div h0 hb b, by show 2 ≤ sizeLine; decide, fun p hp => fin _ e p hp⟩
      · have hlt : ¬ b < 0 := fun z => hlt (decide_eq_true z)
        have e : gI t b = gS t b := (if_neg hlt).symm
        refine ⟨_, rfl, _, rfl, t, gI t b, rfl, rfl, e ▸ gS_div h0 hb t, _, rfl, _, rfl, b, gI t b, rfl, rfl, e ▸ gS_div h0 hb b, by show 2 ≤ sizeLine; decide, fun p hp => fin _ e p hp⟩
    · have hd0 : 0 < d := by omega
      rw [if_pos z]
      refine ⟨_, rfl, _, rfl, .inl ⟨c, rfl, _, rfl, c, d, rfl, rfl, hd0, _, _, rfl, ⟨rfl, d, c % d, hd, Int.emod_nonneg _ z, (gI_step hc hd0).trans hg, rfl⟩, ?_⟩⟩
      show (c % d).toNat < d.toNat
      have := Int.emod_lt_of_pos c hd0
      have := Int.emod_nonneg c z
      omega
/-! _law_add -/
abbrev sLAdd : Stmt := top 35
def spLAdd (K : PySem.W.Frag) : Sp := fun vs H Q _ => ∃ (x y : V) (q r : Rat), vs = [x, y] ∧ TwoT K H x y q r ∧ gives (fun H' v => Rt K H' v (q + r)) H Q
theorem scLAdd : FnScope ["_law_a", "_law_b"] ["_law_a", "_law_b"] (defScope sLAdd) := ⟨rfl, rfl, rfl, by decide +kernel, rfl, by decide +kernel, by decide +kernel⟩
theorem ok_ladd (F : FnP K "_law_add" "_law_add" sLAdd [] f fd) (L : Def P w K mg base CX0 1 "_law_low" ["_law_top", "_law_bottom"] (spLow K)) : FnOk P w K mg base CX0 2 f fd ["_law_a", "_law_b"] (spLAdd K) := by
  refine F.ok scLAdd (fun vs H Q E h => ?_) (fun cdv A outer s H vs Q E hr h => ?_)
  · obtain ⟨x, y, q, r, rfl, _⟩ := h
    rfl
  · obtain ⟨x, y, q, r, rfl, ⟨hx, hy, n, d, n', d', z1, z2, l1, l2⟩, k⟩ := h
    have := z1.n0; have := z1.d0; have := z2.n0; have := z2.d0
    obtain ⟨p, rfl, tx⟩ := hx
    obtain ⟨p', rfl, ty⟩ := hy
    refine ⟨_, PSs.nox (pss_one (ps_ret (pe_fn L hr (pa_cons (pe_op op_add (pe_op op_mulW (pe_ix ix_tup (pv 0) pe_int (fun _ _ => rfl)) (pe_ix ix_tup (pv 1) pe_int (fun _ _ => rfl))) (pe_op op_mulW (pe_ix ix_tup (pv 1) pe_int (fun _ _ => rfl)) (pe_ix ix_tup (pv 0) pe_int (fun _ _ => rfl)))) (pa_cons (pe_op op_mulW (pe_ix ix_tup (pv 0) pe_int (fun _ _ => rfl)) (pe_ix ix_tup (pv 1) pe_int (fun _ _ => rfl))) pa_nil))))), ?_⟩
    refine ⟨_, rfl, p, _, _, _, rfl, rfl, tx, atI_nat (j := 0) rfl, _, rfl, p', _, _, _, rfl, rfl, ty, atI_nat (j := 1) rfl, q.num, (r.den : Int), rfl, rfl, mw z1.num z2.deni (by omega) (by omega) (by omega), ?_⟩
    refine ⟨_, rfl, p', _, _, _, rfl, rfl, ty, atI_nat (j := 0) rfl, _, rfl, p, _, _, _, rfl, rfl, tx, atI_nat (j := 1) rfl, r.num, (q.den : Int), rfl, rfl, mw z2.num z1.deni (by omega) (by omega) (by omega), _, _, rfl, rfl, ?_⟩
    refine ⟨_, rfl, p, _, _, _, rfl, rfl, tx, atI_nat (j := 1) rfl, _, rfl, p', _, _, _, rfl, rfl, ty, atI_nat (j := 1) rfl, (q.den : Int), (r.den : Int), rfl, rfl, mw z1.deni z2.deni (by omega) (by omega) (by omega), ?_⟩
    refine ⟨_, _, rfl, den_ne, lt_up (z1.dens z2) l2, fun H3 v3 g3 r3 => k H3 v3 g3 ?_⟩
    rw [← rat_add]
    exact r3
/-! _law_sub -/
abbrev sLSub : Stmt := top 36
def spLSub (K : PySem.W.Frag) : Sp := fun vs H Q _ => ∃ (x y : V) (q r : Rat), vs = [x, y] ∧ TwoT K H x y q r ∧ gives (fun H' v => Rt K H' v (q - r)) H Q
theorem scLSub : FnScope ["_law_a", "_law_b"] ["_law_a", "_law_b"] (defScope sLSub) := ⟨rfl, rfl, rfl, by decide +kernel, rfl, by decide +kernel, by decide +kernel⟩
theorem ok_lsub (F : FnP K "_law_sub" "_law_sub" sLSub [] f fd) (L : Def P w K mg base CX0 1 "_law_low" ["_law_top", "_law_bottom"] (spLow K)) : FnOk P w K mg base CX0 2 f fd ["_law_a", "_law_b"] (spLSub K) := by
  refine F.ok scLSub (fun vs H Q E h => ?_) (fun cdv A outer s H vs Q E hr h => ?_)
  · obtain ⟨x, y, q, r, rfl, _⟩ := h
    rfl
  · obtain ⟨x, y, q, r, rfl, ⟨hx, hy, n, d, n', d', z1, z2, l1, l2⟩, k⟩ := h
    have := z1.n0; have := z1.d0; have := z2.n0; have := z2.d0
    obtain ⟨p, rfl, tx⟩ := hx
    obtain ⟨p', rfl, ty⟩ := hy
    refine ⟨_, PSs.nox (pss_one (ps_ret (pe_fn L hr (pa_cons (pe_op op_sub (pe_op op_mulW (pe_ix ix_tup (pv 0) pe_int (fun _ _ => rfl)) (pe_ix ix_tup (pv 1) pe_int (fun _ _ => rfl))) (pe_op op_mulW (pe_ix ix_tup (pv 1) pe_int (fun _ _ => rfl)) (pe_ix ix_tup (pv 0) pe_int (fun _ _ => rfl)))) (pa_cons (pe_op op_mulW (pe_ix ix_tup (pv 0) pe_int (fun _ _ => rfl)) (pe_ix ix_tup (pv 1) pe_int (fun _ _ => rfl))) pa_nil))))), ?_⟩
    refine ⟨_, rfl, p, _, _, _, rfl, rfl, tx, atI_nat (j := 0) rfl, _, rfl, p', _, _, _, rfl, rfl, ty, atI_nat (j := 1) rfl, q.num, (r.den : Int), rfl, rfl, mw z1.num z2.deni (by omega) (by omega) (by omega), ?_⟩
    refine ⟨_, rfl, p', _, _, _, rfl, rfl, ty, atI_nat (j := 0) rfl, _, rfl, p, _, _, _, rfl, rfl, tx, atI_nat (j := 1) rfl, r.num, (q.den : Int), rfl, rfl, mw z2.num z1.deni (by omega) (by omega) (by omega), _, _, rfl, rfl, ?_⟩
    refine ⟨_, rfl, p, _, _, _, rfl, rfl, tx, atI_nat (j := 1) rfl, _, rfl, p', _, _, _, rfl, rfl, ty, atI_nat (j := 1) rfl, (q.den : Int), (r.den : Int), rfl, rfl, mw z1.deni z2.deni (by omega) (by omega) (by omega), ?_⟩
    refine ⟨_, _, rfl, den_ne, lt_up (z1.dens z2) l2, fun H3 v3 g3 r3 => k H3 v3 g3 ?_⟩
    rw [← rat_sub]
    exact r3
/-! _law_mul -/
abbrev sLMul : Stmt := top 37
def spLMul (K : PySem.W.Frag) : Sp := fun vs H Q _ => ∃ (x y : V) (q r : Rat), vs = [x, y] ∧ TwoT K H x y q r ∧ gives (fun H' v => Rt K H' v (q * r)) H Q
theorem scLMul : FnScope ["_law_a", "_law_b"] ["_law_a", "_law_b"] (defScope sLMul) := ⟨rfl, rfl, rfl, by decide +kernel, rfl, by decide +kernel, by decide +kernel⟩
theorem ok_lmul (F : FnP K "_law_mul" "_law_mul" sLMul [] f fd) (L : Def P w K mg base CX0 1 "_law_low" ["_law_top", "_law_bottom"] (spLow K)) : FnOk P w K mg base CX0 2 f fd ["_law_a", "_law_b"] (spLMul K) := by
  refine F.ok scLMul (fun vs H Q E h => ?_) (fun cdv A outer s H vs Q E hr h => ?_)
  · obtain ⟨x, y, q, r, rfl, _⟩ := h
    rfl
  · obtain ⟨x, y, q, r, rfl, ⟨hx, hy, n, d, n', d', z1, z2, l1, l2⟩, k⟩ := h
    have := z1.n0; have := z1.d0; have := z2.n0; have := z2.d0
    obtain ⟨p, rfl, tx⟩ := hx
    obtain ⟨p', rfl, ty⟩ := hy
    refine ⟨_, PSs.nox (pss_one (ps_ret (pe_fn L hr (pa_cons (pe_op op_mulW (pe_ix ix_tup (pv 0) pe_int (fun _ _ => rfl)) (pe_ix ix_tup (pv 1) pe_int (fun _ _ => rfl))) (pa_cons (pe_op op_mulW (pe_ix ix_tup (pv 0) pe_int (fun _ _ => rfl)) (pe_ix ix_tup (pv 1) pe_int (fun _ _ => rfl))) pa_nil))))), ?_⟩
    refine ⟨_, rfl, p, _, _, _, rfl, rfl, tx, atI_nat (j := 0) rfl, _, rfl, p', _, _, _, rfl, rfl, ty, atI_nat (j := 0) rfl, q.num, r.num, rfl, rfl, mw z1.num z2.num (by omega) (by omega) (by omega), ?_⟩
    refine ⟨_, rfl, p, _, _, _, rfl, rfl, tx, atI_nat (j := 1) rfl, _, rfl, p', _, _, _, rfl, rfl, ty, atI_nat (j := 1) rfl, (q.den : Int), (r.den : Int), rfl, rfl, mw z1.deni z2.deni (by omega) (by omega) (by omega), ?_⟩
    refine ⟨_, _, rfl, den_ne, lt_up (z1.dens z2) l2, fun H3 v3 g3 r3 => k H3 v3 g3 ?_⟩
    rw [← rat_mul]
    exact r3
end
end K06


set_option Elab.async false
set_option linter.all false
set_option maxRecDepth 100000
set_option maxHeartbeats 4000000
/-! D12: _law_least. -/
namespace K06
open PySem PySem.Spec PyProof.Rows L2
theorem lcm_by {a b : Int} (ha : 0 < a) (hb : 0 < b) : a * b / gI a b = lI a b := by
  obtain ⟨m, rfl⟩ := Int.eq_ofNat_of_zero_le (Int.le_of_lt ha)
  obtain ⟨n, rfl⟩ := Int.eq_ofNat_of_zero_le (Int.le_of_lt hb)
  unfold gI lI
  rw [Int.natAbs_natCast, Int.natAbs_natCast]
  unfold Nat.lcm
  rfl
section
variable {P : Program} {w : World} {K : PySem.W.Frag} {mg : Str → Option Value} {base : Heap} {f C : Addr} {fd : FuncData}
/-- the law's own least row: two tuples in a tuple -/
def LeastT (K : PySem.W.Frag) (H : Hp) (v : V) (R : RV) : Prop := ∃ p q r : Addr, v = .ref p ∧ SqT K H p [.ref q, .ref r] ∧ SqT K H q ((leastW R.ws).map V.int) ∧ RtT K H r (castL (lowest (rested R)))
theorem LeastT.mono {H H' : Hp} {v : V} {R : RV} (h : LeastT K H v R) (e : ExtT H H') : LeastT K H' v R := by
  obtain ⟨p, q, r, h0, h1, h2, h3⟩ := h
  exact ⟨p, q, r, h0, sqT_t h1 e, sqT_t h2 e, h3.monoT e⟩
abbrev sLLeast : Stmt := top 40
def spLLeast (K : PySem.W.Frag) : Sp := fun vs H Q _ => ∃ (a b : Addr) (xs : List V) (R : RV), vs = [.ref a, .ref b, .bl R.wall] ∧ SqL K H a (R.ws.map V.int) ∧ SqL K H b xs ∧ Rts K H xs R.vs ∧ Fit R ∧ gives (fun H' v => LeastT K H' v R) H Q
abbrev nLLeast : List Str := ["_law_weights", "_law_speeds_here", "_law_shut", "_law_common_here", "_law_weight", "_law_v", "_law_rested", "_law_whole", "_law_tops", "_law_part", "_law_top"]
theorem scLLeast : FnScope nLLeast ["_law_weights", "_law_speeds_here", "_law_shut"] (defScope sLLeast) := ⟨rfl, rfl, rfl, by decide +kernel, rfl, by decide +kernel, by decide +kernel⟩
theorem ok_lleast (F : FnP K "_law_least" "_law_least" sLLeast [] f fd) (B : Blt mg) (G : Def P w K mg base CX0 1 "_law_common" ["_law_one", "_law_other"] spCom) (Su : Def P w K mg base CX0 2 "_law_sub" ["_law_a", "_law_b"] (spLSub K)) :
    FnOk P w K mg base CX0 3 f fd ["_law_weights", "_law_speeds_here", "_law_shut"] (spLLeast K) := by
  refine F.ok scLLeast (fun vs H Q E h => ?_) (fun cdv A outer s H vs Q E hr h => ?_)
  · obtain ⟨a, b, xs, R, rfl, _⟩ := h
    rfl
  · obtain ⟨a, b, xs, R, rfl, ha, hb, hxs, fR, k⟩ := h
    have nd := scLLeast.nd
    have hr1 : Room 1 _ := hr.mono (by decide)
    refine ⟨_, PSs.nox (pss_cons (ps_set (i := 3) nd rfl (.inr rfl) pe_int)
      (pss_cons (ps_for PassesOwn.never rfl (pi_list (pv 0)) (pg_name (i := 4) nd rfl (.inl rfl)) (pss_one (ps_set (i := 3) nd rfl (.inr rfl) (pe_fn G hr1 (pa_cons (pv 3) (pa_cons (pv 4) pa_nil))))))
      (pss_cons (ps_setLc (i := 6) (own := [("_law_v", 5)]) (g := gName 5) (tt := tYes) rfl nd rfl rfl (sw_true rfl rfl rfl (by decide +kernel)) (pi_list (pv 1)) (blkOk_by (N := nLLeast) (sc := defScope sLLeast) (by decide +kernel))
          (fun _ _ _ _ _ => pg_name (i := 5) nd rfl (Or.inl rfl)) (fun _ _ _ _ _ => pts_nil) (fun _ _ _ _ _ => pe_ifExp (pt_val (pv 2)) (pv 5) (pe_fn Su hr (pa_cons (pv 5) (pa_cons (pe_ix (ix_listK K) (pv 1) pe_int (fun _ _ => rfl)) pa_nil)))))
      (pss_cons (ps_set (i := 7) nd rfl (.inr rfl) pe_int)
      (pss_cons (ps_for PassesOwn.never rfl (pi_list (pv 6)) (pg_name (i := 5) nd rfl (.inl rfl)) (pss_one (ps_set (i := 7) nd rfl (.inr rfl) (pe_op op_fdivW (pe_op op_mulW (pv 7) (pe_ix ix_tup (pv 5) pe_int (fun _ _ => rfl))) (pe_fn G hr1 (pa_cons (pv 7) (pa_cons (pe_ix ix_tup (pv 5) pe_int (fun _ _ => rfl)) pa_nil)))))))
      (pss_cons (ps_setLc (i := 8) (own := [("_law_v", 5)]) (g := gName 5) (tt := tYes) rfl nd rfl rfl (sw_true rfl rfl rfl (by decide +kernel)) (pi_list (pv 6)) (blkOk_by (N := nLLeast) (sc := defScope sLLeast) (by decide +kernel))
          (fun _ _ _ _ _ => pg_name (i := 5) nd rfl (Or.inl rfl)) (fun _ _ _ _ _ => pts_nil) (fun _ _ _ _ _ => pe_op op_mulW (pe_ix (ix_tupK K) (pv 5) pe_int (fun _ _ => rfl)) (pe_op op_fdivW (pv 7) (pe_ix (ix_tupK K) (pv 5) pe_int (fun _ _ => rfl)))))
      (pss_cons (ps_set (i := 9) nd rfl (.inr rfl) pe_int)
      (pss_cons (ps_for PassesOwn.never rfl (pi_list (pv 8)) (pg_name (i := 10) nd rfl (.inl rfl)) (pss_one (ps_set (i := 9) nd rfl (.inr rfl) (pe_fn G hr1 (pa_cons (pv 9) (pa_cons (pv 10) pa_nil))))))
      (C8.pss_cut (ps_if (pt_cmpR op_gt (pv 9) pe_int (nomark _)) (pss_one (ps_setLc (i := 8) (own := [("_law_top", 10)]) (g := gName 10) (tt := tYes) rfl nd rfl rfl (sw_true rfl rfl rfl (by decide +kernel)) (pi_list (pv 8)) (blkOk_by (N := nLLeast) (sc := defScope sLLeast) (by decide +kernel))
          (fun _ _ _ _ _ => pg_name (i := 10) nd rfl (Or.inl rfl)) (fun _ _ _ _ _ => pts_nil) (fun _ _ _ _ _ => pe_op op_fdivW (pv 10) (pv 9)))) pss_nil)
      (pss_one (ps_ret (pe_tup (pa_cons (pe_callTy call_tuple_of (by rfl) B.tuple (by decide +kernel) (pa_cons (pe_lc (own := [("_law_weight", 4)]) (g := gName 4) (tt := tYes) rfl nd (pi_list (pv 0)) (blkOk_by (N := nLLeast) (sc := defScope sLLeast) (by decide +kernel))
          (fun _ _ _ _ _ => pg_name (i := 4) nd rfl (Or.inl rfl)) (fun _ _ _ _ _ => pts_nil) (fun _ _ _ _ _ => pe_op op_fdivS (pv 4) (pv 3))) pa_nil))
        (pa_cons (pe_callTy call_tuple_of (by rfl) B.tuple (by decide +kernel) (pa_cons (pe_lc (own := [("_law_top", 10)]) (g := gName 10) (tt := tYes) rfl nd (pi_list (pv 8)) (blkOk_by (N := nLLeast) (sc := defScope sLLeast) (by decide +kernel))
          (fun _ _ _ _ _ => pg_name (i := 10) nd rfl (Or.inl rfl)) (fun _ _ _ _ _ => pts_nil) (fun _ _ _ _ _ => pe_tup (pa_cons (pv 10) (pa_cons pe_int pa_nil)))) pa_nil)) pa_nil)))))))))))))), ?_⟩
    have g := fR.g
    have n40 := g.n40
    have n1 := g.n1
    have len := g.len
    have lx : xs.length = R.vs.length := Paired.len hxs
    have gp := gcdW_pos g
    have lws : (R.ws.map V.int).length = R.ws.length := List.length_map ..
    have lr := rested_length R
    have zr : Szs 161 120 (rested R) := rested_sz g fR.sz
    have hden := Szs_den zr
    have hw : (0 : Int) < lF 1 (rested R) := lF_pos (by decide) _
    have hwl : (lF 1 (rested R)).natAbs < 2 ^ 4801 := lF1_lt _ hden (by omega)
    -- common
    refine ⟨_, rfl, a, rfl, ⟨_, ha⟩, for_list (K := K) (a := a) (xs := R.ws.map V.int) (fun i σ' H' => H' = H ∧ ∃ o4, σ' = [some (.ref a), some (.ref b), some (.bl R.wall), some (.int (gcdL (R.ws.take i))), o4, none, none, none, none, none, none]) ⟨rfl, _, rfl⟩ (fun i σ' H' _ h => by obtain ⟨rfl, _⟩ := h; exact ha) ?_ ?_⟩
    · rintro i v σ' H' hv ⟨rfl, o4, rfl⟩
      rw [List.getElem?_map] at hv
      obtain ⟨y, hy, rfl⟩ := Option.map_eq_some_iff.mp hv
      refine ⟨_, rfl, _, rfl, gcdL (R.ws.take i), y, rfl, rfl, some (.int y), ?_⟩
      rw [take_snoc hy]
      show _ = [_, _, _, some (V.int (gF 0 (List.take i R.ws ++ [y]))), _, _, _, _, _, _, _]
      rw [gF_snoc]
      rfl
    rintro σ' H' ⟨rfl, o4, rfl⟩
    rw [lws, List.take_length]
    -- rested
    obtain ⟨x0, hx0⟩ := get_lt (show 0 < xs.length by omega)
    obtain ⟨q0, hq0, rq0⟩ := paired_at hxs hx0
    refine ⟨_, rfl, b, rfl, ⟨_, hb⟩, fun D hD => lc_map (walk_list (K := K) (a := b) (xs := xs)) hD (fun i x => xs[i]? = some x) yAt_of (fun i H v => ∃ q, (rested R)[i]? = some q ∧ Rt K H v q) (by omega) (fun i H H' v e ⟨q, h1, h2⟩ => ⟨q, h1, h2.mono e⟩) (fun H'' e => hb.ext e) (fun i v H3 Q3 hi hv e3 k3 => ?_) fun H3 acc e3 hacc hlen hrel => ?_⟩
    · obtain ⟨q, hq, rq⟩ := paired_at hxs hv
      refine ⟨_, rfl, R.wall, rfl, ?_⟩
      cases hw : R.wall with
      | true => exact iteT ⟨_, rfl, k3 H3 v (Ext.refl _) ⟨q, by rw [rested_wall hw]; exact hq, rq.mono (Ext.imm e3)⟩⟩
      | false =>
        refine iteF ⟨_, rfl, _, rfl, b, _, _, _, rfl, rfl, hb.ext e3, atI_nat (j := 0) hx0, v, x0, q, q0, rfl, ⟨rq.mono (Ext.imm e3), rq0.mono (Ext.imm e3), 100, 60, 100, 60, fR.sz q (List.mem_of_getElem? hq), fR.sz q0 (List.mem_of_getElem? hq0), by decide, by decide⟩, fun H4 v4 e4 r4 => k3 H4 v4 e4 ⟨q - q0, ?_, r4⟩⟩
        unfold rested
        rw [List.getElem?_map, hq, v0_head hw hq0]
        rfl
    rw [lx] at hlen hrel
    have racc : Rts K H3 acc (rested R) := rts_of_at (by rw [hlen, lr]) fun i hi => hrel i (by rw [← lr]; exact hi)
    -- whole
    refine ⟨_, rfl, D, rfl, ⟨_, SqL.of hacc⟩, for_list (K := K) (a := D) (xs := acc) (fun i σ' H' => H' = H3 ∧ ∃ o5, σ' = [some (.ref a), some (.ref b), some (.bl R.wall), some (.int (gcdL R.ws)), o4, o5, some (.ref D), some (.int (lF 1 ((rested R).take i))), none, none, none]) ⟨rfl, _, rfl⟩ (fun i σ' H' _ h => by obtain ⟨rfl, _⟩ := h; exact SqL.of hacc) ?_ ?_⟩
    · rintro i v σ' H' hv ⟨rfl, o5, rfl⟩
      obtain ⟨q, hq, p, rfl, t⟩ := paired_at racc hv
      have hle : ((rested R).take i).length ≤ 40 := by rw [List.length_take]; omega
      have hl : (lF 1 ((rested R).take i)).natAbs < 2 ^ 4801 := lF1_lt _ (fun z hz' => hden z (List.mem_of_mem_take hz')) hle
      have hp : (0 : Int) < lF 1 ((rested R).take i) := lF_pos (by decide) _
      have zq := zr q (List.mem_of_getElem? hq)
      refine ⟨_, rfl, _, rfl, p, _, _, _, rfl, rfl, t, atI_nat (j := 1) rfl, lF 1 ((rested R).take i), (q.den : Int), rfl, rfl, mw hl zq.deni (by decide) zq.d0 (by decide), ?_⟩
      refine ⟨_, rfl, _, rfl, p, _, _, _, rfl, rfl, t, atI_nat (j := 1) rfl, lF 1 ((rested R).take i), (q.den : Int), rfl, _, _, rfl, rfl, wide_div (gI_pos (by have := den_pos' q; omega)) (Nat.lt_of_le_of_lt (abs_le_of_dvd (gI_dvd_left _ _) (by omega)) hl) (by decide) (by decide), rfl, some (.ref p), ?_⟩
      rw [take_snoc hq, lF_snoc, ← lcm_by hp (den_pos_int q)]
      rfl
    rintro σ' H'' ⟨rfl, o5, rfl⟩
    rw [hlen, ← lr, List.take_length]
    -- tops
    refine ⟨_, rfl, D, rfl, ⟨_, SqL.of hacc⟩, fun D2 hD2 => lc_map (walk_list (K := K) (a := D) (xs := acc)) hD2 (fun i x => acc[i]? = some x) yAt_of (fun i H v => ∃ q, (rested R)[i]? = some q ∧ v = .int (q.num * (lF 1 (rested R) / (q.den : Int)))) (by omega) (fun i H H' v e h => h) (fun H'' e => SqL.of (e _ _ hacc)) (fun i x H4 Q4 hi hx e4 k4 => ?_) fun H4 acc2 e4 hacc2 hlen2 hrel2 => ?_⟩
    · obtain ⟨q, hq, p, rfl, t⟩ := paired_at racc hx
      have t3 := t.ext e4
      have zq := zr q (List.mem_of_getElem? hq)
      refine ⟨_, rfl, p, _, _, _, rfl, rfl, t3, atI_nat (j := 0) rfl, _, rfl, _, rfl, p, _, _, _, rfl, rfl, t3, atI_nat (j := 1) rfl, lF 1 (rested R), (q.den : Int), rfl, rfl, wide_div (den_pos_int q) zq.deni zq.d0 (by decide), _, _, rfl, rfl, ?_, k4 H4 _ (Ext.refl _) ⟨q, hq, rfl⟩⟩
      exact mw zq.num (Nat.lt_of_le_of_lt (ediv_abs_le (dvd_lF (rested R) 1 q (List.mem_of_getElem? hq))) hwl) zq.n0 (by decide) (by decide)
    rw [hlen, ← lr] at hlen2 hrel2
    have etops : acc2 = (tops (lF 1 (rested R)) (rested R)).map V.int := by
      unfold tops
      rw [List.map_map]
      exact list_of_at hlen2 hrel2
    subst etops
    have htl : (tops (lF 1 (rested R)) (rested R)).length = (rested R).length := by unfold tops; rw [List.length_map]
    have hmem : ∀ x ∈ tops (lF 1 (rested R)) (rested R), x.natAbs < 2 ^ (161 + (1 + 40 * 120)) := fun x hx => tops_mem_lt zr (by omega) hx
    have elow : lowest (rested R) = if gcdL (tops (lF 1 (rested R)) (rested R)) = 0 then tops (lF 1 (rested R)) (rested R) else (tops (lF 1 (rested R)) (rested R)).map (· / gcdL (tops (lF 1 (rested R)) (rested R))) := rfl
    generalize tops (lF 1 (rested R)) (rested R) = ts at *
    -- part
    refine ⟨_, rfl, D2, rfl, ⟨_, SqL.of hacc2⟩, for_list (K := K) (a := D2) (xs := ts.map V.int) (fun i σ' H' => H' = H4 ∧ ∃ o10, σ' = [some (.ref a), some (.ref b), some (.bl R.wall), some (.int (gcdL R.ws)), o4, o5, some (.ref D), some (.int (lF 1 (rested R))), some (.ref D2), some (.int (gcdL (ts.take i))), o10]) ⟨rfl, _, rfl⟩ (fun i σ' H' _ h => by obtain ⟨rfl, _⟩ := h; exact SqL.of hacc2) ?_ ?_⟩
    · rintro i v σ' H' hv ⟨rfl, o10, rfl⟩
      rw [List.getElem?_map] at hv
      obtain ⟨y, hy, rfl⟩ := Option.map_eq_some_iff.mp hv
      refine ⟨_, rfl, _, rfl, gcdL (ts.take i), y, rfl, rfl, some (.int y), ?_⟩
      rw [take_snoc hy]
      show _ = [_, _, _, _, _, _, _, _, _, some (V.int (gF 0 (List.take i ts ++ [y]))), _]
      rw [gF_snoc]
      rfl
    rintro σ' H5 ⟨rfl, o10, rfl⟩
    rw [hlen2, ← htl, List.take_length]
    have hg := gcdL_nonneg ts
    have e05 : Ext H' H5 := Ext.trans e3 e4
    refine ⟨fun σ' H6 => ∃ (t : Addr) (o : Option V), σ' = [some (.ref a), some (.ref b), some (.bl R.wall), some (.int (gcdL R.ws)), o4, o5, some (.ref D), some (.int (lF 1 (rested R))), some (.ref t), some (.int (gcdL ts)), o] ∧ Ext H' H6 ∧ H6 t = some (.lst ((lowest (rested R)).map V.int)), ?_, ?_⟩
    · refine ⟨_, rfl, _, _, rfl, rfl, _, rfl, ite2 (fun hc => ?_) fun hc => ?_⟩
      · have h1 : 1 < gcdL ts := of_decide_eq_true hc
        rw [if_neg (by omega)] at elow
        refine ⟨_, rfl, D2, rfl, ⟨_, SqL.of hacc2⟩, fun D3 hD3 => lc_map (walk_list (K := K) (a := D2) (xs := ts.map V.int)) hD3 (fun i x => (ts.map V.int)[i]? = some x) yAt_of (fun i H v => ∃ q, ts[i]? = some q ∧ v = .int (q / gcdL ts)) (by omega) (fun i H H' v e h => h) (fun H'' e => SqL.of (e _ _ hacc2)) (fun i x H6 Q6 hi hx e6 k6 => ?_) fun H6 acc3 e6 hacc3 hlen3 hrel3 => ?_⟩
        · rw [List.getElem?_map] at hx
          obtain ⟨y, hy, rfl⟩ := Option.map_eq_some_iff.mp hx
          exact ⟨_, rfl, _, rfl, y, gcdL ts, rfl, rfl, wide_div (by omega) (gcd_mem_lt hmem) (by decide) (by decide), k6 H6 _ (Ext.refl _) ⟨y, hy, rfl⟩⟩
        · rw [hlen2, ← htl] at hlen3 hrel3
          have e5 : acc3 = (lowest (rested R)).map V.int := by
            rw [elow, List.map_map]
            exact list_of_at hlen3 hrel3
          subst e5
          exact ⟨D3, _, rfl, Ext.trans e05 e6, hacc3⟩
      · have h1 : ¬ 1 < gcdL ts := fun z => hc (decide_eq_true z)
        refine ⟨D2, _, rfl, e05, ?_⟩
        rw [elow]
        by_cases h0 : gcdL ts = 0
        · rw [if_pos h0]
          exact hacc2
        · rw [if_neg h0, show gcdL ts = 1 by omega, show ts.map (· / 1) = ts by rw [show (fun x : Int => x / 1) = id from funext fun x => Int.ediv_one x, List.map_id]]
          exact hacc2
    · rintro σ' H6 ⟨t, o, rfl, e6, ht⟩
      have ha6 := ha.ext e6
      have ll : (lowest (rested R)).length = (rested R).length := lowest_length _
      refine ⟨_, rfl, a, rfl, ⟨_, ha6⟩, fun D7 hD7 => lc_map (walk_list (K := K) (a := a) (xs := R.ws.map V.int)) hD7 (fun i x => (R.ws.map V.int)[i]? = some x) yAt_of (fun i H v => ∃ y, R.ws[i]? = some y ∧ v = .int (y / gcdL R.ws)) (by omega) (fun i H H' v e h => h) (fun H'' e => ha6.ext e) (fun i v H7 Q7 hi hv e7 k7 => ?_) fun H7 acc7 e7 hacc7 hlen7 hrel7 => ?_⟩
      · rw [List.getElem?_map] at hv
        obtain ⟨y, hy, rfl⟩ := Option.map_eq_some_iff.mp hv
        refine ⟨_, rfl, _, rfl, y, gcdL R.ws, rfl, rfl, ⟨by omega, log_lt (lt_up (gcd_mem_lt (m := 4) fun u hu => ?_) (by decide)) (by decide)⟩, k7 H7 _ (Ext.refl _) ⟨y, hy, ?_⟩⟩
        · have := g.w1 u hu
          have := g.w9 u hu
          show u.natAbs < 16
          omega
        · show V.int (y.fdiv (gcdL R.ws)) = _
          rw [Int.fdiv_eq_ediv_of_nonneg _ (by omega)]
      rw [lws] at hlen7 hrel7
      have ew : acc7 = (leastW R.ws).map V.int := by
        unfold leastW
        rw [List.map_map]
        exact list_of_at hlen7 hrel7
      subst ew
      refine ⟨D7, _, rfl, .inl ⟨SqL.of hacc7, fun q hq => ?_⟩⟩
      have e8 := Ext.trans e7 (ext_new (o := .tup ((leastW R.ws).map V.int)) hq)
      have ht8 := e8 _ _ ht
      refine ⟨_, rfl, t, rfl, ⟨_, SqL.of ht8⟩, fun D8 hD8 => lc_map (walk_list (K := K) (a := t) (xs := (lowest (rested R)).map V.int)) hD8 (fun i x => ((lowest (rested R)).map V.int)[i]? = some x) yAt_of (fun i H v => ∃ q, (castL (lowest (rested R)))[i]? = some q ∧ Rt K H v q) (by rw [List.length_map]; omega) (fun i H H' v e ⟨q, h1, h2⟩ => ⟨q, h1, h2.mono e⟩) (fun H'' e => SqL.of (e _ _ ht8)) (fun i v H9 Q9 hi hv e9 k9 => ?_) fun H9 acc9 e9 hacc9 hlen9 hrel9 => ?_⟩
      · rw [List.getElem?_map] at hv
        obtain ⟨y, hy, rfl⟩ := Option.map_eq_some_iff.mp hv
        refine ⟨_, rfl, by show 2 ≤ sizeLine; decide, fun p hp => k9 _ _ (ext_new hp) ⟨(y : Rat), ?_, p, rfl, SqT.of ?_⟩⟩
        · unfold castL
          rw [List.getElem?_map, hy]
          rfl
        · rw [upd_same]
          unfold RtP
          rw [Rat.num_intCast, Rat.den_intCast]
          rfl
      rw [List.length_map, ← castL_length] at hlen9 hrel9
      have r9 : Rts K H9 acc9 (castL (lowest (rested R))) := rts_of_at hlen9 hrel9
      refine ⟨D8, _, rfl, .inl ⟨SqL.of hacc9, fun r hr => ⟨by show 2 ≤ sizeLine; decide, fun p hp => ?_⟩⟩⟩
      have e10 := Ext.trans (ext_new (o := .tup acc9) hr) (ext_new (o := .tup [V.ref q, V.ref r]) hp)
      have e11 := Ext.trans (Ext.trans (Ext.trans e6 e8) e9) e10
      exact k _ _ e11 ⟨p, q, r, rfl, SqT.of upd_same, (SqT.of (K := K) (H := upd H7 q (.tup ((leastW R.ws).map V.int))) upd_same).ext (Ext.trans e9 e10), acc9, (SqT.of (K := K) (H := upd H9 r (.tup acc9)) upd_same).ext (ext_new hp), r9.mono (Ext.imm e10)⟩
end
end K06


set_option Elab.async false
set_option linter.all false
set_option maxRecDepth 100000
set_option maxHeartbeats 4000000
/-! D13: _law_settled, _law_lead, _law_equal. -/
namespace K06
open PySem PySem.Spec PyProof.Rows L2
theorem paired_snoc {α β : Type} {G : α → β → Prop} {x : α} {y : β} (h : G x y) : ∀ {l : List α} {m : List β}, Paired G l m → Paired G (l ++ [x]) (m ++ [y])
  | _, _, .nil => .cons h .nil
  | _, _, .cons r t => .cons r (paired_snoc h t)
/-- a comprehension over a list that keeps what a test lets through -/
theorem lc_filt {α : Type} {K : PySem.W.Frag} {a : Addr} {xs : List V} {as : List α} {k : Nat} {tt : TT} {te : TE} {σ : L2.St} {H1 : Hp} {D : Addr} {Qd : Hp → Prop} (hD : H1 D = none) (ha : SqL K H1 a xs) (Gd : V → α → Prop) (hp : Paired Gd xs as) (p : α → Bool) (hn : xs.length ≤ 1000)
    (ht : ∀ x u H Q, Gd x u → Ext H1 H → Q (p u) H → tt ((wipe σ [k]).set k (some x)) H Q) (he : ∀ x u H (Q : VK), Gd x u → Ext H1 H → Q x H → te ((wipe σ [k]).set k (some x)) H Q)
    (hd : ∀ H acc, Ext H1 H → H D = some (.lst acc) → Paired Gd acc (as.filter p) → Qd H) :
    ∃ W : Nat → Nat → Hp → Prop, (∃ m, W 0 m (upd H1 D (.lst []))) ∧ ∀ i m H, W i m H →
      ((Itl K a).stop i H ∧ Qd H) ∨ ((Itl K a).go i H ∧ ∃ Nx : Hp → Prop, (∀ H', Nx H' → ∃ m', m' < m ∧ W (i + 1) m' H') ∧ ∀ x H', (Itl K a).yld i H x H' → gName k x (wipe σ [k]) H' fun σ2 H2 => wipe σ2 [k] = wipe σ [k] ∧ tt σ2 H2 fun b H3 =>
        if b = true then te σ2 H3 fun y H4 => ∃ acc, H4 D = some (.lst acc) ∧ acc.length < sizeLine ∧ Nx (upd H4 D (.lst (acc ++ [y]))) else Nx H3) := by
  have hl : xs.length = as.length := Paired.len hp
  refine lc_it (walk_list (K := K) (a := a) (xs := xs)) (fun i H => Ext H1 H ∧ ∃ acc, H D = some (.lst acc) ∧ acc.length ≤ i ∧ Paired Gd acc ((as.take i).filter p))
    ⟨Ext.upd hD, [], upd_same, Nat.le_refl _, by rw [List.take_zero]; exact .nil⟩ (fun i H _ h => ha.ext h.1) (fun i x H H' hi h y => ?_) fun H h => ?_
  · obtain ⟨e1, acc, hacc, hlen, hr⟩ := h
    obtain ⟨rfl, hx⟩ := yAt_of i H x H' y
    obtain ⟨u, hu, gu⟩ := paired_at hp hx
    have et : (as.take (i + 1)).filter p = (as.take i).filter p ++ [u].filter p := by rw [take_snoc hu, List.filter_append]
    refine ⟨by show ((σ.set k none).set k (some x)).set k none = σ.set k none; rw [List.set_set, List.set_set], ?_⟩
    show tt ((wipe σ [k]).set k (some x)) H' _
    refine ht x u H' _ gu e1 ?_
    cases hpu : p u with
    | true =>
      refine iteT (he x u H' _ gu e1 ⟨acc, hacc, small1000 (by omega), ⟨fun b o q => ?_, acc ++ [x], upd_same, by rw [List.length_append]; exact Nat.succ_le_succ hlen, ?_⟩⟩)
      · have : b ≠ D := ne_of_none q hD
        rw [upd_ne this]
        exact e1 _ _ q
      · rw [et, List.filter_cons_of_pos hpu, List.filter_nil]
        exact paired_snoc gu hr
    | false =>
      refine iteF ⟨e1, acc, hacc, Nat.le_succ_of_le hlen, ?_⟩
      rw [et, List.filter_cons_of_neg (by rw [hpu]; decide), List.filter_nil, List.append_nil]
      exact hr
  · obtain ⟨e1, acc, hacc, _, hr⟩ := h
    rw [hl, List.take_length] at hr
    exact hd H acc e1 hacc hr
section
variable {P : Program} {w : World} {K : PySem.W.Frag} {mg : Str → Option Value} {base : Heap} {f C : Addr} {fd : FuncData}
/-! _law_settled -/
abbrev sSettled : Stmt := top 43
def spSettled (K : PySem.W.Frag) : Sp := fun vs H Q _ => ∃ (b : Addr) (xs : List V) (R : RV), vs = [.ref b, .bl R.wall] ∧ SqL K H b xs ∧ Rts K H xs R.vs ∧ Fit R ∧ ∀ H', Ext H H' → Q (.bl (settled R)) H'
abbrev nSettled : List Str := ["_law_speeds_here", "_law_shut", "_law_rested", "_law_v"]
theorem scSettled : FnScope nSettled ["_law_speeds_here", "_law_shut"] (defScope sSettled) := ⟨rfl, rfl, rfl, by decide +kernel, rfl, by decide +kernel, by decide +kernel⟩
def nz (q : Rat) : Bool := !decide (V.int q.num = V.int 0)
theorem settled_nz (l : List Rat) : (l.filter nz = []) ↔ l.all (fun x => decide (x = 0)) = true := by
  rw [List.filter_eq_nil_iff, List.all_eq_true]
  refine forall_congr' fun x => forall_congr' fun _ => ?_
  unfold nz
  have : (V.int x.num = V.int 0) ↔ x = 0 := ⟨fun z => Rat.num_eq_zero.mp (V.int.inj z), fun z => by rw [z]; rfl⟩
  simp only [this, Bool.not_eq_true', decide_eq_false_iff_not, Decidable.not_not, decide_eq_true_eq]
theorem ok_settled (F : FnP K "_law_settled" "_law_settled" sSettled [] f fd) (B : Blt mg) (Su : Def P w K mg base CX0 2 "_law_sub" ["_law_a", "_law_b"] (spLSub K)) :
    FnOk P w K mg base CX0 3 f fd ["_law_speeds_here", "_law_shut"] (spSettled K) := by
  refine F.ok scSettled (fun vs H Q E h => ?_) (fun cdv A outer s H vs Q E hr h => ?_)
  · obtain ⟨a, xs, R, rfl, _⟩ := h
    rfl
  · obtain ⟨b, xs, R, rfl, hb, hxs, fR, k⟩ := h
    have nd := scSettled.nd
    have hu := hr.units
    refine ⟨_, PSs.nox (pss_cons (ps_setLc (i := 2) (own := [("_law_v", 3)]) (g := gName 3) (tt := tYes) rfl nd rfl rfl (sw_true rfl rfl rfl (by decide +kernel)) (pi_list (pv 0)) (blkOk_by (N := nSettled) (sc := defScope sSettled) (by decide +kernel))
          (fun _ _ _ _ _ => pg_name (i := 3) nd rfl (Or.inl rfl)) (fun _ _ _ _ _ => pts_nil) (fun _ _ _ _ _ => pe_ifExp (pt_val (pv 1)) (pv 3) (pe_fn Su hr (pa_cons (pv 3) (pa_cons (pe_ix (ix_listK K) (pv 0) pe_int (fun _ _ => rfl)) pa_nil)))))
      (pss_one (ps_ret (pe_cmpR (op_neD hu) (pe_lc (own := [("_law_v", 3)]) (g := gName 3) rfl nd (pi_list (pv 2)) (blkOk_by (N := nSettled) (sc := defScope sSettled) (by decide +kernel))
          (fun _ _ _ _ _ => pg_name (i := 3) nd rfl (Or.inl rfl)) (fun _ _ _ _ _ => pts_one (pt_cmpR op_ne (pe_ix (ix_tupK K) (pv 3) pe_int (fun _ _ => rfl)) pe_int (nomark _))) (fun _ _ _ _ _ => pv 3)) (pe_lst pa_nil) (nomark _))))), ?_⟩
    have g := fR.g
    have n40 := g.n40
    have n1 := g.n1
    have len := g.len
    have lx : xs.length = R.vs.length := Paired.len hxs
    have lr := rested_length R
    obtain ⟨x0, hx0⟩ := get_lt (show 0 < xs.length by omega)
    obtain ⟨q0, hq0, rq0⟩ := paired_at hxs hx0
    refine ⟨_, rfl, b, rfl, ⟨_, hb⟩, fun D hD => lc_map (walk_list (K := K) (a := b) (xs := xs)) hD (fun i x => xs[i]? = some x) yAt_of (fun i H v => ∃ q, (rested R)[i]? = some q ∧ Rt K H v q) (by omega) (fun i H H' v e ⟨q, h1, h2⟩ => ⟨q, h1, h2.mono e⟩) (fun H'' e => hb.ext e) (fun i v H3 Q3 hi hv e3 k3 => ?_) fun H3 acc e3 hacc hlen hrel => ?_⟩
    · obtain ⟨q, hq, rq⟩ := paired_at hxs hv
      refine ⟨_, rfl, R.wall, rfl, ?_⟩
      cases hw : R.wall with
      | true => exact iteT ⟨_, rfl, k3 H3 v (Ext.refl _) ⟨q, by rw [rested_wall hw]; exact hq, rq.mono (Ext.imm e3)⟩⟩
      | false =>
        refine iteF ⟨_, rfl, _, rfl, b, _, _, _, rfl, rfl, hb.ext e3, atI_nat (j := 0) hx0, v, x0, q, q0, rfl, ⟨rq.mono (Ext.imm e3), rq0.mono (Ext.imm e3), 100, 60, 100, 60, fR.sz q (List.mem_of_getElem? hq), fR.sz q0 (List.mem_of_getElem? hq0), by decide, by decide⟩, fun H4 v4 e4 r4 => k3 H4 v4 e4 ⟨q - q0, ?_, r4⟩⟩
        unfold rested
        rw [List.getElem?_map, hq, v0_head hw hq0]
        rfl
    rw [lx] at hlen hrel
    have racc : Rts K H3 acc (rested R) := rts_of_at (by rw [hlen, lr]) fun i hi => hrel i (by rw [← lr]; exact hi)
    refine ⟨_, rfl, D, rfl, ⟨_, SqL.of hacc⟩, fun D2 hD2 => lc_filt (K := K) (a := D) (xs := acc) hD2 (SqL.of hacc) (fun x q => Rt K H3 x q) racc nz (by omega) (fun x q H4 Q4 rq e4 q4 => ?_) (fun x q H4 Q4 rq e4 q4 => ⟨_, rfl, q4⟩) fun H4 acc2 e4 hacc2 r2 => ?_⟩
    · obtain ⟨p, rfl, t⟩ := rq
      exact ⟨_, rfl, p, _, _, _, rfl, rfl, t.ext e4, atI_nat (j := 0) rfl, rfl, _, rfl, q4⟩
    · refine ⟨by show 0 ≤ sizeLine; decide, fun p hp => ?_⟩
      have e5 := ext_new (o := .lst []) hp
      have r5 : Rts K (upd H4 p (.lst [])) acc2 ((rested R).filter nz) := Rts.mono r2 (Ext.imm (Ext.trans e4 e5))
      refine ned shpRatL (by decide) (dp_ratL (SqL.of (e5 _ _ hacc2)) r5) (dp_ratL (SqL.of upd_same) (qs := []) .nil) fun c hc => ?_
      have ec : (!c) = settled R := by
        unfold settled
        rw [settled_nz] at hc
        congr 1
        exact Bool.eq_iff_iff.mpr hc
      rw [ec]
      exact k _ (Ext.trans (Ext.trans e3 e4) e5)
end
end K06


set_option Elab.async false
set_option linter.all false
set_option maxRecDepth 100000
set_option maxHeartbeats 4000000
/-! D14: _law_lead, _law_equal. -/
namespace K06
open PySem PySem.Spec PyProof.Rows L2
section
variable {X : Cx} {k : Nat} {x : Str} {ps : List Str} {sp : Sp} {E : L2.St → XK} {p pos : Pos} {e : Expr} {es : List Expr} {t : TA}
/-- a def of the module called in a try -/
theorem pe_fnS (D : Def X.prog X.w X.K X.mg X.base (L2.CX X.prog X.w) k x ps sp) (hr : Room k X.A) (hx : ∀ σ, PassesAt (L2.CX X.prog X.w) X σ (E σ)) (ha : PA X (e :: es) t) (hg : Gl X x := by rfl) (hdb : (x == ("__debug__" : Str)) = false := by decide)
    (he : starEach (e :: es) X.env = (false, eval e X.env) :: starEach es X.env := by rfl) (hpl : (backTo pos (starEach es X.env)).any (·.1) = false := by rfl) : PE X (.Call (.Name x p) (e :: es) [] pos) (tCallS sp E t) := by
  obtain ⟨f, fd, F, m, kp, b⟩ := D.ex
  exact pe_callS F hr hg m kp b hx ha hdb he hpl
end
section
variable {P : Program} {w : World} {K : PySem.W.Frag} {mg : Str → Option Value} {base : Heap} {f C : Addr} {fd : FuncData}
/-! _law_lead -/
abbrev sLLead : Stmt := top 42
def dWeight (i : Nat) : PyData := .list [.str "weight", .int (i : Int), .str "weight"]
def dWall : PyData := .list [.str "wall"]
def spLLead (K : PySem.W.Frag) (C D : Addr) : Sp := fun vs H Q _ => ∃ (z x : Addr) (k : KV) (R : RV), vs = [.ref z, .ref x] ∧ KinAt K D H z k ∧ RowAt K C H x R ∧ Good R ∧ LeadSz k R ∧
  (∀ S, lead k R = .row S → gives (fun H' v => ∃ y, v = .ref y ∧ RowAt K C H' y S) H Q) ∧ (∀ i, lead k R = .weight i → gives (fun H' v => Dp K H' v (dWeight i)) H Q) ∧ (lead k R = .wall → gives (fun H' v => Dp K H' v dWall) H Q)
abbrev nLLead : List Str := ["_law_kin", "_law_row", "e"]
theorem scLLead : FnScope nLLead ["_law_kin", "_law_row"] (defScope sLLead) := ⟨rfl, rfl, rfl, by decide +kernel, rfl, by decide +kernel, by decide +kernel⟩
/-- what the two except clauses ask of the written part -/
structure TryX (K : PySem.W.Frag) (mg : Str → Option Value) (B N : Addr) : Prop where
  mb : mg "BadRow" = some (.ref B)
  mn : mg "NoHurry" = some (.ref N)
  x : XfC K B
  i : PySem.W.findIn K (.ref B) "index" = some none
  w : PySem.W.findIn K (.ref B) "what" = some none
  bb : PySem.W.exmOne K (.ref B) (.ref B) = some true
  nb : PySem.W.exmOne K (.ref N) (.ref B) = some false
  nn : PySem.W.exmOne K (.ref N) (.ref N) = some true
theorem ok_llead {D Bd N : Addr} (F : FnP K "_law_lead" "_law_lead" sLLead [] f fd) (T : TryX K mg Bd N) (L : Def P w K mg base (L2.CX P w) 8 "lead_along" ["kin", "row"] (spLead K C D Bd N)) : FnOk P w K mg base CX0 9 f fd ["_law_kin", "_law_row"] (spLLead K C D) := by
  refine F.ok scLLead (fun vs H Q E h => ?_) (fun cdv A outer s H vs Q E hr h => ?_)
  · obtain ⟨a, xs, R, k, rfl, _⟩ := h
    rfl
  · obtain ⟨z, x, k, R, rfl, hK, hR, g, sz, k1, k2, k3⟩ := h
    have nd := scLLead.nd
    refine ⟨_, PSs.nox (pss_one (ps_try2 (i := 2) (tb := fun W => tRet (tCallS (spLead K C D Bd N) (WE W) (tCons (tVar 0) (tCons (tVar 1) tNil))))
        (ts := fun a cls d => tRet (tLst (tCons (tC (.str "weight")) (tCons (tXf a cls d Bd "index" (tVar 2)) (tCons (tXf a cls d Bd "what" (tVar 2)) tNil)))))
        (ts2 := fun a cls d => tRet (tLst (tCons (tC (.str "wall")) tNil))) rfl rfl nd rfl rfl ⟨rfl, by decide, .inl T.mb⟩ ⟨rfl, by decide, .inl T.mn⟩
        (fun W pn xe tk _ => pss_one (ps_ret (by exact (pe_fnS L hr (fun σ => passAt tk σ) (by exact (pa_cons (pv 0) (pa_cons (pv 1) pa_nil)))))))
        (fun a oe cls d pn hz hf => pss_one (ps_ret (by exact pe_lst (pa_cons pe_str (pa_cons (pe_xf T.x T.i hz hf (pv 2)) (pa_cons (pe_xf T.x T.w hz hf (pv 2)) pa_nil))))))
        (fun a oe cls d pn hz hf => pss_one (ps_ret (by exact pe_lst (pa_cons pe_str pa_nil)))))), ?_⟩
    refine ⟨_, rfl, _, rfl, z, x, k, R, rfl, hK, hR, g, sz, k1, fun i hi => ?_, fun hl H' e' => ?_⟩
    · intro H' d fs e' hd l1 l2
      refine .inl ⟨T.bb, fun a ha => ?_⟩
      refine ⟨_, rfl, rfl, rfl, d, fs, _, rfl, hd, l1, _, rfl, rfl, rfl, d, fs, _, rfl, hd, l2, by show 3 ≤ sizeLine; decide, fun p hp => k2 i hi _ _ (e'.upd' hp) (.lst (SqL.of upd_same) (.cons (.str _) (.cons (.int _) (.cons (.str _) .nil))))⟩
    · exact .inr ⟨T.nb, T.nn, fun a ha => ⟨by show 1 ≤ sizeLine; decide, fun p hp => k3 hl _ _ (e'.upd' hp) (.lst (SqL.of upd_same) (.cons (.str _) .nil))⟩⟩
/-! _law_equal -/
abbrev sEqual : Stmt := top 45
def spEqual (K : PySem.W.Frag) : Sp := fun vs H Q _ => ∃ (a b c : V) (k : KV), vs = [a, b, c] ∧ Rt K H a k.f ∧ Rt K H b k.p ∧ Rt K H c k.m ∧ Sz 100 60 k.f ∧ Sz 100 60 k.p ∧ Sz 100 60 k.m ∧ ∀ H', Ext H H' → Q (.bl true) H'
abbrev nEqual : List Str := ["_law_factor", "_law_pace", "_law_more", "_law_kin", "_law_other"]
theorem scEqual : FnScope nEqual ["_law_factor", "_law_pace", "_law_more"] (defScope sEqual) := ⟨rfl, rfl, rfl, by decide +kernel, rfl, by decide +kernel, by decide +kernel⟩
/-- kins beside kins, tuples and numbers -/
structure KinX (K : PySem.W.Frag) (D : Addr) : Prop where
  i : InsC K D
  nt : PySem.W.notFirst K D (.type "tuple") = true
  ni : PySem.W.notFirst K D (.type "int") = true
  kt : PySem.W.kitOne K (.type "tuple") (.ref D) = some false
  ki : PySem.W.kitOne K (.type "int") (.ref D) = some false
theorem eq_kins {D x y : Addr} {k l : KV} {H : Hp} {Q : VK} (N : InsC K D) (hR : KinAt K D H x k) (hS : KinAt K D H y l) (q : ∀ c : Bool, (c = true ↔ k = l) → Q (.bl c) H) : rOwnEq K D (spKinEq K D) (.ref x) (.ref y) H Q := by
  obtain ⟨dx, fs, _, _, _, hx, _⟩ := id hR
  obtain ⟨dy, gs, _, _, _, hy, _⟩ := id hS
  exact ⟨x, dx, fs, .ref D, rfl, hx, tyIns N hy, notFirst_self, x, .ref y, k, rfl, hR, .inl ⟨y, l, rfl, hS, fun c hc => ⟨⟨c, rfl⟩, q c hc⟩⟩⟩
theorem dp_kin {H : Hp} {p : Addr} {a b c : V} {k : KV} (h : SqT K H p [a, b, c]) (ra : Rt K H a k.f) (rb : Rt K H b k.p) (rc : Rt K H c k.m) : Dp K H (.ref p) (dKin k) := .tup h (.cons (dp_rat ra) (.cons (dp_rat rb) (.cons (dp_rat rc) .nil)))
theorem rt_one {H : Hp} {p : Addr} (h : H p = some (.tup [.int 1, .int 1])) : Rt K H (.ref p) 1 := ⟨p, rfl, SqT.of h⟩
theorem add_one_ne (q : Rat) : q ≠ q + 1 := fun h => by
  have : (0 : Rat) = 1 := by grind
  exact absurd this (by decide)
theorem sz_one : Sz 1 1 1 := ⟨by decide, by decide, by decide, by decide⟩
theorem ok_equal {D : Addr} (F : FnP K "_law_equal" "_law_equal" sEqual [] f fd) (T : KinC K mg D) (N : KinX K D) (Mk : Mak P w K mg base 1 "Kin" D (spKinInit K D)) (Eq : EqOf P w K mg base 1 D (spKinEq K D)) (Ad : Def P w K mg base CX0 2 "_law_add" ["_law_a", "_law_b"] (spLAdd K)) :
    FnOk P w K mg base CX0 3 f fd ["_law_factor", "_law_pace", "_law_more"] (spEqual K) := by
  refine F.ok scEqual (fun vs H Q E h => ?_) (fun cdv A outer s H vs Q E hr h => ?_)
  · obtain ⟨a, b, c, k, rfl, _⟩ := h
    rfl
  · obtain ⟨a, b, c, k, rfl, ra, rb, rc, za, zb, zc, q⟩ := h
    have nd := scEqual.nd
    have hu := hr.units
    have hr1 : Room 1 _ := hr.mono (by decide)
    refine ⟨_, PSs.nox (pss_cons (ps_set (i := 3) nd rfl (.inl rfl) (pe_mkI Mk (fun _ _ _ _ => kin_made) hr (by decide) (pa_cons (pv 0) (pa_cons (pv 1) (pa_cons (pv 2) pa_nil)))))
      (pss_cons (ps_if (PW.pt (pw_or (pt_cmpR (op_neD hu) (pe_tup (pa_cons (pe_fld (pv 3) rfl) (pa_cons (pe_fld (pv 3) rfl) (pa_cons (pe_fld (pv 3) rfl) pa_nil)))) (pe_tup (pa_cons (pv 0) (pa_cons (pv 1) (pa_cons (pv 2) pa_nil)))) (nomark _))
          (pw_or1 (pt_not (pt_cmpR (op_eqOf Eq hr1) (pv 3) (pe_mkI Mk (fun _ _ _ _ => kin_made) hr (by decide) (pa_cons (pv 0) (pa_cons (pv 1) (pa_cons (pv 2) pa_nil)))) (nomark _)))))) (pss_one (ps_ret pe_bl)) pss_nil)
      (pss_cons (ps_for PassesOwn.never rfl (pi_list (pe_lst (pa_cons (pe_mkI Mk (fun _ _ _ _ => kin_made) hr (by decide) (pa_cons (pe_fn Ad hr (pa_cons (pv 0) (pa_cons (pe_tup (pa_cons pe_int (pa_cons pe_int pa_nil))) pa_nil))) (pa_cons (pv 1) (pa_cons (pv 2) pa_nil))))
          (pa_cons (pe_mkI Mk (fun _ _ _ _ => kin_made) hr (by decide) (pa_cons (pv 0) (pa_cons (pe_fn Ad hr (pa_cons (pv 1) (pa_cons (pe_tup (pa_cons pe_int (pa_cons pe_int pa_nil))) pa_nil))) (pa_cons (pv 2) pa_nil)))) pa_nil)))) (pg_name (i := 4) nd rfl (.inl rfl))
        (pss_one (ps_if (pt_cmpR (op_eqOf Eq hr1) (pv 3) (pv 4) (nomark _)) (pss_one (ps_ret pe_bl)) pss_nil)))
      (pss_one (ps_ret (pe_and (pe_not (pe_cmpR (op_eqOf Eq hr1) (pv 3) (pe_mkI Mk (fun _ _ _ _ => kin_made) hr (by decide) (pa_cons (pv 0) (pa_cons (pv 1) (pa_cons (pe_fn Ad hr (pa_cons (pv 2) (pa_cons (pe_tup (pa_cons pe_int (pa_cons pe_int pa_nil))) pa_nil))) pa_nil)))) (nomark _)))
        (pe_and (pe_not (pe_cmpR (op_eqOf Eq hr1) (pv 3) (pe_tup (pa_cons (pv 0) (pa_cons (pv 1) (pa_cons (pv 2) pa_nil)))) (nomark _)))
        (pe_one (pe_not (pe_cmpR (op_eqOf Eq hr1) (pv 3) pe_int (nomark _))))))))))), ?_⟩
    refine ⟨_, rfl, _, rfl, _, rfl, a, b, c, k, rfl, ra, rb, rc, fun H1 v1 e1 r1 => ?_⟩
    obtain ⟨x, rfl, hx⟩ := r1
    have re : ∀ {H' : Hp}, Ext H1 H' → Rt K H' a k.f ∧ Rt K H' b k.p ∧ Rt K H' c k.m ∧ KinAt K D H' x k := fun {H'} e => ⟨ra.mono (Ext.imm (Ext.trans e1 e)), rb.mono (Ext.imm (Ext.trans e1 e)), rc.mono (Ext.imm (Ext.trans e1 e)), hx.mono (Ext.imm e)⟩
    obtain ⟨dx, fs, fa, fb, fc, hi, ⟨la, lb, lc⟩, rfa, rfb, rfc⟩ := id hx
    -- the fields
    refine ⟨_, rfl, x, D, dx, _, _, rfl, hi, T.cl, T.f, la, _, rfl, x, D, dx, _, _, rfl, hi, T.cl, T.p, lb, _, rfl, x, D, dx, _, _, rfl, hi, T.cl, T.m, lc, by show 3 ≤ sizeLine; decide, fun p1 hp1 => ?_⟩
    refine ⟨_, rfl, _, rfl, _, rfl, by show 3 ≤ sizeLine; decide, fun p2 hp2 => ?_⟩
    have eP := ext_new (o := .tup [fa, fb, fc]) hp1
    have eP2 := ext_new (o := .tup [a, b, c]) hp2
    have eR := Ext.trans eP eP2
    obtain ⟨ra2, rb2, rc2, hx2⟩ := re eR
    refine ned shpKin (by decide) (dp_kin (SqT.ext (SqT.of upd_same) eP2) (rfa.mono (Ext.imm eR)) (rfb.mono (Ext.imm eR)) (rfc.mono (Ext.imm eR))) (dp_kin (SqT.of upd_same) ra2 rb2 rc2) fun c1 h1 => ?_
    refine ⟨_, rfl, iteN (notB (h1.mpr rfl)) ?_⟩
    refine ⟨_, rfl, _, rfl, _, rfl, _, rfl, a, b, c, k, rfl, ra2, rb2, rc2, fun H3 v3 e3 r3 => ?_⟩
    obtain ⟨y, rfl, hy⟩ := r3
    have e13 := Ext.trans eR e3
    refine eq_kins N.i (re e13).2.2.2 hy fun c2 h2 => ⟨_, rfl, iteN (notB (h2.mpr rfl)) ?_⟩
    -- the others
    refine ⟨_, rfl, by show 2 ≤ sizeLine; decide, fun q1 hq1 => ?_⟩
    have e4 := Ext.trans e13 (ext_new (o := .tup [.int 1, .int 1]) hq1)
    refine ⟨a, .ref q1, k.f, 1, rfl, ⟨(re e4).1, rt_one upd_same, 100, 60, 1, 1, za, sz_one, by decide, by decide⟩, fun H5 v5 e5 r5 => ?_⟩
    have e15 := Ext.trans e4 e5
    refine ⟨_, rfl, _, rfl, v5, b, c, ⟨k.f + 1, k.p, k.m⟩, rfl, r5, (re e15).2.1, (re e15).2.2.1, fun H6 v6 e6 r6 => ?_⟩
    obtain ⟨y1, rfl, hy1⟩ := r6
    have e16 := Ext.trans e15 e6
    refine ⟨_, rfl, _, rfl, by show 2 ≤ sizeLine; decide, fun q2 hq2 => ?_⟩
    have e7 := Ext.trans e16 (ext_new (o := .tup [.int 1, .int 1]) hq2)
    refine ⟨b, .ref q2, k.p, 1, rfl, ⟨(re e7).2.1, rt_one upd_same, 100, 60, 1, 1, zb, sz_one, by decide, by decide⟩, fun H8 v8 e8 r8 => ?_⟩
    have e18 := Ext.trans e7 e8
    refine ⟨_, rfl, a, v8, c, ⟨k.f, k.p + 1, k.m⟩, rfl, (re e18).1, r8, (re e18).2.2.1, fun H9 v9 e9 r9 => ?_⟩
    obtain ⟨y2, rfl, hy2⟩ := r9
    have e19 := Ext.trans e18 e9
    refine ⟨by show 2 ≤ sizeLine; decide, fun l hl => ?_⟩
    have eL := ext_new (o := .lst [V.ref y1, V.ref y2]) hl
    have e20 := Ext.trans e19 eL
    have hy1' := hy1.mono (Ext.imm (Ext.trans (Ext.trans (Ext.trans (ext_new (o := .tup [.int 1, .int 1]) hq2) e8) e9) eL))
    have hy2' := hy2.mono (Ext.imm eL)
    refine ⟨l, rfl, ⟨_, SqL.of upd_same⟩, for_list (K := K) (a := l) (xs := [V.ref y1, V.ref y2]) (fun i σ' H' => H' = upd H9 l (.lst [V.ref y1, V.ref y2]) ∧ ∃ o, σ' = [some a, some b, some c, some (.ref x), o]) ⟨rfl, _, rfl⟩ (fun i σ' H' _ h => by obtain ⟨rfl, _⟩ := h; exact SqL.of upd_same) ?_ ?_⟩
    · rintro i v σ' H' hv ⟨rfl, o, rfl⟩
      have : ∃ z l', v = V.ref z ∧ KinAt K D (upd H9 l (.lst [V.ref y1, V.ref y2])) z l' ∧ k ≠ l' := by
        match i, hv with
        | 0, hv =>
          refine ⟨y1, _, (Option.some.inj hv).symm, hy1', fun z => ?_⟩
          exact add_one_ne k.f (congrArg KV.f z)
        | 1, hv =>
          refine ⟨y2, _, (Option.some.inj hv).symm, hy2', fun z => ?_⟩
          exact add_one_ne k.p (congrArg KV.p z)
        | i + 2, hv => cases hv
      obtain ⟨z, l', rfl, hz, hne⟩ := this
      refine ⟨_, rfl, _, rfl, eq_kins N.i (re e20).2.2.2 hz fun c3 h3 => ⟨_, rfl, iteN (by cases c3 with | false => rfl | true => exact absurd (h3.mp rfl) hne) ⟨rfl, _, rfl⟩⟩⟩
    rintro σ' H' ⟨rfl, o, rfl⟩
    -- the last three
    refine ⟨_, rfl, _, rfl, _, rfl, _, rfl, by show 2 ≤ sizeLine; decide, fun q3 hq3 => ?_⟩
    have e21 := Ext.trans e20 (ext_new (o := .tup [.int 1, .int 1]) hq3)
    refine ⟨c, .ref q3, k.m, 1, rfl, ⟨(re e21).2.2.1, rt_one upd_same, 100, 60, 1, 1, zc, sz_one, by decide, by decide⟩, fun H10 v10 e10 r10 => ?_⟩
    have e22 := Ext.trans e21 e10
    refine ⟨a, b, v10, ⟨k.f, k.p, k.m + 1⟩, rfl, (re e22).1, (re e22).2.1, r10, fun H11 v11 e11 r11 => ?_⟩
    obtain ⟨y3, rfl, hy3⟩ := r11
    have e23 := Ext.trans e22 e11
    refine eq_kins N.i (re e23).2.2.2 hy3 fun c4 h4 => ⟨c4, rfl, _, rfl, iteB (by cases c4 with | false => rfl | true => exact absurd (congrArg KV.m (h4.mp rfl)) (add_one_ne k.m)) ?_⟩
    refine ⟨_, rfl, _, rfl, _, rfl, _, rfl, by show 3 ≤ sizeLine; decide, fun p4 hp4 => ?_⟩
    have e24 := Ext.trans e23 (ext_new (o := .tup [a, b, c]) hp4)
    have kx := (re e24).2.2.2
    obtain ⟨dx', fs', _, _, _, hi', _⟩ := id kx
    refine ⟨x, dx', fs', .type "tuple", rfl, hi', ty_tup (SqT.of upd_same), N.nt, x, _, k, rfl, kx, .inr ⟨_, ty_tup (SqT.of upd_same), N.kt, ⟨false, rfl⟩, false, rfl, true, rfl, iteT ?_⟩⟩
    refine ⟨_, rfl, x, dx', fs', .type "int", rfl, hi', .base (.int 0), N.ni, x, _, k, rfl, kx, .inr ⟨_, .base (.int 0), N.ki, ⟨false, rfl⟩, false, rfl, ?_⟩⟩
    exact q _ (Ext.trans e1 e24)
end
end K06


set_option Elab.async false
set_option linter.all false
set_option maxRecDepth 100000
set_option maxHeartbeats 4000000
/-! D15: _law_hand, _law_draw. -/
namespace K06
open PySem PySem.Spec PyProof.Rows L2
/-- the law's hand -/
structure HandS (K : PySem.W.Frag) (H : Hp) (h L : Addr) (cs : List Int) (i : Nat) (r s : Int) : Prop where
  at_ : H h = some (.lst [.ref L, .int (i : Int), .int r, .int s])
  lst : H L = some (.lst (cs.map V.int))
  ne : L ≠ h
  len : cs.length ≤ 1000
  pos : ∀ c ∈ cs, 0 ≤ c
  i : i ≤ 1000
  r : 0 ≤ r
  s0 : 0 ≤ s
  s1 : s < 2147483648
def HandAt (K : PySem.W.Frag) (H : Hp) (h L : Addr) : Prop := ∃ cs i r s, HandS K H h L cs i r s
theorem HandAt.ext {K : PySem.W.Frag} {H H' : Hp} {h L : Addr} (a : HandAt K H h L) (e : Ext H H') : HandAt K H' h L := by
  obtain ⟨cs, i, r, s, x⟩ := a
  exact ⟨cs, i, r, s, e _ _ x.at_, e _ _ x.lst, x.ne, x.len, x.pos, x.i, x.r, x.s0, x.s1⟩
theorem HandS.put {K : PySem.W.Frag} {H : Hp} {h L : Addr} {cs : List Int} {i i' : Nat} {r r' s s' : Int} (x : HandS K H h L cs i r s) (hi : i' ≤ 1000) (hr : 0 ≤ r') (h0 : 0 ≤ s') (h1 : s' < 2147483648) :
    HandS K (upd H h (.lst [.ref L, .int (i' : Int), .int r', .int s'])) h L cs i' r' s' := ⟨upd_same, by rw [upd_ne x.ne]; exact x.lst, x.ne, x.len, x.pos, hi, hr, h0, h1⟩
section
variable {P : Program} {w : World} {K : PySem.W.Frag} {mg : Str → Option Value} {base : Heap} {f C : Addr} {fd : FuncData}
/-! _law_hand -/
abbrev sHand : Stmt := top 32
def spHand (K : PySem.W.Frag) : Sp := fun vs H Q _ => ∃ (a : Addr) (zs : List Int), vs = [.ref a] ∧ SqL K H a (zs.map V.int) ∧ zs.length ≤ 1000 ∧ gives (fun H' v => ∃ h L, v = .ref h ∧ HandAt K H' h L) H Q
abbrev nHand : List Str := ["_law_script", "_law_total", "_law_k", "_law_cell"]
theorem scHand : FnScope nHand ["_law_script"] (defScope sHand) := ⟨rfl, rfl, rfl, by decide +kernel, rfl, by decide +kernel, by decide +kernel⟩
theorem ok_hand (F : FnP K "_law_hand" "_law_hand" sHand [] f fd) (B : Blt mg) : FnOk P w K mg base CX0 1 f fd ["_law_script"] (spHand K) := by
  refine F.ok scHand (fun vs H Q E h => ?_) (fun cdv A outer s H vs Q E hr h => ?_)
  · obtain ⟨a, zs, rfl, _⟩ := h
    rfl
  · obtain ⟨a, zs, rfl, ha, hz, k⟩ := h
    have nd := scHand.nd
    refine ⟨_, PSs.nox (pss_cons (ps_set (i := 1) nd rfl (.inl rfl) pe_int)
      (pss_cons (ps_for PassesOwn.never rfl (pi_enum (by rfl) B.enum (pa_cons (pv 0) pa_nil)) (pg_tup rfl (pgs_cons (pg_name (i := 2) nd rfl (.inl rfl)) (pgs_cons (pg_name (i := 3) nd rfl (.inl rfl)) pgs_nil)))
        (pss_one (ps_set (i := 1) nd rfl (.inl rfl) (pe_op op_modR (pe_callTy call_int1 (by rfl) B.int (by decide +kernel) (pa_cons (pe_op op_add (pe_op op_mul (pv 1) pe_int) (pe_op op_mul (pe_callTy call_int1 (by rfl) B.int (by decide +kernel) (pa_cons (pv 3) pa_nil)) (pe_op op_add (pv 2) pe_int))) pa_nil)) pe_int))))
      (pss_one (ps_ret (pe_lst (pa_cons (pe_lc (own := [("_law_cell", 3)]) (g := gName 3) (tt := tYes) rfl nd (pi_list (pv 0)) (blkOk_by (N := nHand) (sc := defScope sHand) (by decide +kernel))
          (fun _ _ _ _ _ => pg_name (i := 3) nd rfl (Or.inl rfl)) (fun _ _ _ _ _ => pts_nil) (fun _ _ _ _ _ => pe_callB call_abs (by rfl) B.abs (by decide +kernel) (pa_cons (pe_callTy call_int1 (by rfl) B.int (by decide +kernel) (pa_cons (pv 3) pa_nil)) pa_nil)))
        (pa_cons pe_int (pa_cons pe_int (pa_cons (pv 1) pa_nil))))))))), ?_⟩
    have lz : (zs.map V.int).length = zs.length := List.length_map ..
    refine ⟨_, rfl, a, zs.map V.int, rfl, ha, for_it (walk_enum (K := K) (a := a) (xs := zs.map V.int)) (fun i σ' H' => Ext H H' ∧ ∃ (t : Int) (o2 o3 : Option V), 0 ≤ t ∧ t < 2147483648 ∧ σ' = [some (.ref a), some (.int t), o2, o3]) ⟨Ext.refl _, 0, none, none, by decide, by decide, rfl⟩ (fun i σ' H' hi h => ha.ext h.1) (fun i u σ' H' H'' hi h y => ?_) fun σ' H' h => ?_⟩
    · obtain ⟨e, t, o2, o3, t0, t1, rfl⟩ := h
      obtain ⟨T', u1, u2, rfl, hT, rfl, hu1, hu2⟩ := y
      have hu1 : some (V.int (i : Int)) = some u1 := hu1
      obtain rfl := Option.some.inj hu1
      have hu2 : (zs.map V.int)[i]? = some u2 := hu2
      rw [List.getElem?_map] at hu2
      obtain ⟨z, hz', rfl⟩ := Option.map_eq_some_iff.mp hu2
      have e2 := Ext.trans e (ext_new (o := .tup [V.int (i : Int), V.int z]) hT)
      refine ⟨T', _, rfl, SqT.of upd_same, rfl, _, _, rfl, _, _, rfl, rfl, ?_⟩
      exact ⟨_, rfl, t, 31, rfl, rfl, .inr ⟨by decide, by decide⟩, _, rfl, .inl ⟨z, rfl, _, rfl, (i : Int), 7, rfl, rfl, z, _, rfl, rfl, .inr ⟨by omega, by omega⟩, _, _, rfl, rfl, .inl ⟨_, rfl, _, 2147483629, rfl, rfl, by decide, fun r r0 r1 _ => ⟨e2, r, _, _, r0, by omega, rfl⟩⟩⟩⟩
    · obtain ⟨e, t, o2, o3, t0, t1, rfl⟩ := h
      have ha' := ha.ext e
      refine ⟨_, rfl, a, rfl, ⟨_, ha'⟩, fun D hD => lc_map (walk_list (K := K) (a := a) (xs := zs.map V.int)) hD (fun i x => (zs.map V.int)[i]? = some x) yAt_of (fun i H v => ∃ z, zs[i]? = some z ∧ v = .int (if z < 0 then -z else z)) (by omega) (fun i H H' v e h => h) (fun H'' e => ha'.ext e) (fun i v H4 Q4 hi hv e4 k4 => ?_) fun H4 acc e4 hacc hlen hrel => ?_⟩
      · rw [List.getElem?_map] at hv
        obtain ⟨y, hy, rfl⟩ := Option.map_eq_some_iff.mp hv
        exact ⟨_, rfl, .inl ⟨y, rfl, y, rfl, k4 H4 _ (Ext.refl _) ⟨y, hy, rfl⟩⟩⟩
      rw [lz] at hlen hrel
      have ec : acc = (zs.map fun z : Int => if z < 0 then -z else z).map V.int := by
        rw [List.map_map]
        exact list_of_at hlen hrel
      refine ⟨_, rfl, by show 4 ≤ sizeLine; decide, fun h hh => k _ _ (Ext.trans (Ext.trans e e4) (ext_new hh)) ⟨h, D, rfl, zs.map fun z : Int => if z < 0 then -z else z, 0, 0, t, upd_same, ?_, ?_, ?_, ?_, by decide, by decide, t0, t1⟩⟩
      · rw [← ec]
        exact ext_new hh _ _ hacc
      · intro z
        rw [z, hh] at hacc
        cases hacc
      · rw [List.length_map]
        exact hz
      · intro c hc
        obtain ⟨z, _, rfl⟩ := List.mem_map.mp hc
        exact abs_nn z
/-! _law_draw -/
abbrev sDraw : Stmt := top 33
def spDraw (K : PySem.W.Frag) : Sp := fun vs H Q _ => ∃ (h L : Addr) (m : Int), vs = [.ref h, .int m] ∧ HandAt K H h L ∧ 0 < m ∧ m.natAbs < 2 ^ 60 ∧ ∀ H' r, But h H H' → HandAt K H' h L → 0 ≤ r → r < m → Q (.int r) H'
abbrev nDraw : List Str := ["_law_hand_here", "_law_many", "_law_cell", "_law_rest"]
theorem scDraw : FnScope nDraw ["_law_hand_here", "_law_many"] (defScope sDraw) := ⟨rfl, rfl, rfl, by decide +kernel, rfl, by decide +kernel, by decide +kernel⟩
theorem ok_draw (F : FnP K "_law_draw" "_law_draw" sDraw [] f fd) (B : Blt mg) (Mx : Def P w K mg base CX0 1 "_law_mix" ["_law_number", "_law_turn"] spMix) : FnOk P w K mg base CX0 2 f fd ["_law_hand_here", "_law_many"] (spDraw K) := by
  refine F.ok scDraw (fun vs H Q E h => ?_) (fun cdv A outer s H vs Q E hr h => ?_)
  · obtain ⟨a, L, m, rfl, _⟩ := h
    rfl
  · obtain ⟨h, L, m, rfl, ⟨cs, i, r, sd, hS⟩, m0, m1, k⟩ := h
    have nd := scDraw.nd
    refine ⟨_, PSs.nox (C8.pss_cut (ps_if (PW.pt (pw_and (pt_cmpR op_eq (pe_ix ix_list (pv 0) pe_int (fun _ _ => rfl)) pe_int (nomark _)) (pw_and1 (pt_cmpR op_lt (pe_ix ix_list (pv 0) pe_int (fun _ _ => rfl)) (pe_callB call_len_seq (by rfl) B.len PySem.boot_len (pa_cons (pe_ix ix_list (pv 0) pe_int (fun _ _ => rfl)) pa_nil)) (nomark _)))))
        (pss_cons (ps_set (i := 2) nd rfl (.inl rfl) (pe_ix ix_list (pe_ix ix_list (pv 0) pe_int (fun _ _ => rfl)) (pe_ix ix_list (pv 0) pe_int (fun _ _ => rfl)) (fun _ _ => rfl)))
        (pss_cons (ps_asg (pe_op op_add (pe_ix ix_list (pv 0) pe_int (fun _ _ => rfl)) pe_int) (pg_sub (pv 0) pe_int set_list))
        (pss_cons (ps_if (pt_cmpR op_lt (pv 2) (pe_op op_pow pe_int pe_int) (nomark _)) (pss_one (ps_ret (pe_op op_modR (pe_callTy call_int1 (by rfl) B.int (by decide +kernel) (pa_cons (pe_fn Mx hr (pa_cons (pe_op op_modR (pe_callTy call_int1 (by rfl) B.int (by decide +kernel) (pa_cons (pv 2) pa_nil)) pe_int) (pa_cons (pe_ix ix_list (pv 0) pe_int (fun _ _ => rfl)) pa_nil))) pa_nil)) (pv 1)))) pss_nil)
        (pss_one (ps_asg (pv 2) (pg_sub (pv 0) pe_int set_list)))))) pss_nil)
      (pss_cons (ps_if (pt_cmpR op_gt (pe_ix ix_list (pv 0) pe_int (fun _ _ => rfl)) pe_int (nomark _))
        (pss_cons (ps_set (i := 3) nd rfl (.inl rfl) (pe_ix ix_list (pv 0) pe_int (fun _ _ => rfl)))
        (pss_cons (ps_asg (pe_op op_fdivW (pv 3) (pv 1)) (pg_sub (pv 0) pe_int set_list))
        (pss_one (ps_ret (pe_op op_modR (pe_callTy call_int1 (by rfl) B.int (by decide +kernel) (pa_cons (pv 3) pa_nil)) (pv 1)))))) pss_nil)
      (pss_cons (ps_asg (pe_op op_modR (pe_callTy call_int1 (by rfl) B.int (by decide +kernel) (pa_cons (pe_op op_add (pe_ix ix_list (pv 0) pe_int (fun _ _ => rfl)) pe_int) pa_nil)) pe_int) (pg_sub (pv 0) pe_int set_list))
      (pss_one (ps_ret (pe_op op_modR (pe_callTy call_int1 (by rfl) B.int (by decide +kernel) (pa_cons (pe_fn Mx hr (pa_cons (pe_ix ix_list (pv 0) pe_int (fun _ _ => rfl)) (pa_cons (pe_ix ix_list (pv 0) pe_int (fun _ _ => rfl)) pa_nil))) pa_nil)) (pv 1))))))), ?_⟩
    have lcs : (cs.map V.int).length = cs.length := List.length_map ..
    refine ⟨fun σ' H' => ∃ (o2 : Option V) (i : Nat) (r : Int), σ' = [some (.ref h), some (.int m), o2, none] ∧ But h H H' ∧ HandS K H' h L cs i r sd, ?_, ?_⟩
    · have A := SqL.of (K := K) hS.at_
      refine ⟨_, rfl, h, _, _, _, rfl, rfl, A, atI_nat (j := 2) rfl, rfl, _, rfl, ite2 (fun hc => ?_) fun hc => ?_⟩
      · refine ⟨_, rfl, h, _, _, _, rfl, rfl, A, atI_nat (j := 1) rfl, _, rfl, h, _, _, _, rfl, rfl, A, atI_nat (j := 0) rfl, L, _, rfl, .inl (SqL.of hS.lst), _, _, rfl, rfl, _, rfl, ite2 (fun hc2 => ?_) fun hc2 => ?_⟩
        · have hi : i < cs.length := by
            have := of_decide_eq_true hc2
            rw [lcs] at this
            omega
          have hlen := hS.len
          obtain ⟨c, hc'⟩ := get_lt hi
          have cp := hS.pos c (List.mem_of_getElem? hc')
          have hv : (cs.map V.int)[i]? = some (V.int c) := by rw [List.getElem?_map, hc']; rfl
          refine ⟨_, rfl, h, _, _, _, rfl, rfl, A, atI_nat (j := 0) rfl, _, rfl, h, _, _, _, rfl, rfl, A, atI_nat (j := 1) rfl, L, _, _, _, rfl, rfl, SqL.of hS.lst, atI_nat hv, ?_⟩
          refine ⟨_, rfl, h, _, _, _, rfl, rfl, A, atI_nat (j := 1) rfl, _, _, rfl, rfl, _, rfl, h, _, _, 1, rfl, rfl, hS.at_, rfl, ?_⟩
          have hS1 : HandS K (upd H h (.lst [.ref L, .int ((i + 1 : Nat) : Int), .int r, .int sd])) h L cs (i + 1) r sd := hS.put (by omega) hS.r hS.s0 hS.s1
          have A1 := SqL.of (K := K) hS1.at_
          refine ⟨_, rfl, 10, 18, rfl, rfl, ⟨by decide, by decide, by decide⟩, _, _, rfl, rfl, _, rfl, ite2 (fun hc3 => ?_) fun hc3 => ?_⟩
          · refine ⟨_, rfl, .inl ⟨c, rfl, c, 2147483647, rfl, rfl, by decide, fun n n0 n1 _ => ⟨_, rfl, h, _, _, _, rfl, rfl, A1, atI_nat (j := 1) rfl, n, _, rfl, n0, by omega, by omega, by omega, fun x x0 => .inl ⟨x, rfl, _, rfl, x, m, rfl, rfl, m0, fun y y0 y1 _ => k _ y but_upd ⟨_, _, _, _, hS1⟩ y0 y1⟩⟩⟩⟩
          · refine ⟨_, rfl, _, rfl, h, _, _, 2, rfl, rfl, hS1.at_, rfl, _, i + 1, c, rfl, but_upd.trans but_upd, hS1.put (by omega) cp hS.s0 hS.s1⟩
        · exact ⟨_, i, r, rfl, But.refl, hS⟩
      · exact ⟨_, i, r, rfl, But.refl, hS⟩
    · rintro σ' H' ⟨o2, i, r, rfl, b, hS⟩
      have A := SqL.of (K := K) hS.at_
      have hi := hS.i
      have s0 := hS.s0
      have s1 := hS.s1
      refine ⟨_, rfl, h, _, _, _, rfl, rfl, A, atI_nat (j := 2) rfl, _, _, rfl, rfl, _, rfl, ite2 (fun hc => ?_) fun hc => ?_⟩
      · have r0 : 0 < r := of_decide_eq_true hc
        refine ⟨_, rfl, h, _, _, _, rfl, rfl, A, atI_nat (j := 2) rfl, _, rfl, _, rfl, r, m, rfl, rfl, wide_div m0 m1 (by decide) (by decide), _, rfl, h, _, _, 2, rfl, rfl, hS.at_, rfl, ?_⟩
        have hS1 : HandS K (upd H' h (.lst [.ref L, .int (i : Int), .int (r / m), .int sd])) h L cs i (r / m) sd := hS.put hi (Int.ediv_nonneg (by omega) (by omega)) hS.s0 hS.s1
        exact ⟨_, rfl, .inl ⟨r, rfl, _, rfl, r, m, rfl, rfl, m0, fun y y0 y1 _ => k _ y (b.trans but_upd) ⟨_, _, _, _, hS1⟩ y0 y1⟩⟩
      · refine ⟨_, rfl, h, _, _, _, rfl, rfl, A, atI_nat (j := 3) rfl, sd, 1, rfl, rfl, .inl ⟨_, rfl, _, 2147483629, rfl, rfl, by decide, fun n n0 n1 _ => ⟨_, rfl, h, _, _, 3, rfl, rfl, hS.at_, rfl, ?_⟩⟩⟩
        have hS1 : HandS K (upd H' h (.lst [.ref L, .int (i : Int), .int r, .int n])) h L cs i r n := hS.put hi hS.r n0 (by omega)
        have A1 := SqL.of (K := K) hS1.at_
        exact ⟨_, rfl, h, _, _, _, rfl, rfl, A1, atI_nat (j := 3) rfl, _, rfl, h, _, _, _, rfl, rfl, A1, atI_nat (j := 1) rfl, n, _, rfl, n0, by omega, by omega, by omega, fun x x0 => .inl ⟨x, rfl, _, rfl, x, m, rfl, rfl, m0, fun y y0 y1 _ => k _ y (b.trans but_upd) ⟨_, _, _, _, hS1⟩ y0 y1⟩⟩
end
theorem HandAt.upd {K : PySem.W.Frag} {H : Hp} {h L M : Addr} {o : HO} (a : HandAt K H h L) (n1 : h ≠ M) (n2 : L ≠ M) : HandAt K (upd H M o) h L := by
  obtain ⟨cs, i, r, s, x⟩ := a
  exact ⟨cs, i, r, s, by rw [upd_ne n1]; exact x.at_, by rw [upd_ne n2]; exact x.lst, x.ne, x.len, x.pos, x.i, x.r, x.s0, x.s1⟩
/-- a draw leaves all but the lists -/
theorem HandAt.i {K : PySem.W.Frag} {H H' : Hp} {h L : Addr} (a : HandAt K H h L) (b : But h H H') : ExtI H H' := by
  obtain ⟨cs, i, r, s, x⟩ := a
  exact But.i b x.at_ id
theorem HandAt.ne {K : PySem.W.Frag} {H : Hp} {h L M : Addr} (a : HandAt K H h L) (hM : H M = none) : M ≠ h ∧ M ≠ L := by
  obtain ⟨cs, i, r, s, x⟩ := a
  exact ⟨fun z => (by rw [z, x.at_] at hM; cases hM), fun z => (by rw [z, x.lst] at hM; cases hM)⟩
end K06


set_option Elab.async false
set_option linter.all false
set_option maxRecDepth 100000
set_option maxHeartbeats 4000000
/-! D16: _law_speeds. -/
namespace K06
open PySem PySem.Spec PyProof.Rows L2
/-- the list of speeds that grows at M -/
structure SpI (K : PySem.W.Frag) (H0 : Hp) (h L M : Addr) (H : Hp) (qs : List Rat) : Prop where
  but : But h H0 H
  hand : HandAt K H h L
  at_ : ∃ acc, H M = some (.lst acc) ∧ Rts K H acc qs
  m0 : H0 M = none
  nh : M ≠ h
  nL : M ≠ L
  sz : Szs 42 3 qs
theorem SpI.draw {K : PySem.W.Frag} {H0 H H' : Hp} {h L M : Addr} {qs : List Rat} (s : SpI K H0 h L M H qs) (b : But h H H') (a : HandAt K H' h L) : SpI K H0 h L M H' qs := by
  obtain ⟨acc, h1, h2⟩ := s.at_
  exact ⟨s.but.trans b, a, ⟨acc, b _ _ s.nh h1, h2.mono (s.hand.i b)⟩, s.m0, s.nh, s.nL, s.sz⟩
theorem SpI.ext {K : PySem.W.Frag} {H0 H H' : Hp} {h L M : Addr} {qs : List Rat} (s : SpI K H0 h L M H qs) (e : Ext H H') : SpI K H0 h L M H' qs := s.draw (Ext.but e) (s.hand.ext e)
theorem SpI.app {K : PySem.W.Frag} {H0 H : Hp} {h L M : Addr} {qs : List Rat} {acc : List V} {v : V} {q : Rat} (s : SpI K H0 h L M H qs) (ha : H M = some (.lst acc)) (hr : Rts K H acc qs) (rv : Rt K H v q) (z : Sz 42 3 q) : SpI K H0 h L M (upd H M (.lst (acc ++ [v]))) (qs ++ [q]) := by
  have e : ExtI H (upd H M (.lst (acc ++ [v]))) := ExtI.lst ha
  refine ⟨fun b o n hb => ?_, s.hand.upd s.nh.symm s.nL.symm, ⟨_, upd_same, paired_snoc (rv.mono e) (Rts.mono hr e)⟩, s.m0, s.nh, s.nL, fun x hx => ?_⟩
  · rw [upd_ne (ne_of_none hb s.m0)]
    exact s.but b o n hb
  · rcases List.mem_append.mp hx with h | h
    · exact s.sz x h
    · obtain rfl := List.mem_singleton.mp h
      exact z
/-- a test with a word behind it -/
theorem pt_cut {X : Cx} {e : Expr} {t : TT} (h : PT X e t) : PT X e (fun σ H Q => ∃ R : Bool → Hp → Prop, t σ H R ∧ ∀ b H', R b H' → Q b H') := ⟨fun pins s σ H Q I ⟨R, h1, h2⟩ => thn (h.run pins s σ H R I h1) fun c s1 ⟨H1, I1, q⟩ => ⟨H1, I1, h2 _ _ q⟩⟩
section
variable {P : Program} {w : World} {K : PySem.W.Frag} {mg : Str → Option Value} {base : Heap} {f C : Addr} {fd : FuncData}
abbrev sSpeeds : Stmt := top 41
def spSpeeds (K : PySem.W.Frag) : Sp := fun vs H Q _ => ∃ (h L : Addr) (m : Nat), vs = [.ref h, .int (m : Int)] ∧ HandAt K H h L ∧ 1 ≤ m ∧ m ≤ 40 ∧
  ∀ H' M xs qs, But h H H' → HandAt K H' h L → H' M = some (.lst xs) → M ≠ h → M ≠ L → Rts K H' xs qs → qs.length = m → Szs 42 3 qs → Q (.ref M) H'
abbrev nSpeeds : List Str := ["_law_hand_here", "_law_many", "_law_kind", "_law_far", "_law_made", "_law_k"]
theorem scSpeeds : FnScope nSpeeds ["_law_hand_here", "_law_many"] (defScope sSpeeds) := ⟨rfl, rfl, rfl, by decide +kernel, rfl, by decide +kernel, by decide +kernel⟩
theorem ok_speeds (F : FnP K "_law_speeds" "_law_speeds" sSpeeds [] f fd) (B : Blt mg) (Dr : Def P w K mg base CX0 2 "_law_draw" ["_law_hand_here", "_law_many"] (spDraw K)) (Lo : Def P w K mg base CX0 1 "_law_low" ["_law_top", "_law_bottom"] (spLow K)) :
    FnOk P w K mg base CX0 3 f fd ["_law_hand_here", "_law_many"] (spSpeeds K) := by
  refine F.ok scSpeeds (fun vs H Q E h => ?_) (fun cdv A outer s H vs Q E hr h => ?_)
  · obtain ⟨a, L, m, rfl, _⟩ := h
    rfl
  · obtain ⟨h, L, m, rfl, hH, m1, m40, k⟩ := h
    have nd := scSpeeds.nd
    have hr1 : Room 1 _ := hr.mono (by decide)
    refine ⟨_, PSs.nox (pss_cons (ps_set (i := 2) nd rfl (.inl rfl) (pe_fn Dr hr (pa_cons (pv 0) (pa_cons pe_int pa_nil))))
      (pss_cons (ps_set (i := 3) nd rfl (.inl rfl) (pe_cut (pe_ifExp (pt_cmpR op_lt (pv 2) pe_int (nomark _)) pe_int (pe_op op_pow pe_int pe_int))))
      (pss_cons (ps_set (i := 4) nd rfl (.inr rfl) (pe_lst pa_nil))
      (pss_cons (ps_for PassesOwn.never rfl (pi_range1 (by rfl) B.range (pa_cons (pv 1) pa_nil)) (pg_name (i := 5) nd rfl (.inl rfl))
        (pss_one (ps_if (pt_cut (PW.pt (pw_and (pt_cmpR op_gt (pv 5) pe_int (nomark _)) (pw_and1 (pt_cmpR op_eq (pe_fn Dr hr (pa_cons (pv 0) (pa_cons pe_int pa_nil))) pe_int (nomark _))))))
          (pss_one (ps_expr (pe_bm PySem.F.plainAttrs_list PySem.F.slot_list_append PySem.F.type_list_append mt_append (pv 4) (pa_cons (pe_ix ix_list (pv 4) (pe_op op_sub (pv 5) pe_int) (fun _ _ => rfl)) pa_nil))))
          (pss_one (ps_expr (pe_bm PySem.F.plainAttrs_list PySem.F.slot_list_append PySem.F.type_list_append mt_append (pv 4) (pa_cons (pe_fn Lo hr1 (pa_cons (pe_op op_sub (pe_fn Dr hr (pa_cons (pv 0) (pa_cons (pe_op op_add (pe_op op_mul pe_int (pv 3)) pe_int) pa_nil))) (pv 3)) (pa_cons (pe_op op_add pe_int (pe_fn Dr hr (pa_cons (pv 0) (pa_cons pe_int pa_nil)))) pa_nil))) pa_nil)))))))
      (pss_cons (ps_if (pt_cmpR op_eq (pv 2) pe_int (nomark _)) (pss_one (ps_set (i := 4) nd rfl (.inr rfl) (pe_lc (own := [("_law_k", 5)]) (g := gName 5) (tt := tYes) rfl nd (pi_range1 (by rfl) B.range (pa_cons (pv 1) pa_nil)) (blkOk_by (N := nSpeeds) (sc := defScope sSpeeds) (by decide +kernel))
          (fun _ _ _ _ _ => pg_name (i := 5) nd rfl (Or.inl rfl)) (fun _ _ _ _ _ => pts_nil) (fun _ _ _ _ _ => pe_ix (ix_listK K) (pv 4) pe_int (fun _ _ => rfl))))) pss_nil)
      (pss_one (ps_ret (pv 4)))))))), ?_⟩
    refine ⟨_, rfl, h, L, 4, rfl, hH, by decide, by decide, fun H1 kd b1 hH1 k0 k4 => ?_⟩
    refine ⟨fun v H' => H' = H1 ∧ ∃ far : Int, v = .int far ∧ 3 ≤ far ∧ far ≤ 1000000000000, ?_, fun v3 H2 h2 => ?_⟩
    · refine ⟨_, rfl, _, _, rfl, rfl, _, rfl, ite2 (fun _ => ⟨rfl, 3, rfl, by decide, by decide⟩) fun _ => ⟨10, 12, rfl, rfl, ⟨by decide, by decide, by decide⟩, rfl, _, rfl, by decide, by decide⟩⟩
    obtain ⟨rfl, far, rfl, f3, f12⟩ := h2
    refine ⟨by show 0 ≤ sizeLine; decide, fun M hM => ?_⟩
    obtain ⟨nh, nL⟩ := hH1.ne hM
    have s0 : SpI K H2 h L M (upd H2 M (.lst [])) [] := ⟨Ext.but (ext_new hM), hH1.ext (ext_new hM), ⟨[], upd_same, .nil⟩, hM, nh, nL, fun q hq => by cases hq⟩
    refine ⟨_, rfl, m, rfl, by omega, by omega, for_range (lo := 0) (n := ((m : Int)).toNat) (fun i σ' H' => ∃ (o5 : Option V) (qs : List Rat), σ' = [some (.ref h), some (.int (m : Int)), some (.int kd), some (.int far), some (.ref M), o5] ∧ qs.length = i ∧ SpI K H2 h L M H' qs) ⟨none, [], rfl, rfl, s0⟩ ?_ ?_⟩
    · rintro i σ' H' hi ⟨o5, qs, rfl, hq, s1⟩
      have e0 : (0 : Int) + (i : Int) = (i : Int) := Int.zero_add _
      rw [e0]
      have hi' : i < m := by omega
      refine ⟨fun b H' => SpI K H2 h L M H' qs ∧ (b = true → 0 < i), ?_, fun b H3 h3 => ?_⟩
      · refine ⟨_, rfl, _, _, rfl, rfl, _, rfl, ite2 (fun hc => ?_) fun hc => ?_⟩
        · have hc : (0 : Int) < (i : Int) := of_decide_eq_true hc
          exact ⟨_, rfl, h, L, 4, rfl, s1.hand, by decide, by decide, fun H4 x b4 a4 _ _ => ⟨rfl, _, rfl, s1.draw b4 a4, fun _ => by omega⟩⟩
        · exact ⟨s1, fun z => Bool.noConfusion z⟩
      obtain ⟨s3, hb⟩ := h3
      obtain ⟨acc, ha, hr3⟩ := s3.at_
      have la : acc.length = i := (Paired.len hr3).trans hq
      refine ite2 (fun hc => ?_) fun _ => ?_
      · have hi0 := hb hc
        obtain ⟨q, hq'⟩ := get_lt (l := qs) (i := i - 1) (by omega)
        obtain ⟨v, hv⟩ := get_lt (l := acc) (i := i - 1) (by omega)
        obtain ⟨q', hq2, rq⟩ := paired_at hr3 hv
        refine ⟨_, rfl, .inl ⟨rfl, _, SqL.of ha⟩, _, rfl, _, rfl, (i : Int), 1, rfl, rfl, M, _, _, v, rfl, rfl, SqL.of ha, ?_, M, _, _, rfl, rfl, ha, small1000 (by omega), some (.int (i : Int)), qs ++ [q'], rfl, by rw [List.length_append, hq]; rfl, s3.app ha hr3 rq (s3.sz q' (List.mem_of_getElem? hq2))⟩
        rw [show (i : Int) - 1 = ((i - 1 : Nat) : Int) by omega]
        exact atI_nat hv
      · refine ⟨_, rfl, .inl ⟨rfl, _, SqL.of ha⟩, _, rfl, _, rfl, 2, far, rfl, rfl, .inl ⟨by decide, by decide⟩, _, 1, rfl, rfl, h, L, 2 * far + 1, rfl, s3.hand, by omega, by show (2 * far + 1).natAbs < 1152921504606846976; omega, fun H4 x b4 a4 x0 x1 => ?_⟩
        have s4 := s3.draw b4 a4
        refine ⟨_, rfl, x, far, rfl, rfl, _, rfl, h, L, 4, rfl, s4.hand, by decide, by decide, fun H5 y b5 a5 y0 y4 => ?_⟩
        have s5 := s4.draw b5 a5
        have hy : (1 + y).natAbs < 2 ^ 3 := by show (1 + y).natAbs < 8; omega
        refine ⟨1, y, rfl, rfl, x - far, 1 + y, rfl, by omega, lt_up hy (by decide), fun H6 v6 e6 r6 => ?_⟩
        have s6 := s5.ext e6
        obtain ⟨acc6, ha6, hr6⟩ := s6.at_
        have la6 : acc6.length = i := (Paired.len hr6).trans hq
        exact ⟨M, _, _, rfl, rfl, ha6, small1000 (by omega), some (.int (i : Int)), qs ++ [_], rfl, by rw [List.length_append, hq]; rfl, s6.app ha6 hr6 r6 (sz_frac (by omega) (by show (x - far).natAbs < 4398046511104; omega) hy (by decide) (by decide))⟩
    · rintro σ' H' ⟨o5, qs, rfl, hq, s1⟩
      have hq : qs.length = m := hq.trans (by omega)
      obtain ⟨acc, ha, hr3⟩ := s1.at_
      have la : acc.length = m := (Paired.len hr3).trans hq
      refine ⟨_, rfl, rfl, _, rfl, ite2 (fun _ => ?_) fun _ => ?_⟩
      · obtain ⟨v, hv⟩ := get_lt (l := acc) (i := 0) (by omega)
        obtain ⟨q, hq0, rq⟩ := paired_at hr3 hv
        refine ⟨_, rfl, m, rfl, by omega, by omega, fun D hD => lc_map (walk_range (lo := 0) (n := ((m : Int)).toNat)) hD (fun _ _ => True) (fun i H x H' y => ⟨y.1, trivial⟩) (fun i H v => ∃ q', (List.replicate m q)[i]? = some q' ∧ Rt K H v q') (by omega) (fun i H H' v e ⟨q, h1, h2⟩ => ⟨q, h1, h2.mono e⟩) (fun H'' e => trivial) (fun i u H4 Q4 hi _ e4 k4 => ?_) fun H4 acc4 e4 hacc hlen hrel => ?_⟩
        · exact ⟨_, rfl, M, _, _, _, rfl, rfl, SqL.of (e4 _ _ ha), atI_nat (j := 0) hv, k4 H4 v (Ext.refl _) ⟨q, by rw [List.getElem?_replicate, if_pos (by omega)], rq.mono (Ext.imm e4)⟩⟩
        · have s4 := s1.ext e4
          obtain ⟨n1, n2⟩ := s1.hand.ne hD
          have hlen : acc4.length = m := hlen.trans (by omega)
          exact ⟨_, rfl, k H4 D acc4 (List.replicate m q) (b1.trans s4.but) s4.hand hacc n1 n2 (rts_of_at (by rw [hlen, List.length_replicate]) fun i hi => hrel i (by rw [List.length_replicate] at hi; omega)) List.length_replicate fun x hx => by
            rw [List.eq_of_mem_replicate hx]
            exact s1.sz q (List.mem_of_getElem? hq0)⟩
      · exact ⟨_, rfl, k H' M acc qs (b1.trans s1.but) s1.hand ha s1.nh s1.nL hr3 hq s1.sz⟩
end
end K06


set_option Elab.async false
set_option linter.all false
set_option maxRecDepth 100000
set_option maxHeartbeats 4000000
/-! D17: _law_strangers. -/
namespace K06
open PySem PySem.Spec PyProof.Rows L2
theorem cut_take {xs : List V} {i : Nat} (h : i ≤ xs.length) : cutV xs none (some (i : Int)) = xs.take i := by
  unfold cutV
  rw [HT.sIx_none, HT.sIx_nat, List.drop_zero, Nat.min_eq_left h, Nat.sub_zero]
theorem cut_drop {xs : List V} {i : Nat} (h : i ≤ xs.length) : cutV xs (some (i : Int)) none = xs.drop i := by
  unfold cutV
  rw [HT.sIx_none, HT.sIx_nat, Nat.min_eq_left h]
  exact List.take_of_length_le (by rw [List.length_drop]; omega)
theorem cut_last {xs : List V} (h : 1 ≤ xs.length) : cutV xs none (some (-1)) = xs.take (xs.length - 1) := by
  unfold cutV
  rw [HT.sIx_none, List.drop_zero, Nat.sub_zero]
  congr 1
  show (if (-1 : Int) < 0 then (-1 + (xs.length : Int)).toNat else min (-1 : Int).toNat xs.length) = _
  rw [if_pos (by decide)]
  omega
theorem atI_last {α : Type} {xs : List α} {x : α} (h : xs[xs.length - 1]? = some x) (h1 : 1 ≤ xs.length) : atI xs (-1) = some x := by
  unfold atI ixN
  rw [if_neg (by decide), if_pos (by omega)]
  show xs[(-1 + (xs.length : Int)).toNat]? = some x
  rw [show (-1 + (xs.length : Int)).toNat = xs.length - 1 by omega]
  exact h
theorem dp_least {K : PySem.W.Frag} {H : Hp} {v : V} {R : RV} (h : LeastT K H v R) : Dp K H v (dBoth (leastW R.ws, castL (lowest (rested R)))) := by
  obtain ⟨p, q, r, rfl, h1, h2, h3⟩ := h
  exact .tup h1 (.cons (dp_intsT h2) (.cons (dp_ratsT h3) .nil))
theorem least_pair {R S : RV} (hw : S.wall = R.wall) : ((leastW S.ws, castL (lowest (rested S))) = (leastW R.ws, castL (lowest (rested R)))) ↔ least R = least S := by
  unfold least
  rw [hw]
  constructor
  · intro h
    rw [(Prod.mk.inj h).1, (Prod.mk.inj h).2]
  · intro h
    have h1 := congrArg RV.ws h
    have h2 := congrArg RV.vs h
    rw [show leastW S.ws = leastW R.ws from h1.symm, show castL (lowest (rested S)) = castL (lowest (rested R)) from h2.symm]
theorem paired_app {α β : Type} {G : α → β → Prop} : ∀ {l l' : List α} {m m' : List β}, Paired G l m → Paired G l' m' → Paired G (l ++ l') (m ++ m')
  | _, _, _, _, .nil, h => h
  | _, _, _, _, .cons r t, h => .cons r (paired_app t h)
theorem paired_take {α β : Type} {G : α → β → Prop} : ∀ {l : List α} {m : List β} (i : Nat), Paired G l m → Paired G (l.take i) (m.take i)
  | _, _, 0, _ => by rw [List.take_zero, List.take_zero]; exact .nil
  | _, _, i + 1, .nil => .nil
  | _, _, i + 1, .cons r t => .cons r (paired_take i t)
theorem paired_drop {α β : Type} {G : α → β → Prop} : ∀ {l : List α} {m : List β} (i : Nat), Paired G l m → Paired G (l.drop i) (m.drop i)
  | _, _, 0, h => h
  | _, _, i + 1, .nil => .nil
  | _, _, i + 1, .cons r t => paired_drop i t
/-- a list with another item at i -/
def swapAt {α : Type} (l : List α) (i : Nat) (x : α) : List α := l.take i ++ [x] ++ l.drop (i + 1)
theorem swapAt_length {α : Type} {l : List α} {i : Nat} {x : α} (h : i < l.length) : (swapAt l i x).length = l.length := by
  unfold swapAt
  rw [List.length_append, List.length_append, List.length_take, List.length_drop, List.length_singleton]
  omega
theorem swapAt_mem {α : Type} {l : List α} {i : Nat} {x y : α} (h : y ∈ swapAt l i x) : y = x ∨ y ∈ l := by
  unfold swapAt at h
  rcases List.mem_append.mp h with h | h
  · rcases List.mem_append.mp h with h | h
    · exact .inr (List.mem_of_mem_take h)
    · exact .inl (List.mem_singleton.mp h)
  · exact .inr (List.mem_of_mem_drop h)
theorem swapAt_map {α β : Type} (f : α → β) (l : List α) (i : Nat) (x : α) : (swapAt l i x).map f = (l.map f).take i ++ [f x] ++ (l.map f).drop (i + 1) := by
  unfold swapAt
  rw [List.map_append, List.map_append, List.map_take, List.map_drop]
  rfl
/-- rows that the law asks about -/
structure Near (R : RV) : Prop where
  g : Good R
  sz : Szs 42 4 R.vs
theorem Near.fit {R : RV} (n : Near R) : Fit R := ⟨n.g, n.sz.up (by decide) (by decide)⟩
theorem third_good {R : RV} (g : Good R) {i : Nat} {x : Int} (hi : i < R.ws.length) (h1 : 1 ≤ x) (h9 : x ≤ 9) : Good ⟨swapAt R.ws i x, R.vs, R.wall⟩ := by
  have l := swapAt_length (x := x) hi
  exact ⟨g.len.trans l.symm, l ▸ g.n1, fun z => l ▸ g.n2 z, l ▸ g.n40, fun y hy => (swapAt_mem hy).elim (fun e => e ▸ h1) (g.w1 y), fun y hy => (swapAt_mem hy).elim (fun e => e ▸ h9) (g.w9 y)⟩
section
variable {P : Program} {w : World} {K : PySem.W.Frag} {mg : Str → Option Value} {base : Heap} {f C : Addr} {fd : FuncData}
theorem Rts.cast {H : Hp} {xs ys : List V} {qs : List Rat} (e : xs = ys) (h : Rts K H ys qs) : Rts K H xs qs := by
  subst e
  exact h
theorem rt_half {H : Hp} {p : Addr} (h : H p = some (.tup [.int 1, .int 2])) : Rt K H (.ref p) (mkRat 1 2) := ⟨p, rfl, SqT.of h⟩
abbrev sStr : Stmt := top 44
def spStr (K : PySem.W.Frag) (C : Addr) : Sp := fun vs H Q _ => ∃ (x a b : Addr) (xs : List V) (R : RV) (i : Nat) (v : V), vs = [.ref x, .ref a, .ref b, .bl R.wall, .int (i : Int), v] ∧ RowAt K C H x R ∧ H a = some (.lst (R.ws.map V.int)) ∧ H b = some (.lst xs) ∧ Rts K H xs R.vs ∧ Good R ∧ Szs 42 3 R.vs ∧ i < R.ws.length ∧ LeastT K H v R ∧ ∀ H', Ext H H' → Q (.bl true) H'
abbrev nStr : List Str := ["_law_row", "_law_weights", "_law_speeds_here", "_law_shut", "_law_at", "_law_least_here", "_law_third", "_law_moved", "_law_near", "_law_same", "_law_longer", "_law_other"]
theorem scStr : FnScope nStr ["_law_row", "_law_weights", "_law_speeds_here", "_law_shut", "_law_at", "_law_least_here"] (defScope sStr) := ⟨rfl, rfl, rfl, by decide +kernel, rfl, by decide +kernel, by decide +kernel⟩
theorem ok_str {D : Addr} (F : FnP K "_law_strangers" "_law_strangers" sStr [] f fd) (B : Blt mg) (T : RowC K mg C) (Mr : Mak P w K mg base 5 "Row" C (spRowInit K C)) (Ad : Def P w K mg base CX0 2 "_law_add" ["_law_a", "_law_b"] (spLAdd K))
    (Le : Def P w K mg base CX0 3 "_law_least" ["_law_weights", "_law_speeds_here", "_law_shut"] (spLLeast K)) (Ar : Def P w K mg base CX0 8 "are_kin" ["one", "other"] (spAre K C)) (Ko : Def P w K mg base CX0 9 "kin_of" ["one", "other"] (spKinOf K C D)) :
    FnOk P w K mg base CX0 10 f fd ["_law_row", "_law_weights", "_law_speeds_here", "_law_shut", "_law_at", "_law_least_here"] (spStr K C) := by
  refine F.ok scStr (fun vs H Q E h => ?_) (fun cdv A outer s H vs Q E hr h => ?_)
  · obtain ⟨x, a, b, xs, R, i, v, rfl, _⟩ := h
    rfl
  · obtain ⟨x, a, b, xs, R, i, v, rfl, hR, ha, hb, hxs, g, zs, hi, hv, k⟩ := h
    have nd := scStr.nd
    have hu := hr.units
    have hr8 : Room 8 _ := hr.mono (by decide)
    refine ⟨_, PSs.nox (pss_cons (ps_set (i := 6) nd rfl (.inl rfl) (pe_mkI Mr (fun _ _ _ _ => row_made) hr (by decide) (pa_cons (pe_op op_cat (pe_op op_cat (pe_slice sl_list (pv 1) po_none (po_some (pv 4))) (pe_lst (pa_cons (pe_op op_add (pe_op op_modR (pe_callTy call_int1 (by rfl) B.int (by decide +kernel) (pa_cons (pe_ix ix_list (pv 1) (pv 4) (fun _ _ => rfl)) pa_nil)) pe_int) pe_int) pa_nil))) (pe_slice sl_list (pv 1) (po_some (pe_op op_add (pv 4) pe_int)) po_none))
          (pa_cons (pv 2) (pa_cons (pv 3) pa_nil)))))
      (pss_cons (ps_set (i := 7) nd rfl (.inl rfl) (pe_mkI Mr (fun _ _ _ _ => row_made) hr (by decide) (pa_cons (pv 1) (pa_cons (pe_op op_cat (pe_op op_cat (pe_slice sl_list (pv 2) po_none (po_some (pv 4))) (pe_lst (pa_cons (pe_fn Ad (hr.mono (by decide)) (pa_cons (pe_ix ix_list (pv 2) (pv 4) (fun _ _ => rfl)) (pa_cons (pe_tup (pa_cons pe_int (pa_cons pe_int pa_nil))) pa_nil))) pa_nil))) (pe_slice sl_list (pv 2) (po_some (pe_op op_add (pv 4) pe_int)) po_none))
          (pa_cons (pv 3) pa_nil)))))
      (pss_cons (ps_for PassesOwn.never rfl (pi_list (pe_lst (pa_cons (pv 6) (pa_cons (pv 7) pa_nil)))) (pg_name (i := 8) nd rfl (.inl rfl))
        (pss_cons (ps_set (i := 9) nd rfl (.inl rfl) (pe_cmpR (op_eqD hu) (pe_fn Le (hr.mono (by decide)) (pa_cons (pe_callTy call_list_of (by rfl) B.list (by decide +kernel) (pa_cons (pe_fld (pv 8) rfl) pa_nil)) (pa_cons (pe_callTy call_list_of (by rfl) B.list (by decide +kernel) (pa_cons (pe_fld (pv 8) rfl) pa_nil)) (pa_cons (pv 3) pa_nil)))) (pv 5) (nomark _)))
        (pss_one (ps_if (PW.pt (pw_or (pt_cmpR op_ne (pe_fn Ar hr8 (pa_cons (pv 0) (pa_cons (pv 8) pa_nil))) (pv 9) (nomark _)) (pw_or1 (pt_cmpR op_ne (pe_cmpR op_notN (pe_fn Ko hr (pa_cons (pv 8) (pa_cons (pv 0) pa_nil))) pe_non (nomark _)) (pv 9) (nomark _))))) (pss_one (ps_ret pe_bl)) pss_nil))))
      (pss_cons (ps_set (i := 10) nd rfl (.inl rfl) (pe_cut (pe_ifExp (pt_cmpR op_eq (pe_callB call_len_seq (by rfl) B.len PySem.boot_len (pa_cons (pv 1) pa_nil)) pe_int (nomark _))
          (pe_mkI Mr (fun _ _ _ _ => row_made) hr (by decide) (pa_cons (pe_slice sl_list (pv 1) po_none (po_some pe_neg1)) (pa_cons (pe_slice sl_list (pv 2) po_none (po_some pe_neg1)) (pa_cons (pv 3) pa_nil))))
          (pe_mkI Mr (fun _ _ _ _ => row_made) hr (by decide) (pa_cons (pe_op op_cat (pv 1) (pe_lst (pa_cons pe_int pa_nil))) (pa_cons (pe_op op_cat (pv 2) (pe_lst (pa_cons (pe_ix ix_list (pv 2) pe_neg1 (fun _ _ => rfl)) pa_nil))) (pa_cons (pv 3) pa_nil)))))))
      (pss_cons (ps_if (PW.pt (pw_or (pt_val (pe_fn Ar hr8 (pa_cons (pv 0) (pa_cons (pv 10) pa_nil)))) (pw_or1 (pt_val (pe_fn Ar hr8 (pa_cons (pv 10) (pa_cons (pv 0) pa_nil))))))) (pss_one (ps_ret pe_bl)) pss_nil)
      (pss_cons (ps_if (PW.pt (pw_or (pt_cmpR op_notN (pe_fn Ko hr (pa_cons (pv 0) (pa_cons (pv 10) pa_nil))) pe_non (nomark _)) (pw_or1 (pt_cmpR op_notN (pe_fn Ko hr (pa_cons (pv 10) (pa_cons (pv 0) pa_nil))) pe_non (nomark _))))) (pss_one (ps_ret pe_bl)) pss_nil)
      (pss_cons (ps_if (pt_cmpR op_eq (pe_callB call_len_seq (by rfl) B.len PySem.boot_len (pa_cons (pv 1) pa_nil)) pe_int (nomark _)) (pss_one (ps_ret pe_bl)) pss_nil)
      (pss_cons (ps_set (i := 11) nd rfl (.inl rfl) (pe_mkI Mr (fun _ _ _ _ => row_made) hr (by decide) (pa_cons (pv 1) (pa_cons (pv 2) (pa_cons (pe_not (pv 3)) pa_nil)))))
      (pss_one (ps_ret (pe_and (pe_not (pe_fn Ar hr8 (pa_cons (pv 0) (pa_cons (pv 11) pa_nil)))) (pe_one (pe_cmpR op_isN (pe_fn Ko hr (pa_cons (pv 11) (pa_cons (pv 0) pa_nil))) pe_non (nomark _)))))))))))))), ?_⟩
    have n40 := g.n40
    have len := g.len
    have lx : xs.length = R.vs.length := Paired.len hxs
    have lws : (R.ws.map V.int).length = R.ws.length := List.length_map ..
    have nR : Near R := ⟨g, zs.up (by decide) (by decide)⟩
    obtain ⟨wt, hwt⟩ := get_lt hi
    have hwv : (R.ws.map V.int)[i]? = some (V.int wt) := by rw [List.getElem?_map, hwt]; rfl
    obtain ⟨xv, hxv⟩ := get_lt (show i < xs.length by omega)
    obtain ⟨q, hq, rq⟩ := paired_at hxs hxv
    have zq := zs q (List.mem_of_getElem? hq)
    -- what stands
    have st : ∀ {H' : Hp}, Ext H H' → H' a = some (.lst (R.ws.map V.int)) ∧ H' b = some (.lst xs) ∧ Rts K H' xs R.vs ∧ RowAt K C H' x R ∧ LeastT K H' v R := fun {H'} e => ⟨e _ _ ha, e _ _ hb, hxs.mono (Ext.imm e), hR.mono (Ext.imm e), hv.mono (Ext.t e)⟩
    -- third
    refine ⟨_, rfl, _, rfl, (i : Int), rfl, a, _, rfl, SqL.of ha, fun p1 hp1 => ?_⟩
    have e1 := ext_new (o := .lst (cutV (R.ws.map V.int) none (some (i : Int)))) hp1
    refine ⟨_, rfl, _, rfl, a, _, _, _, rfl, rfl, SqL.of (st e1).1, atI_nat hwv, .inl ⟨wt, rfl, wt, 9, rfl, rfl, by decide, fun r r0 r1 _ => ⟨r, 1, rfl, rfl, by show 1 ≤ sizeLine; decide, fun p2 hp2 => ?_⟩⟩⟩
    have e2 := ext_new (o := .lst [V.int (r + 1)]) hp2
    refine ⟨p1, p2, _, _, rfl, rfl, e2 _ _ upd_same, upd_same, Nat.le_of_lt (small1000 ?_), fun p3 hp3 => ?_⟩
    · have := cutV_length (R.ws.map V.int) none (some (i : Int))
      show (cutV (R.ws.map V.int) none (some (i : Int))).length + 1 ≤ 1000
      omega
    have e3 := ext_new (o := .lst (cutV (R.ws.map V.int) none (some (i : Int)) ++ [V.int (r + 1)])) hp3
    have e03 := Ext.trans (Ext.trans e1 e2) e3
    refine ⟨_, rfl, _, rfl, (i : Int), 1, rfl, rfl, (i : Int) + 1, rfl, a, _, rfl, SqL.of (st e03).1, fun p4 hp4 => ?_⟩
    have e4 := ext_new (o := .lst (cutV (R.ws.map V.int) (some ((i : Int) + 1)) none)) hp4
    refine ⟨p3, p4, _, _, rfl, rfl, e4 _ _ upd_same, upd_same, Nat.le_of_lt (small1000 ?_), fun p5 hp5 => ?_⟩
    · have h1 := cutV_length (R.ws.map V.int) none (some (i : Int))
      have h2 := cutV_length (R.ws.map V.int) (some ((i : Int) + 1)) none
      rw [List.length_append, List.length_singleton]
      omega
    have ew : cutV (R.ws.map V.int) none (some (i : Int)) ++ [V.int (r + 1)] ++ cutV (R.ws.map V.int) (some ((i : Int) + 1)) none = (swapAt R.ws i (r + 1)).map V.int := by
      rw [cut_take (by omega), show (some ((i : Int) + 1)) = some ((i + 1 : Nat) : Int) from rfl, cut_drop (by omega), swapAt_map]
    have e5 := ext_new (o := .lst (cutV (R.ws.map V.int) none (some (i : Int)) ++ [V.int (r + 1)] ++ cutV (R.ws.map V.int) (some ((i : Int) + 1)) none)) hp5
    have e05 := Ext.trans (Ext.trans e03 e4) e5
    have g3 := third_good (x := r + 1) g hi (by omega) (by omega)
    refine ⟨_, rfl, _, rfl, p5, b, ⟨swapAt R.ws i (r + 1), R.vs, R.wall⟩, rfl, ⟨g3, .inl (SqL.of (by rw [← ew]; exact upd_same)), ⟨xs, .inl (SqL.of (st e05).2.1), RtsI.of (st e05).2.2.1⟩, zs.up (by decide) (by decide)⟩, fun H6 v6 e6 r6 => ?_⟩
    obtain ⟨y3, rfl, h3⟩ := r6
    have e06 := Ext.trans e05 e6
    -- moved
    refine ⟨_, rfl, _, rfl, _, rfl, (i : Int), rfl, b, _, rfl, SqL.of (st e06).2.1, fun p7 hp7 => ?_⟩
    have e7 := ext_new (o := .lst (cutV xs none (some (i : Int)))) hp7
    have e07 := Ext.trans e06 e7
    refine ⟨_, rfl, _, rfl, b, _, _, _, rfl, rfl, SqL.of (st e07).2.1, atI_nat hxv, by show 2 ≤ sizeLine; decide, fun p8 hp8 => ?_⟩
    have e8 := ext_new (o := .tup [V.int 1, V.int 2]) hp8
    have e08 := Ext.trans e07 e8
    have zH : Sz 1 2 (mkRat 1 2) := ⟨by decide, by decide, by decide, by decide⟩
    refine ⟨xv, .ref p8, q, mkRat 1 2, rfl, ⟨rq.mono (Ext.imm e08), rt_half upd_same, 42, 3, 1, 2, zq, zH, by decide, by decide⟩, fun H9 v9 e9 r9 => ?_⟩
    have e09 := Ext.trans e08 e9
    refine ⟨by show 1 ≤ sizeLine; decide, fun p10 hp10 => ?_⟩
    have e10 := ext_new (o := .lst [v9]) hp10
    have ha7 : ∀ {H' : Hp}, Ext (upd H6 p7 (.lst (cutV xs none (some (i : Int))))) H' → H' p7 = some (.lst (cutV xs none (some (i : Int)))) := fun e => e _ _ upd_same
    have e7_10 := Ext.trans (Ext.trans e8 e9) e10
    refine ⟨p7, p10, _, _, rfl, rfl, ha7 e7_10, upd_same, Nat.le_of_lt (small1000 ?_), fun p11 hp11 => ?_⟩
    · have := cutV_length xs none (some (i : Int))
      show (cutV xs none (some (i : Int))).length + 1 ≤ 1000
      omega
    have e11 := ext_new (o := .lst (cutV xs none (some (i : Int)) ++ [v9])) hp11
    have e011 := Ext.trans (Ext.trans e09 e10) e11
    refine ⟨_, rfl, _, rfl, (i : Int), 1, rfl, rfl, (i : Int) + 1, rfl, b, _, rfl, SqL.of (st e011).2.1, fun p12 hp12 => ?_⟩
    have e12 := ext_new (o := .lst (cutV xs (some ((i : Int) + 1)) none)) hp12
    refine ⟨p11, p12, _, _, rfl, rfl, e12 _ _ upd_same, upd_same, Nat.le_of_lt (small1000 ?_), fun p13 hp13 => ?_⟩
    · have h1 := cutV_length xs none (some (i : Int))
      have h2 := cutV_length xs (some ((i : Int) + 1)) none
      rw [List.length_append, List.length_singleton]
      omega
    have ex : cutV xs none (some (i : Int)) ++ [v9] ++ cutV xs (some ((i : Int) + 1)) none = swapAt xs i v9 := by
      rw [cut_take (by omega), show (some ((i : Int) + 1)) = some ((i + 1 : Nat) : Int) from rfl, cut_drop (by omega)]
      rfl
    have e13 := ext_new (o := .lst (cutV xs none (some (i : Int)) ++ [v9] ++ cutV xs (some ((i : Int) + 1)) none)) hp13
    have e013 := Ext.trans (Ext.trans e011 e12) e13
    have zs4 : Szs 45 6 (swapAt R.vs i (q + mkRat 1 2)) := fun u hu => (swapAt_mem hu).elim (fun e => e ▸ ((zq.add zH (m := 44) (by decide) (by decide)).up (by decide) (by decide))) fun h => (zs u h).up (by decide) (by decide)
    have g4 : Good ⟨R.ws, swapAt R.vs i (q + mkRat 1 2), R.wall⟩ := good_vs g (swapAt_length (by omega))
    have r4 : Rts K _ (swapAt xs i v9) (swapAt R.vs i (q + mkRat 1 2)) := paired_app (paired_app (paired_take i (st e013).2.2.1) (.cons (r9.mono (Ext.imm (Ext.trans (Ext.trans (Ext.trans e10 e11) e12) e13))) .nil)) (paired_drop (i + 1) (st e013).2.2.1)
    refine ⟨_, rfl, a, p13, ⟨R.ws, swapAt R.vs i (q + mkRat 1 2), R.wall⟩, rfl, ⟨g4, .inl (SqL.of (st e013).1), ⟨_, .inl (SqL.of upd_same), RtsI.of (Rts.cast ex r4)⟩, zs4.up (by decide) (by decide)⟩, fun H14 v14 e14 r14 => ?_⟩
    obtain ⟨y4, rfl, h4⟩ := r14
    have e014 := Ext.trans e013 e14
    have h3' : RowAt K C H14 y3 ⟨swapAt R.ws i (r + 1), R.vs, R.wall⟩ := h3.mono (Ext.imm (Ext.trans (Ext.trans (Ext.trans (Ext.trans e7 e7_10) e11) (Ext.trans e12 e13)) e14))
    have nH : Near ⟨swapAt R.ws i (r + 1), R.vs, R.wall⟩ := ⟨g3, zs.up (by decide) (by decide)⟩
    -- the loop
    refine ⟨_, rfl, _, rfl, by show 2 ≤ sizeLine; decide, fun l hl => ?_⟩
    have eL := ext_new (o := .lst [V.ref y3, V.ref y4]) hl
    have e015 := Ext.trans e014 eL
    refine ⟨l, rfl, ⟨_, SqL.of upd_same⟩, for_list (K := K) (a := l) (xs := [V.ref y3, V.ref y4]) (fun j σ' H' => Ext (upd H14 l (.lst [V.ref y3, V.ref y4])) H' ∧ ∃ o8 o9, σ' = [some (.ref x), some (.ref a), some (.ref b), some (.bl R.wall), some (.int (i : Int)), some v, some (.ref y3), some (.ref y4), o8, o9, none, none]) ⟨Ext.refl _, _, _, rfl⟩ (fun j σ' H' _ h => SqL.of (h.1 _ _ upd_same)) ?_ ?_⟩
    · rintro j u σ' H' hu ⟨e, o8, o9, rfl⟩
      have : ∃ (z : Addr) (S : RV), u = V.ref z ∧ RowAt K C H' z S ∧ Fit S ∧ S.wall = R.wall := by
        match j, hu with
        | 0, hu => exact ⟨y3, _, (Option.some.inj hu).symm, h3'.mono (Ext.imm (Ext.trans eL e)), nH.fit, rfl⟩
        | 1, hu => exact ⟨y4, _, (Option.some.inj hu).symm, h4.mono (Ext.imm (Ext.trans eL e)), ⟨g4, zs4.up (by decide) (by decide)⟩, rfl⟩
        | j + 2, hu => cases hu
      obtain ⟨z, S, rfl, hS, fS, hw⟩ := this
      obtain ⟨dz, pz, sz, fz, hz, fx, tw, ts⟩ := id hS
      obtain ⟨zs', tzs, hzs⟩ := ts
      refine ⟨_, rfl, z, C, dz, _, _, rfl, hz, T.cl, T.w, fx.w, pz, _, rfl, .inr tw, fun l1 hl1 => ?_⟩
      have f1 := ext_new (o := .lst (S.ws.map V.int)) hl1
      refine ⟨_, rfl, z, C, dz, _, _, rfl, f1 _ _ hz, T.cl, T.s, fx.s, sz, _, rfl, .inr (tzs.ext f1), fun l2 hl2 => ?_⟩
      have f2 := ext_new (o := .lst zs') hl2
      refine ⟨_, rfl, l1, l2, zs', S, by rw [hw]; rfl, SqL.of (f2 _ _ upd_same), SqL.of upd_same, hzs.mono (Ext.imm (Ext.trans f1 f2)), fS, fun H3 v3 f3 r3 => ?_⟩
      have f03 := Ext.trans (Ext.trans f1 f2) f3
      have eA := Ext.trans (Ext.trans e015 e) f03
      refine ⟨_, rfl, eqd shpBoth (by decide) (dp_least r3) (dp_least (st eA).2.2.2.2) fun c1 h1 => ?_⟩
      rw [least_pair hw] at h1
      refine ⟨_, rfl, _, rfl, x, z, R, S, rfl, (st eA).2.2.2.1, hS.mono (Ext.imm f03), nR.fit, fS, fun H4 c2 f4 h2 => ?_⟩
      have e12 : c2 = c1 := Bool.eq_iff_iff.mpr (h2.trans h1.symm)
      subst e12
      have f04 := Ext.trans f03 f4
      have eB := Ext.trans eA f4
      refine ⟨_, rfl, rfl, _, rfl, iteN (notB (decide_eq_true rfl)) ?_⟩
      refine ⟨_, rfl, _, rfl, z, x, S, R, rfl, hS.mono (Ext.imm f04), (st eB).2.2.2.1, fS, nR.fit, fun hne H5 f5 => ?_, fun heq H5 v5 f5 r5 => ?_⟩
      · have : c2 = false := by
          cases c2 with
          | false => rfl
          | true => exact absurd (h1.mp rfl).symm hne
        subst this
        exact ⟨rfl, _, rfl, rfl, _, rfl, iteN (by decide) ⟨Ext.trans e (Ext.trans f04 f5), _, _, rfl⟩⟩
      · obtain ⟨z5, rfl, _⟩ := r5
        have : c2 = true := h1.mpr heq.symm
        subst this
        exact ⟨rfl, _, rfl, rfl, _, rfl, iteN (by rw [show decide (V.ref z5 = V.non) = false from decide_eq_false (by intro z; cases z)]; rfl) ⟨Ext.trans e (Ext.trans f04 f5), _, _, rfl⟩⟩
    rintro σ' H' ⟨e, o8, o9, rfl⟩
    have e016 := Ext.trans e015 e
    -- longer
    refine ⟨fun u H'' => Ext H' H'' ∧ ∃ (z : Addr) (S : RV), u = V.ref z ∧ RowAt K C H'' z S ∧ Fit S ∧ S.ws.length ≠ R.ws.length, ?_, fun u H17 h17 => ?_⟩
    · refine ⟨_, rfl, a, _, rfl, .inl (SqL.of (st e016).1), rfl, _, rfl, ite2 (fun hc => ?_) fun hc => ?_⟩
      · have h40 : R.ws.length = 40 := by
          have := V.int.inj (of_decide_eq_true hc)
          rw [lws] at this
          omega
        refine ⟨_, rfl, -1, rfl, a, _, rfl, SqL.of (st e016).1, fun p hp => ?_⟩
        have f1 := ext_new (o := .lst (cutV (R.ws.map V.int) none (some (-1)))) hp
        refine ⟨_, rfl, -1, rfl, b, _, rfl, SqL.of (st (Ext.trans e016 f1)).2.1, fun p2 hp2 => ?_⟩
        have f2 := ext_new (o := .lst (cutV xs none (some (-1)))) hp2
        have f02 := Ext.trans f1 f2
        have ew : cutV (R.ws.map V.int) none (some (-1)) = (R.ws.take 39).map V.int := by rw [cut_last (by omega), lws, h40, List.map_take]
        have ex : cutV xs none (some (-1)) = xs.take 39 := by rw [cut_last (by omega), show xs.length - 1 = 39 by omega]
        have lt : (R.ws.take 39).length = 39 := by rw [List.length_take]; omega
        have g5 : Good ⟨R.ws.take 39, R.vs.take 39, R.wall⟩ := ⟨by show (R.vs.take 39).length = (R.ws.take 39).length; rw [List.length_take, lt]; omega, by show 1 ≤ (R.ws.take 39).length; omega, fun _ => by show 2 ≤ (R.ws.take 39).length; omega, by show (R.ws.take 39).length ≤ 40; omega, fun y hy => g.w1 y (List.mem_of_mem_take hy), fun y hy => g.w9 y (List.mem_of_mem_take hy)⟩
        have z5 : Szs 42 3 (R.vs.take 39) := fun y hy => zs y (List.mem_of_mem_take hy)
        refine ⟨_, rfl, p, p2, ⟨R.ws.take 39, R.vs.take 39, R.wall⟩, rfl, ⟨g5, .inl (SqL.of (by rw [← ew]; exact f2 _ _ upd_same)), ⟨_, .inl (SqL.of upd_same), RtsI.of (Rts.cast ex (paired_take 39 (st (Ext.trans e016 f02)).2.2.1))⟩, z5.up (by decide) (by decide)⟩, fun H5 v5 e5 r5 => ?_⟩
        obtain ⟨z, rfl, hz⟩ := r5
        exact ⟨Ext.trans f02 e5, z, _, rfl, hz, ⟨g5, z5.up (by decide) (by decide)⟩, by show (R.ws.take 39).length ≠ _; omega⟩
      · have h40 : R.ws.length ≠ 40 := fun z => hc (decide_eq_true (by rw [lws, z]; rfl))
        obtain ⟨xl, hxl⟩ := get_lt (l := xs) (i := xs.length - 1) (by omega)
        obtain ⟨ql, hql, rql⟩ := paired_at hxs hxl
        have zl := zs ql (List.mem_of_getElem? hql)
        refine ⟨_, rfl, by show 1 ≤ sizeLine; decide, fun p hp => ?_⟩
        have f1 := ext_new (o := .lst [V.int 1]) hp
        refine ⟨a, p, _, _, rfl, rfl, (st (Ext.trans e016 f1)).1, upd_same, Nat.le_of_lt (small1000 (by rw [lws]; show R.ws.length + 1 ≤ 1000; omega)), fun p2 hp2 => ?_⟩
        have f2 := ext_new (o := .lst (R.ws.map V.int ++ [V.int 1])) hp2
        have f02 := Ext.trans f1 f2
        refine ⟨_, rfl, _, rfl, b, _, _, _, rfl, rfl, SqL.of (st (Ext.trans e016 f02)).2.1, atI_last hxl (by omega), by show 1 ≤ sizeLine; decide, fun p3 hp3 => ?_⟩
        have f3 := ext_new (o := .lst [xl]) hp3
        have f03 := Ext.trans f02 f3
        refine ⟨b, p3, _, _, rfl, rfl, (st (Ext.trans e016 f03)).2.1, upd_same, Nat.le_of_lt (small1000 (by show xs.length + 1 ≤ 1000; omega)), fun p4 hp4 => ?_⟩
        have f4 := ext_new (o := .lst (xs ++ [xl])) hp4
        have f04 := Ext.trans f03 f4
        have ew : R.ws.map V.int ++ [V.int 1] = (R.ws ++ [1]).map V.int := by rw [List.map_append]; rfl
        have g5 : Good ⟨R.ws ++ [1], R.vs ++ [ql], R.wall⟩ := ⟨by show (R.vs ++ [ql]).length = (R.ws ++ [1]).length; rw [List.length_append, List.length_append, len]; rfl, by show 1 ≤ (R.ws ++ [1]).length; rw [List.length_append, List.length_singleton]; omega,
          fun z => by have := g.n2 z; show 2 ≤ (R.ws ++ [1]).length; rw [List.length_append]; omega, by show (R.ws ++ [1]).length ≤ 40; rw [List.length_append, List.length_singleton]; omega,
          fun y hy => (List.mem_append.mp hy).elim (g.w1 y) fun h => by rw [List.mem_singleton.mp h]; decide, fun y hy => (List.mem_append.mp hy).elim (g.w9 y) fun h => by rw [List.mem_singleton.mp h]; decide⟩
        have z5 : Szs 42 3 (R.vs ++ [ql]) := fun y hy => (List.mem_append.mp hy).elim (zs y) fun h => by rw [List.mem_singleton.mp h]; exact zl
        refine ⟨_, rfl, p2, p4, ⟨R.ws ++ [1], R.vs ++ [ql], R.wall⟩, rfl, ⟨g5, .inl (SqL.of (by rw [← ew]; exact (Ext.trans f3 f4) _ _ upd_same)), ⟨_, .inl (SqL.of upd_same), RtsI.of (paired_snoc (rql.mono (Ext.imm (Ext.trans e016 f04))) (st (Ext.trans e016 f04)).2.2.1)⟩, z5.up (by decide) (by decide)⟩, fun H5 v5 e5 r5 => ?_⟩
        obtain ⟨z, rfl, hz⟩ := r5
        exact ⟨Ext.trans f04 e5, z, _, rfl, hz, ⟨g5, z5.up (by decide) (by decide)⟩, by show (R.ws ++ [1]).length ≠ _; rw [List.length_append, List.length_singleton]; omega⟩
    obtain ⟨e17, z, S, rfl, hz, fS, hne⟩ := h17
    have e017 := Ext.trans e016 e17
    have n1 : least R ≠ least S := fun h => hne (least_len h).symm
    have n2 : least S ≠ least R := fun h => n1 h.symm
    have fl : ∀ {c : Bool} {A B : RV}, A ≠ B → (c = true ↔ A = B) → c = false := fun {c A B} hn h => by
      cases c with
      | false => rfl
      | true => exact absurd (h.mp rfl) hn
    refine ⟨_, rfl, _, rfl, x, z, R, S, rfl, (st e017).2.2.2.1, hz, nR.fit, fS, fun H18 c e18 hc => ?_⟩
    rw [fl n1 hc]
    refine ⟨false, rfl, iteF ?_⟩
    refine ⟨_, rfl, _, rfl, z, x, S, R, rfl, hz.mono (Ext.imm e18), (st (Ext.trans e017 e18)).2.2.2.1, fS, nR.fit, fun H19 c e19 hc => ?_⟩
    rw [fl n2 hc]
    refine ⟨false, rfl, iteF ?_⟩
    have e1719 := Ext.trans e18 e19
    have e019 := Ext.trans e017 e1719
    refine ⟨_, rfl, _, rfl, x, z, R, S, rfl, (st e019).2.2.2.1, hz.mono (Ext.imm e1719), nR.fit, fS, fun _ H20 e20 => ?_, fun h => absurd h n1⟩
    refine ⟨rfl, _, rfl, iteF ?_⟩
    have e020 := Ext.trans e019 e20
    refine ⟨_, rfl, _, rfl, z, x, S, R, rfl, hz.mono (Ext.imm (Ext.trans e1719 e20)), (st e020).2.2.2.1, fS, nR.fit, fun _ H21 e21 => ?_, fun h => absurd h n2⟩
    refine ⟨rfl, _, rfl, iteF ?_⟩
    have e021 := Ext.trans e020 e21
    -- one ball
    refine ⟨_, rfl, a, _, rfl, .inl (SqL.of (st e021).1), rfl, _, rfl, ite2 (fun _ => k _ e021) fun hc => ?_⟩
    have h1 : R.ws.length ≠ 1 := fun z => hc (decide_eq_true (by rw [lws, z]; rfl))
    have g6 : Good ⟨R.ws, R.vs, !R.wall⟩ := ⟨g.len, g.n1, fun _ => by have := g.n1; show 2 ≤ R.ws.length; omega, g.n40, g.w1, g.w9⟩
    refine ⟨_, rfl, _, rfl, _, rfl, R.wall, rfl, a, b, ⟨R.ws, R.vs, !R.wall⟩, rfl, ⟨g6, .inl (SqL.of (st e021).1), ⟨xs, .inl (SqL.of (st e021).2.1), RtsI.of (st e021).2.2.1⟩, zs.up (by decide) (by decide)⟩, fun H22 v22 e22 r22 => ?_⟩
    obtain ⟨y6, rfl, h6⟩ := r22
    have e022 := Ext.trans e021 e22
    have f6 : Fit ⟨R.ws, R.vs, !R.wall⟩ := ⟨g6, zs.up (by decide) (by decide)⟩
    have m1 : least R ≠ least ⟨R.ws, R.vs, !R.wall⟩ := fun h => by
      have := least_wall h
      revert this
      show R.wall = !R.wall → False
      cases R.wall <;> decide
    refine ⟨_, rfl, _, rfl, x, y6, R, _, rfl, (st e022).2.2.2.1, h6, nR.fit, f6, fun H23 c e23 hc => ?_⟩
    rw [fl m1 hc]
    refine ⟨false, rfl, true, rfl, iteT ?_⟩
    have e023 := Ext.trans e022 e23
    refine ⟨_, rfl, _, rfl, y6, x, _, R, rfl, h6.mono (Ext.imm e23), (st e023).2.2.2.1, f6, nR.fit, fun _ H24 e24 => ⟨rfl, k _ (Ext.trans e023 e24)⟩, fun h => absurd h.symm m1⟩
end
end K06


set_option Elab.async false
set_option linter.all false
set_option maxRecDepth 100000
set_option maxHeartbeats 2000000
/-! K06L: what the law's own numbers are. -/
namespace K06
open PySem PySem.Spec PyProof.Rows L2
theorem one_num (w : Int) : ((w : Rat) * 1).num = w := by rw [Rat.mul_one, Rat.num_intCast]
theorem one_den (w : Int) : ((w : Rat) * 1).den = 1 := by rw [Rat.mul_one, Rat.den_intCast]
theorem heavy_one (ws : List Int) : heavy 1 ws = ws := by
  unfold heavy
  conv => rhs; rw [← List.map_id ws]
  exact List.map_congr_left fun w _ => one_num w
theorem bad_one {w : Int} (h1 : 1 ≤ w) (h9 : w ≤ 9) : badW 1 w = false := by
  unfold badW
  rw [one_num, one_den]
  exact decide_eq_false fun z => z.elim (fun z => z rfl) fun z => z ⟨h1, h9⟩
theorem idx_one {R : RV} (g : Good R) : R.ws.findIdx? (badW 1) = none := findIdx_none fun y hy => bad_one (g.w1 y hy) (g.w9 y hy)
theorem bad_ten {w : Int} (h1 : 1 ≤ w) : badW 10 w = true := by
  unfold badW
  refine decide_eq_true (.inr fun z => ?_)
  have e : (w : Rat) * 10 = ((w * 10 : Int) : Rat) := by rw [Rat.intCast_mul]; rfl
  rw [e, Rat.num_intCast] at z
  omega
theorem idx_ten {R : RV} (g : Good R) : R.ws.findIdx? (badW 10) = some 0 := by
  have := g.n1
  cases h : R.ws with
  | nil => rw [h] at this; exact absurd this (by decide)
  | cons w r =>
    rw [List.findIdx?_cons, bad_ten (g.w1 w (by rw [h]; exact List.mem_cons_self))]
    rfl
/-- the factor that the law took -/
theorem ledOk_of {f p m : Rat} {R : RV} (h : ∀ w ∈ R.ws, ((w : Rat) * f).den = 1 ∧ 1 ≤ ((w : Rat) * f).num ∧ ((w : Rat) * f).num ≤ 9) (hp : 0 < p) (hm : R.wall = true → m = 0) : LedOk f p m R where
  fit := by
    unfold castL heavy
    rw [List.map_map, List.map_map]
    refine List.map_congr_left fun w hw => ?_
    show ((((w : Rat) * f).num : Int) : Rat) = (w : Rat) * f
    have := (h w hw).1
    conv => rhs; rw [← Rat.num_divInt_den ((w : Rat) * f), this]
    have e := Rat.num_divInt_den ((((w : Rat) * f).num : Int) : Rat)
    rw [Rat.num_intCast, Rat.den_intCast] at e
    exact e.symm
  b := fun u hu => by
    obtain ⟨w, hw, rfl⟩ := List.mem_map.mp hu
    exact (h w hw).2
  pos := hp
  shut := hm
theorem pos_num {f : Rat} (hf : 0 < f) {w : Int} (h : 1 ≤ w) : 1 ≤ ((w : Rat) * f).num := by
  have h4 : (0 : Rat) < (w : Rat) := Rat.intCast_pos.mpr (by omega)
  have h5 := Rat.mul_pos h4 hf
  have h6 : 0 ≤ ((w : Rat) * f).num := Rat.num_nonneg.mpr (Rat.le_of_lt h5)
  have h7 : ((w : Rat) * f).num ≠ 0 := fun z => by
    rw [Rat.num_eq_zero.mp z] at h5
    exact Rat.lt_irrefl h5
  omega
theorem divInt_pos {a b : Int} (ha : 0 < a) (hb : 0 < b) : 0 < Rat.divInt a b := by
  rw [Rat.divInt_eq_div]
  rw [Rat.div_def]
  exact Rat.mul_pos (Rat.intCast_pos.mpr ha) (Rat.inv_pos.mpr (Rat.intCast_pos.mpr hb))
theorem sz_inv {n d : Nat} {p : Rat} (h : Sz n d p) (h0 : p ≠ 0) : Sz (1 + d) (1 + n) p⁻¹ := by
  have := sz_one.div h h0
  rwa [show (1 : Rat) / p = p⁻¹ by rw [Rat.div_def, Rat.one_mul]] at this
/-- what lead_along asks of the kin of two rows -/
theorem leadSz {R S : RV} {n1 d1 n2 d2 : Nat} (gR : Good R) (gS : Good S) (h : least R = least S) (zR : Szs n1 d1 R.vs) (zS : Szs n2 d2 S.vs) (zp : Sz 21 21 (kinOf R S).p)
    (c1 : n2 + 21 + d1 ≤ 99) (c2 : 21 + n1 + d2 ≤ 99) (c3 : d2 + (21 + d1) ≤ 60) : LeadSz (kinOf R S) R := by
  have hv : lowest (rested R) = lowest (rested S) := castL_inj (congrArg RV.vs h)
  have z1 := v0_sz gR zR
  have z2 := v0_sz gS zS
  have w0 : ∀ {T : RV}, Good T → Sz 4 1 ((T.ws.headD 0 : Int) : Rat) ∧ ((T.ws.headD 0 : Int) : Rat) ≠ 0 := fun {T} g => by
    have := g.n1
    cases hw : T.ws with
    | nil => rw [hw] at this; exact absurd this (by decide)
    | cons w r =>
      have a1 := g.w1 w (by rw [hw]; exact List.mem_cons_self)
      have a9 := g.w9 w (by rw [hw]; exact List.mem_cons_self)
      refine ⟨sz_int (by show w.natAbs < 16; omega) (by decide), fun z => ?_⟩
      have : (w : Rat) = ((0 : Int) : Rat) := z
      have := Rat.intCast_inj.mp this
      omega
  refine ⟨((w0 gS).1.div (w0 gR).1 (w0 gR).2).up (by decide) (by decide), zp.up (by decide) (by decide), ?_, zR.up (by omega) (by omega), fun q hq => ?_, ?_⟩
  · exact (z2.sub (zp.mul z1) (m := 99) (by omega) (by omega)).up (by decide) (by omega)
  · obtain ⟨u, hu, rfl⟩ := List.mem_map.mp hq
    exact ((zR u hu).mul zp).up (by omega) (by omega)
  · have e := speeds_lead hv
    show Szs 6000 100 ((R.vs.map (· * paceOf (rested R) (rested S))).map (· + (v0 S - paceOf (rested R) (rested S) * v0 R)))
    rw [← e]
    exact zS.up (by omega) (by omega)
theorem least_kin_eq {R S : RV} (h : least R = least S) : R.wall = S.wall := least_wall h
theorem map_add_zero (l : List Rat) : l.map (· + (0 : Rat)) = l := by
  conv => rhs; rw [← List.map_id l]
  exact List.map_congr_left fun x _ => Rat.add_zero x
theorem map_mul_one (l : List Rat) : l.map (· * (1 : Rat)) = l := by
  conv => rhs; rw [← List.map_id l]
  exact List.map_congr_left fun x _ => Rat.mul_one x
/-- by the pace alone -/
theorem lead_pace {R : RV} (g : Good R) (p : Rat) : lead ⟨1, p, 0⟩ R = .row ⟨R.ws, R.vs.map (· * p), R.wall⟩ := by
  unfold lead
  rw [idx_one g]
  show (if (0 : Rat) = 0 then _ else _) = _
  rw [if_pos rfl, heavy_one]
theorem lead_heavy {R : RV} (g : Good R) (p m : Rat) : lead ⟨10, p, m⟩ R = .weight 0 := by
  unfold lead
  rw [idx_ten g]
theorem lead_wall {R : RV} (g : Good R) (p : Rat) {m : Rat} (hm : m ≠ 0) (hw : R.wall = true) : lead ⟨1, p, m⟩ R = .wall := by
  unfold lead
  rw [idx_one g]
  show (if m = 0 then _ else _) = _
  rw [if_neg hm, if_pos hw]
theorem lead_more {R : RV} (g : Good R) (m : Rat) (hw : R.wall = false) : lead ⟨1, 1, m⟩ R = .row ⟨R.ws, R.vs.map (· + m), R.wall⟩ := by
  unfold lead
  rw [idx_one g]
  show (if m = 0 then _ else _) = _
  rw [heavy_one, map_mul_one]
  by_cases hm : m = 0
  · rw [if_pos hm, hm, map_add_zero]
  · rw [if_neg hm, hw, if_neg (by decide)]
/-- sizes for kins of small numbers -/
theorem leadSz_small {f p m : Rat} {R : RV} (zf : Sz 5 5 f) (zp : Sz 21 21 p) (zm : Sz 31 5 m) (zR : Szs 42 3 R.vs) : LeadSz ⟨f, p, m⟩ R := by
  have zvp : Szs 63 24 (R.vs.map (· * p)) := fun q hq => by
    obtain ⟨u, hu, rfl⟩ := List.mem_map.mp hq
    exact (zR u hu).mul zp
  refine ⟨zf.up (by decide) (by decide), zp.up (by decide) (by decide), zm.up (by decide) (by decide), zR.up (by decide) (by decide), zvp.up (by decide) (by decide), fun q hq => ?_⟩
  obtain ⟨u, hu, rfl⟩ := List.mem_map.mp hq
  exact ((zvp u hu).add zm (m := 68) (by decide) (by decide)).up (by decide) (by decide)
section
variable {X : Cx}
theorem op_isnotB : OpR X (compareOp .IsNot) (fun x y H Q => ∃ a b : Bool, x = .bl a ∧ y = .bl b ∧ Q (.bl (a != b)) H) := by
  intro pins s σ H x y v u Q I rx ry h
  obtain ⟨a, b, rfl, rfl, q⟩ := h
  cases rx
  cases ry
  exact isnot_bool (fin_bl I q rfl)
theorem passE0 : Passes (L2.CX X.prog X.w) X E0 := fun _ _ _ _ _ _ _ ⟨_, _, _, _, _, _, _, _, _, _, _, _, h⟩ => h.elim
end
end K06


set_option Elab.async false
set_option linter.all false
set_option maxRecDepth 100000
set_option maxHeartbeats 8000000
/-! D18: law. -/
namespace K06
open PySem PySem.Spec PyProof.Rows L2
/-- kept, but for the hand -/
structure Kp (K : PySem.W.Frag) (h L : Addr) (H H' : Hp) : Prop where
  b : But h H H'
  a : HandAt K H' h L
  i : ExtI H H'
section
variable {K : PySem.W.Frag} {h L : Addr} {H0 H H' : Hp}
theorem Kp.refl (a : HandAt K H h L) : Kp K h L H H := ⟨But.refl, a, ExtI.refl⟩
theorem Kp.ext (k : Kp K h L H0 H) (e : Ext H H') : Kp K h L H0 H' := ⟨k.b.trans (Ext.but e), k.a.ext e, k.i.trans (Ext.imm e)⟩
theorem Kp.draw (k : Kp K h L H0 H) (b : But h H H') (a : HandAt K H' h L) : Kp K h L H0 H' := ⟨k.b.trans b, a, k.i.trans (k.a.i b)⟩
theorem Kp.trans (k : Kp K h L H0 H) (l : Kp K h L H H') : Kp K h L H0 H' := ⟨k.b.trans l.b, l.a, k.i.trans l.i⟩
end
theorem ints_of {acc : List V} {P : Int → Prop} (h : ∀ v ∈ acc, ∃ w : Int, v = .int w ∧ P w) : ∃ ws : List Int, acc = ws.map V.int ∧ ∀ w ∈ ws, P w := by
  induction acc with
  | nil => exact ⟨[], rfl, fun w hw => by cases hw⟩
  | cons a r ih =>
    obtain ⟨w, rfl, hw⟩ := h a List.mem_cons_self
    obtain ⟨ws, rfl, hws⟩ := ih fun v hv => h v (List.mem_cons_of_mem _ hv)
    refine ⟨w :: ws, rfl, fun u hu => ?_⟩
    rcases List.mem_cons.mp hu with rfl | hu
    · exact hw
    · exact hws u hu
/-- a comprehension over a range that draws -/
theorem lc_drawn {K : PySem.W.Frag} {h L : Addr} {n k : Nat} {te : TE} {σ : L2.St} {H1 : Hp} {D : Addr} {Qd : Hp → Prop} (hD : H1 D = none) (hH : HandAt K H1 h L) (Rel : V → Prop) (hn : n ≤ 1000)
    (he : ∀ x H Q, HandAt K H h L → (∀ H' v, But h H H' → HandAt K H' h L → Rel v → Q v H') → te ((wipe σ [k]).set k (some x)) H Q)
    (hd : ∀ H acc, But h H1 H → HandAt K H h L → H D = some (.lst acc) → acc.length = n → (∀ v ∈ acc, Rel v) → D ≠ h → D ≠ L → Qd H) :
    ∃ W : Nat → Nat → Hp → Prop, (∃ m, W 0 m (upd H1 D (.lst []))) ∧ ∀ i m H, W i m H →
      ((Itr 0 n).stop i H ∧ Qd H) ∨ ((Itr 0 n).go i H ∧ ∃ Nx : Hp → Prop, (∀ H', Nx H' → ∃ m', m' < m ∧ W (i + 1) m' H') ∧ ∀ x H', (Itr 0 n).yld i H x H' → gName k x (wipe σ [k]) H' fun σ2 H2 => wipe σ2 [k] = wipe σ [k] ∧ tYes σ2 H2 fun b H3 =>
        if b = true then te σ2 H3 fun y H4 => ∃ acc, H4 D = some (.lst acc) ∧ acc.length < sizeLine ∧ Nx (upd H4 D (.lst (acc ++ [y]))) else Nx H3) := by
  obtain ⟨n1, n2⟩ := hH.ne hD
  refine lc_it (walk_range (lo := 0) (n := n)) (fun i H => But h H1 H ∧ HandAt K H h L ∧ ∃ acc, H D = some (.lst acc) ∧ acc.length = i ∧ ∀ v ∈ acc, Rel v)
    ⟨Ext.but (Ext.upd hD), hH.ext (Ext.upd hD), [], upd_same, rfl, fun v hv => by cases hv⟩ (fun i H _ _ => trivial) (fun i x H H' hi hp y => ?_) fun H hp => ?_
  · obtain ⟨b, a, acc, hacc, hl, hr⟩ := hp
    obtain ⟨rfl, hx⟩ := y
    refine ⟨by show ((σ.set k none).set k (some x)).set k none = σ.set k none; rw [List.set_set, List.set_set], ?_⟩
    show te ((wipe σ [k]).set k (some x)) H' _
    refine he x H' _ a fun H2 v b2 a2 rv => ⟨acc, b2 _ _ n1 hacc, small1000 (by omega), ?_⟩
    refine ⟨fun c o hc q => ?_, a2.upd n1.symm n2.symm, acc ++ [v], upd_same, by rw [List.length_append, hl]; rfl, fun u hu => ?_⟩
    · rw [upd_ne (ne_of_none q hD)]
      exact (b.trans b2) c o hc q
    · rcases List.mem_append.mp hu with hu | hu
      · exact hr u hu
      · rw [List.mem_singleton.mp hu]
        exact rv
  · obtain ⟨b, a, acc, hacc, hl, hr⟩ := hp
    exact hd H acc b a hacc hl hr n1 n2
section
variable {P : Program} {w : World} {K : PySem.W.Frag} {mg : Str → Option Value} {base : Heap} {f C : Addr} {fd : FuncData}
abbrev sLaw : Stmt := top 46
def spLaw (K : PySem.W.Frag) : Sp := fun vs H Q _ => ∃ (a : Addr) (zs : List Int), vs = [.ref a] ∧ SqL K H a (zs.map V.int) ∧ zs.length ≤ 1000 ∧ ∀ H', Q (.bl true) H'
abbrev nLaw : List Str := ["_law_script", "_law_hand_here", "_law_shut", "_law_many", "_law_size", "_law_weights", "_law_speeds_here", "_law_row", "_law_least_here", "_law_told", "_law_bounds", "_law_factor", "_law_new", "_law_pace", "_law_more", "_law_other", "_law_kin", "_law_heavy", "_law_k", "_law_w", "_law_v"]
theorem scLaw : FnScope nLaw ["_law_script"] (defScope sLaw) := ⟨rfl, rfl, rfl, by decide +kernel, rfl, by decide +kernel, by decide +kernel⟩
/-- what the law calls -/
structure LawX (P : Program) (w : World) (K : PySem.W.Frag) (mg : Str → Option Value) (base : Heap) (C D Bd N : Addr) : Prop where
  B : Blt mg
  T : RowC K mg C
  TK : KinC K mg D
  NC : InsC K C
  ND : KinX K D
  Ha : Def P w K mg base CX0 1 "_law_hand" ["_law_script"] (spHand K)
  Dr : Def P w K mg base CX0 2 "_law_draw" ["_law_hand_here", "_law_many"] (spDraw K)
  Sp : Def P w K mg base CX0 3 "_law_speeds" ["_law_hand_here", "_law_many"] (spSpeeds K)
  Le : Def P w K mg base CX0 3 "_law_least" ["_law_weights", "_law_speeds_here", "_law_shut"] (spLLeast K)
  Lo : Def P w K mg base CX0 1 "_law_low" ["_law_top", "_law_bottom"] (spLow K)
  Ad : Def P w K mg base CX0 2 "_law_add" ["_law_a", "_law_b"] (spLAdd K)
  Su : Def P w K mg base CX0 2 "_law_sub" ["_law_a", "_law_b"] (spLSub K)
  Mu : Def P w K mg base CX0 2 "_law_mul" ["_law_a", "_law_b"] (spLMul K)
  Lr : Def P w K mg base CX0 7 "least_row" ["row"] (spLeast K C)
  Ar : Def P w K mg base CX0 8 "are_kin" ["one", "other"] (spAre K C)
  Ko : Def P w K mg base CX0 9 "kin_of" ["one", "other"] (spKinOf K C D)
  Ll : Def P w K mg base CX0 9 "_law_lead" ["_law_kin", "_law_row"] (spLLead K C D)
  St : Def P w K mg base CX0 3 "_law_settled" ["_law_speeds_here", "_law_shut"] (spSettled K)
  Sg : Def P w K mg base CX0 10 "_law_strangers" ["_law_row", "_law_weights", "_law_speeds_here", "_law_shut", "_law_at", "_law_least_here"] (spStr K C)
  Eq : Def P w K mg base CX0 3 "_law_equal" ["_law_factor", "_law_pace", "_law_more"] (spEqual K)
  Mr : Mak P w K mg base 5 "Row" C (spRowInit K C)
  Mk : Mak P w K mg base 1 "Kin" D (spKinInit K D)
  ER : EqOf P w K mg base 1 C (spRowEq K C)
  EK : EqOf P w K mg base 1 D (spKinEq K D)
  MQ : MetE P w K mg base CX0 7 C "quicker" (spQuick K C)
  MU : MetE P w K mg base (L2.CX P w) 7 C "hurried" (spHur K C N)
theorem rt_int {H : Hp} {p : Addr} {w : Int} (h : H p = some (.tup [.int w, .int 1])) : Rt K H (.ref p) (w : Rat) := ⟨p, rfl, SqT.of (by
  rw [h]
  unfold RtP
  rw [Rat.num_intCast, Rat.den_intCast]
  rfl)⟩
/-- a new weight that is none -/
def badQ (q : Rat) : Bool := !decide (V.int (q.den : Int) = V.int 1) || decide (9 < q.num)
theorem badQ_nil {l : List Rat} (h : l.filter badQ = []) : ∀ q ∈ l, q.den = 1 ∧ q.num ≤ 9 := fun q hq => by
  have := List.filter_eq_nil_iff.mp h q hq
  unfold badQ at this
  rw [Bool.or_eq_true, not_or] at this
  obtain ⟨h1, h2⟩ := this
  have h3 : V.int (q.den : Int) = V.int 1 := by simpa using h1
  have h4 : ¬ 9 < q.num := fun z => h2 (decide_eq_true z)
  have := V.int.inj h3
  omega
theorem dpW_ext {H H' : Hp} {v : V} {i : Nat} (h : Dp K H v (dWeight i)) (e : Ext H H') : Dp K H' v (dWeight i) := by
  unfold dWeight at h ⊢
  cases h with
  | lst hs ha =>
    cases ha with
    | cons a1 t1 =>
      cases a1
      cases t1 with
      | cons a2 t2 =>
        cases a2
        cases t2 with
        | cons a3 t3 =>
          cases a3
          cases t3
          exact .lst (hs.ext e) (.cons (.str _) (.cons (.int _) (.cons (.str _) .nil)))
theorem dpL_ext {H H' : Hp} {v : V} (h : Dp K H v dWall) (e : Ext H H') : Dp K H' v dWall := by
  unfold dWall at h ⊢
  cases h with
  | lst hs ha =>
    cases ha with
    | cons a1 t1 =>
      cases a1
      cases t1
      exact .lst (hs.ext e) (.cons (.str _) .nil)
theorem dW_sh : SeqAt.shaped (dWeight 0) = true := by decide +kernel
theorem dW_eq : PyData.eqv (dWeight 0) (dWeight 0) = true := by decide +kernel
theorem dL_sh : SeqAt.shaped dWall = true := by decide +kernel
theorem dL_eq : PyData.eqv dWall dWall = true := by decide +kernel
theorem rt_zero {H : Hp} {p : Addr} (h : H p = some (.tup [.int 0, .int 1])) : Rt K H (.ref p) 0 := ⟨p, rfl, SqT.of h⟩
theorem rt_ten {H : Hp} {p : Addr} (h : H p = some (.tup [.int 10, .int 1])) : Rt K H (.ref p) 10 := ⟨p, rfl, SqT.of h⟩
theorem sz_ten : Sz 5 5 10 := ⟨by decide, by decide, by decide, by decide⟩
theorem sz_half : Sz 31 5 (mkRat 1 2) := ⟨by decide, by decide, by decide, by decide⟩
theorem half_ne : mkRat 1 2 ≠ 0 := by decide
theorem ok_law {D Bd N : Addr} (F : FnP K "law" "law" sLaw [] f fd) (X : LawX P w K mg base C D Bd N) : FnOk P w K mg base CX0 11 f fd ["_law_script"] (spLaw K) := by
  refine F.ok scLaw (fun vs H Q E h => ?_) (fun cdv A outer s H vs Q E hr h => ?_)
  · obtain ⟨a, zs, rfl, _⟩ := h
    rfl
  · obtain ⟨a, zs, rfl, ha, hz, k⟩ := h
    obtain ⟨B, T, TK, NC, ND, Ha, Dr, Sp, Le, Lo, Ad, Su, Mu, Lr, Ar, Ko, Ll, St, Sg, Eq, Mr, Mk, ER, EK, MQ, MU⟩ := X
    have nd := scLaw.nd
    have hu := hr.units
    have hu1 := hu_of hr
    have h1 : Room 1 _ := hr.mono (by decide)
    have h2 : Room 2 _ := hr.mono (by decide)
    have h3 : Room 3 _ := hr.mono (by decide)
    have h7 : Room 7 _ := hr.mono (by decide)
    have h8 : Room 8 _ := hr.mono (by decide)
    have h9 : Room 9 _ := hr.mono (by decide)
    refine ⟨_, PSs.nox (pss_cons (ps_set (i := 1) nd rfl (.inr rfl) (pe_fn Ha h1 (pa_cons (pv 0) pa_nil)))
      (pss_cons (ps_set (i := 2) nd rfl (.inl rfl) (pe_cmpR op_eq (pe_fn Dr h2 (pa_cons (pv 1) (pa_cons pe_int pa_nil))) pe_int (nomark _)))
      (pss_cons (ps_set (i := 3) nd rfl (.inl rfl) (pe_op op_add (pe_ifC (pt_val (pv 2)) pe_int pe_int) (pe_fn Dr h2 (pa_cons (pv 1) (pa_cons pe_int pa_nil)))))
      (C8.pss_cut (ps_if (pt_cmpR op_eq (pe_fn Dr h2 (pa_cons (pv 1) (pa_cons pe_int pa_nil))) pe_int (nomark _)) (pss_one (ps_set (i := 3) nd rfl (.inl rfl) pe_int)) pss_nil)
      (pss_cons (ps_set (i := 4) nd rfl (.inr rfl) (pe_op op_add pe_int (pe_fn Dr h2 (pa_cons (pv 1) (pa_cons pe_int pa_nil)))))
      (pss_cons (ps_setLc (i := 5) (own := [("_law_k", 18)]) (g := gName 18) (tt := tYes) rfl nd rfl rfl (sw_true rfl rfl rfl (by decide +kernel)) (pi_range1 (by rfl) B.range (pa_cons (pv 3) pa_nil)) (blkOk_by (N := nLaw) (sc := defScope sLaw) (by decide +kernel))
          (fun _ _ _ _ _ => pg_name (i := 18) nd rfl (Or.inl rfl)) (fun _ _ _ _ _ => pts_nil) (fun _ _ _ _ _ => pe_op op_mul (pv 4) (pe_op op_add pe_int (pe_fn Dr h2 (pa_cons (pv 1) (pa_cons pe_int pa_nil))))))
      (pss_cons (ps_set (i := 6) nd rfl (.inl rfl) (pe_fn Sp h3 (pa_cons (pv 1) (pa_cons (pv 3) pa_nil))))
      (pss_cons (ps_set (i := 7) nd rfl (.inl rfl) (pe_mkI Mr (fun _ _ _ _ => row_made) hr (by decide) (pa_cons (pv 5) (pa_cons (pv 6) (pa_cons (pv 2) pa_nil)))))
      (pss_cons (ps_set (i := 8) nd rfl (.inl rfl) (pe_fn Le h3 (pa_cons (pv 5) (pa_cons (pv 6) (pa_cons (pv 2) pa_nil)))))
      (pss_cons (ps_set (i := 9) nd rfl (.inl rfl) (pe_fn Lr h7 (pa_cons (pv 7) pa_nil)))
      (pss_cons (ps_if (PW.pt (pw_or (pt_not (pt_val (pe_callB call_isi (by rfl) B.isi (by decide +kernel) (pa_cons (pv 9) (pa_cons (pe_glob (v := .ref C) rfl T.mg rfl) pa_nil)))))
          (pw_or (pt_cmpR (op_neD hu) (pe_tup (pa_cons (pe_fld (pv 9) rfl) (pa_cons (pe_fld (pv 9) rfl) pa_nil))) (pv 8) (nomark _))
          (pw_or (pt_cmpR op_ne (pe_fld (pv 9) rfl) (pv 2) (nomark _))
          (pw_or1 (pt_not (pt_cmpR (op_eqOf ER h1) (pe_fn Lr h7 (pa_cons (pv 9) pa_nil)) (pv 9) (nomark _)))))))) (pss_one (ps_ret pe_bl)) pss_nil)
      (pss_cons (ps_set (i := 10) nd rfl (.inl rfl) (pe_callB (cr_maxT rfl hu1) (by rfl) B.max (by decide +kernel) (pa_cons (pe_ix ix_tup (pv 8) pe_int (fun _ _ => rfl)) pa_nil)))
      (pss_cons (ps_set (i := 11) nd rfl (.inr rfl) (pe_fn Lo h1 (pa_cons (pe_op op_add pe_int (pe_fn Dr h2 (pa_cons (pv 1) (pa_cons (pe_op op_fdiv pe_int (pv 10)) pa_nil)))) (pa_cons (pv 4) pa_nil))))
      (pss_cons (ps_setLc (i := 12) (own := [("_law_w", 19)]) (g := gName 19) (tt := tYes) rfl nd rfl rfl (sw_true rfl rfl rfl (by decide +kernel)) (pi_list (pv 5)) (blkOk_by (N := nLaw) (sc := defScope sLaw) (by decide +kernel))
          (fun _ _ _ _ _ => pg_name (i := 19) nd rfl (Or.inl rfl)) (fun _ _ _ _ _ => pts_nil) (fun _ _ _ _ _ => pe_fn Mu h2 (pa_cons (pe_tup (pa_cons (pv 19) (pa_cons pe_int pa_nil))) (pa_cons (pv 11) pa_nil))))
      (C8.pss_cut (ps_if (pt_cmpR (op_neD hu) (pe_lc (own := [("_law_w", 19)]) (g := gName 19) rfl nd (pi_list (pv 12)) (blkOk_by (N := nLaw) (sc := defScope sLaw) (by decide +kernel))
          (fun _ _ _ _ _ => pg_name (i := 19) nd rfl (Or.inl rfl)) (fun _ _ _ _ _ => pts_one (PW.pt (pw_or (pt_cmpR op_ne (pe_ix (ix_tupK K) (pv 19) pe_int (fun _ _ => rfl)) pe_int (nomark _)) (pw_or1 (pt_cmpR op_gt (pe_ix (ix_tupK K) (pv 19) pe_int (fun _ _ => rfl)) pe_int (nomark _)))))) (fun _ _ _ _ _ => pv 19)) (pe_lst pa_nil) (nomark _))
        (pss_cons (ps_set (i := 11) nd rfl (.inr rfl) (pe_tup (pa_cons pe_int (pa_cons pe_int pa_nil))))
        (pss_one (ps_setLc (i := 12) (own := [("_law_w", 19)]) (g := gName 19) (tt := tYes) rfl nd rfl rfl (sw_true rfl rfl rfl (by decide +kernel)) (pi_list (pv 5)) (blkOk_by (N := nLaw) (sc := defScope sLaw) (by decide +kernel))
          (fun _ _ _ _ _ => pg_name (i := 19) nd rfl (Or.inl rfl)) (fun _ _ _ _ _ => pts_nil) (fun _ _ _ _ _ => pe_tup (pa_cons (pv 19) (pa_cons pe_int pa_nil)))))) pss_nil)
      (pss_cons (ps_set (i := 13) nd rfl (.inr rfl) (pe_fn Lo h1 (pa_cons (pe_op op_add pe_int (pe_fn Dr h2 (pa_cons (pv 1) (pa_cons (pe_op op_pow pe_int pe_int) pa_nil)))) (pa_cons (pe_op op_add pe_int (pe_fn Dr h2 (pa_cons (pv 1) (pa_cons (pe_op op_pow pe_int pe_int) pa_nil)))) pa_nil))))
      (pss_cons (ps_set (i := 14) nd rfl (.inr rfl) (pe_cut (pe_ifExp (pt_val (pv 2)) (pe_tup (pa_cons pe_int (pa_cons pe_int pa_nil))) (pe_fn Lo h1 (pa_cons (pe_op op_sub (pe_fn Dr h2 (pa_cons (pv 1) (pa_cons (pe_op op_add (pe_op op_mul pe_int (pe_op op_pow pe_int pe_int)) pe_int) pa_nil))) (pe_op op_pow pe_int pe_int)) (pa_cons (pe_op op_add pe_int (pe_fn Dr h2 (pa_cons (pv 1) (pa_cons pe_int pa_nil)))) pa_nil))))))
      (pss_cons (ps_set (i := 15) nd rfl (.inl rfl) (pe_mkI Mr (fun _ _ _ _ => row_made) hr (by decide) (pa_cons (pe_lc (own := [("_law_w", 19)]) (g := gName 19) (tt := tYes) rfl nd (pi_list (pv 12)) (blkOk_by (N := nLaw) (sc := defScope sLaw) (by decide +kernel))
          (fun _ _ _ _ _ => pg_name (i := 19) nd rfl (Or.inl rfl)) (fun _ _ _ _ _ => pts_nil) (fun _ _ _ _ _ => pe_ix (ix_tupK K) (pv 19) pe_int (fun _ _ => rfl)))
        (pa_cons (pe_lc (own := [("_law_v", 20)]) (g := gName 20) (tt := tYes) rfl nd (pi_list (pv 6)) (blkOk_by (N := nLaw) (sc := defScope sLaw) (by decide +kernel))
          (fun _ _ _ _ _ => pg_name (i := 20) nd rfl (Or.inl rfl)) (fun _ _ _ _ _ => pts_nil) (fun _ _ _ _ _ => pe_fn Ad h2 (pa_cons (pe_fn Mu h2 (pa_cons (pv 20) (pa_cons (pv 13) pa_nil))) (pa_cons (pv 14) pa_nil))))
        (pa_cons (pv 2) pa_nil)))))
      (pss_cons (ps_set (i := 16) nd rfl (.inl rfl) (pe_fn Ko h9 (pa_cons (pv 7) (pa_cons (pv 15) pa_nil))))
      (pss_cons (ps_if (PW.pt (pw_or (pt_cmpR op_isnotB (pe_fn Ar h8 (pa_cons (pv 7) (pa_cons (pv 15) pa_nil))) pe_bl (nomark _))
          (pw_or (pt_not (pt_val (pe_callB call_isi (by rfl) B.isi (by decide +kernel) (pa_cons (pv 16) (pa_cons (pe_glob (v := .ref D) rfl TK.mg rfl) pa_nil)))))
          (pw_or1 (pt_not (pt_cmpR (op_eqOf ER h1) (pe_fn Lr h7 (pa_cons (pv 15) pa_nil)) (pv 9) (nomark _))))))) (pss_one (ps_ret pe_bl)) pss_nil)
      (C8.pss_cut (ps_if (pt_val (pe_fn St h3 (pa_cons (pv 6) (pa_cons (pv 2) pa_nil))))
        (pss_cons (ps_if (PW.pt (pw_or (pt_cmpR (op_neD hu) (pe_tup (pa_cons (pe_fld (pv 16) rfl) (pa_cons (pe_fld (pv 16) rfl) (pa_cons (pe_fld (pv 16) rfl) pa_nil)))) (pe_tup (pa_cons (pv 11) (pa_cons (pv 13) (pa_cons (pv 14) pa_nil)))) (nomark _))
            (pw_or1 (pt_not (pt_cmpR (op_eqOf EK h1) (pv 16) (pe_mkI Mk (fun _ _ _ _ => kin_made) hr (by decide) (pa_cons (pv 11) (pa_cons (pv 13) (pa_cons (pv 14) pa_nil)))) (nomark _)))))) (pss_one (ps_ret pe_bl)) pss_nil)
        (pss_one (ps_if (pt_not (pt_val (pe_fn Eq h3 (pa_cons (pv 11) (pa_cons (pv 13) (pa_cons (pv 14) pa_nil)))))) (pss_one (ps_ret pe_bl)) pss_nil)))
        (pss_one (ps_if (PW.pt (pw_or (pt_cmpR (op_neD hu) (pe_fld (pv 16) rfl) (pv 11) (nomark _)) (pw_or (pt_cmpR (op_neD hu) (pe_fld (pv 16) rfl) (pe_tup (pa_cons pe_int (pa_cons pe_int pa_nil))) (nomark _))
          (pw_or1 (pt_cmpR (op_neD hu) (pe_fld (pv 16) rfl) (pe_cut (pe_ifExp (pt_val (pv 2)) (pe_tup (pa_cons pe_int (pa_cons pe_int pa_nil))) (pe_fn Su h2 (pa_cons (pe_ix ix_tup (pe_fld (pv 15) rfl) pe_int (fun _ _ => rfl)) (pa_cons (pe_ix ix_tup (pe_fld (pv 7) rfl) pe_int (fun _ _ => rfl)) pa_nil))))) (nomark _)))))) (pss_one (ps_ret pe_bl)) pss_nil)))
      (pss_cons (ps_if (PW.pt (pw_or (pt_not (pt_cmpR (op_eqOf ER h1) (pe_fn Ll h9 (pa_cons (pv 16) (pa_cons (pv 7) pa_nil))) (pv 15) (nomark _)))
          (pw_or1 (pt_not (pt_cmpR (op_eqOf ER h1) (pe_fn Ll h9 (pa_cons (pe_fn Ko h9 (pa_cons (pv 15) (pa_cons (pv 7) pa_nil))) (pa_cons (pv 15) pa_nil))) (pv 7) (nomark _)))))) (pss_one (ps_ret pe_bl)) pss_nil)
      (pss_cons (ps_if (PW.pt (pw_or (pt_not (pt_cmpR (op_eqOf EK h1) (pe_fn Ko h9 (pa_cons (pv 7) (pa_cons (pv 7) pa_nil))) (pe_mkI Mk (fun _ _ _ _ => kin_made) hr (by decide) (pa_cons (pe_tup (pa_cons pe_int (pa_cons pe_int pa_nil))) (pa_cons (pe_tup (pa_cons pe_int (pa_cons pe_int pa_nil))) (pa_cons (pe_tup (pa_cons pe_int (pa_cons pe_int pa_nil))) pa_nil)))) (nomark _)))
          (pw_or1 (pt_not (pt_cmpR (op_eqOf ER h1) (pe_fn Ll h9 (pa_cons (pe_mkI Mk (fun _ _ _ _ => kin_made) hr (by decide) (pa_cons (pe_tup (pa_cons pe_int (pa_cons pe_int pa_nil))) (pa_cons (pv 13) (pa_cons (pe_tup (pa_cons pe_int (pa_cons pe_int pa_nil))) pa_nil)))) (pa_cons (pv 7) pa_nil))) (pe_mt MQ h7 pass0 (pv 7) (pa_cons (pv 13) pa_nil)) (nomark _)))))) (pss_one (ps_ret pe_bl)) pss_nil)
      (pss_cons (ps_if (pt_not (pt_val (pe_fn Sg hr (pa_cons (pv 7) (pa_cons (pv 5) (pa_cons (pv 6) (pa_cons (pv 2) (pa_cons (pe_fn Dr h2 (pa_cons (pv 1) (pa_cons (pv 3) pa_nil))) (pa_cons (pv 8) pa_nil))))))))) (pss_one (ps_ret pe_bl)) pss_nil)
      (pss_cons (ps_set (i := 17) nd rfl (.inl rfl) (pe_mkI Mk (fun _ _ _ _ => kin_made) hr (by decide) (pa_cons (pe_tup (pa_cons pe_int (pa_cons pe_int pa_nil))) (pa_cons (pv 13) (pa_cons (pe_tup (pa_cons pe_int (pa_cons pe_int pa_nil))) pa_nil)))))
      (pss_cons (ps_if (pt_cmpR (op_neD hu) (pe_fn Ll h9 (pa_cons (pv 17) (pa_cons (pv 7) pa_nil))) (pe_lst (pa_cons pe_str (pa_cons pe_int (pa_cons pe_str pa_nil)))) (nomark _)) (pss_one (ps_ret pe_bl)) pss_nil)
      (pss_cons (ps_if (pt_val (pv 2)) (pss_one (ps_ret (pe_and (pe_cmpR (op_eqD hu) (pe_fn Ll h9 (pa_cons (pe_mkI Mk (fun _ _ _ _ => kin_made) hr (by decide) (pa_cons (pe_tup (pa_cons pe_int (pa_cons pe_int pa_nil))) (pa_cons (pv 13) (pa_cons (pe_tup (pa_cons pe_int (pa_cons pe_int pa_nil))) pa_nil)))) (pa_cons (pv 7) pa_nil))) (pe_lst (pa_cons pe_str pa_nil)) (nomark _))
          (pe_one (pe_cmpR (op_eqD hu) (pe_fn Ll h9 (pa_cons (pe_mkI Mk (fun _ _ _ _ => kin_made) hr (by decide) (pa_cons (pe_tup (pa_cons pe_int (pa_cons pe_int pa_nil))) (pa_cons (pv 13) (pa_cons (pe_tup (pa_cons pe_int (pa_cons pe_int pa_nil))) pa_nil)))) (pa_cons (pv 7) pa_nil))) (pe_lst (pa_cons pe_str (pa_cons pe_int (pa_cons pe_str pa_nil)))) (nomark _)))))) pss_nil)
      (pss_one (ps_ret (pe_cmpR (op_eqOf ER h1) (pe_fn Ll h9 (pa_cons (pe_mkI Mk (fun _ _ _ _ => kin_made) hr (by decide) (pa_cons (pe_tup (pa_cons pe_int (pa_cons pe_int pa_nil))) (pa_cons (pe_tup (pa_cons pe_int (pa_cons pe_int pa_nil))) (pa_cons (pv 14) pa_nil)))) (pa_cons (pv 7) pa_nil))) (pe_mt MU h7 passE0 (pv 7) (pa_cons (pv 14) pa_nil)) (nomark _))))))))))))))))))))))))))))))), ?_⟩
    -- the hand, the wall, the number
    refine ⟨_, rfl, a, zs, rfl, ha, hz, fun H1 v1 e1 r1 => ?_⟩
    obtain ⟨h, L, rfl, hH1⟩ := r1
    refine ⟨_, rfl, h, L, 3, rfl, hH1, by decide, by decide, fun H2 r2 b2 a2 _ _ => ⟨rfl, ?_⟩⟩
    generalize hwl : decide (V.int r2 = V.int 0) = wl
    refine ⟨_, rfl, wl, rfl, ?_⟩
    obtain ⟨z, ez, hz1, hz2, hz3⟩ : ∃ z : Int, (if wl = true then V.int 1 else V.int 2) = V.int z ∧ 1 ≤ z ∧ z ≤ 2 ∧ (wl = false → z = 2) := by
      cases wl with
      | true => exact ⟨1, rfl, by decide, by decide, fun z => Bool.noConfusion z⟩
      | false => exact ⟨2, rfl, by decide, by decide, fun _ => rfl⟩
    rw [ez]
    refine ⟨_, rfl, h, L, 4, rfl, a2, by decide, by decide, fun H3 r3 b3 a3 r30 r34 => ⟨z, r3, rfl, rfl, ?_⟩⟩
    obtain ⟨mn0, hmn0⟩ : ∃ mn : Nat, z + r3 = (mn : Int) := ⟨(z + r3).toNat, by omega⟩
    refine ⟨fun σ' H' => ∃ mn : Nat, σ' = [some (.ref a), some (.ref h), some (.bl wl), some (.int (mn : Int)), none, none, none, none, none, none, none, none, none, none, none, none, none, none, none, none, none] ∧ HandAt K H' h L ∧ 1 ≤ mn ∧ mn ≤ 40 ∧ (wl = false → 2 ≤ mn), ?_, ?_⟩
    · refine ⟨_, rfl, h, L, 8, rfl, a3, by decide, by decide, fun H4 r4 b4 a4 _ _ => ⟨rfl, _, rfl, ite2 (fun _ => ⟨40, rfl, a4, by decide, by decide, fun _ => by decide⟩) fun _ => ⟨mn0, by rw [← hmn0]; rfl, a4, by omega, by omega, fun w => by have := hz3 w; omega⟩⟩⟩
    rintro σ' H4 ⟨mn, rfl, a4, mn1, mn40, mn2⟩
    -- size
    refine ⟨_, rfl, h, L, 3, rfl, a4, by decide, by decide, fun H5 r5 b5 a5 r50 r53 => ⟨1, r5, rfl, rfl, ?_⟩⟩
    -- weights
    refine ⟨_, rfl, (mn : Int), rfl, by omega, by omega, fun W hW => lc_drawn (n := ((mn : Int)).toNat) hW a5 (fun v => ∃ w : Int, v = .int w ∧ 1 ≤ w ∧ w ≤ 9) (by omega) (fun x H Q aH q => ?_) fun H6 acc b6 a6 hacc hlen hrel hWh hWL => ?_⟩
    · refine ⟨_, rfl, _, rfl, h, L, 3, rfl, aH, by decide, by decide, fun H' r b' a' r0 r3 => ⟨1, r, rfl, rfl, 1 + r5, 1 + r, rfl, rfl, .inl ⟨by omega, by omega⟩, q H' _ b' a' ⟨(1 + r5) * (1 + r), rfl, ?_, ?_⟩⟩⟩
      · have : 1 * 1 ≤ (1 + r5) * (1 + r) := Int.mul_le_mul (by omega) (by omega) (by decide) (by omega)
        omega
      · have : (1 + r5) * (1 + r) ≤ 3 * 3 := Int.mul_le_mul (by omega) (by omega) (by omega) (by decide)
        omega
    obtain ⟨ws, rfl, hws⟩ := ints_of hrel
    have lw : ws.length = mn := by rw [List.length_map] at hlen; omega
    -- speeds
    refine ⟨_, rfl, _, rfl, h, L, mn, rfl, a6, mn1, mn40, fun H7 M xs qs b7 a7 hM hMh hML hxs hq zq => ?_⟩
    have hW7 : H7 W = some (.lst (ws.map V.int)) := b7 _ _ hWh hacc
    obtain ⟨R, rfl, rfl, rfl⟩ : ∃ R : RV, R.ws = ws ∧ R.vs = qs ∧ R.wall = wl := ⟨⟨ws, qs, wl⟩, rfl, rfl, rfl⟩
    have g : Good R := ⟨hq.trans lw.symm, by omega, fun w => by have := mn2 w; omega, by omega, fun w hw => (hws w hw).1, fun w hw => (hws w hw).2⟩
    have fR : Fit R := ⟨g, zq.up (by decide) (by decide)⟩
    -- row
    refine ⟨_, rfl, _, rfl, _, rfl, W, M, R, rfl, ⟨g, .inl (SqL.of hW7), ⟨xs, .inl (SqL.of hM), RtsI.of hxs⟩, zq.up (by decide) (by decide)⟩, fun H8 v8 e8 r8 => ?_⟩
    obtain ⟨x, rfl, hx⟩ := r8
    refine ⟨_, rfl, _, rfl, _, rfl, W, M, xs, R, rfl, SqL.of (e8 _ _ hW7), SqL.of (e8 _ _ hM), hxs.mono (Ext.imm e8), fR, fun H9 lv e9 r9 => ?_⟩
    refine ⟨_, rfl, x, R, 100, 60, rfl, hx.mono (Ext.imm e9), g, fR.sz, by decide, fun H10 v10 e10 r10 => ?_⟩
    obtain ⟨y, rfl, hy⟩ := r10
    have e710 := Ext.trans (Ext.trans e8 e9) e10
    have kp0 : Kp K h L H10 H10 := Kp.refl (a7.ext e710)
    have st : ∀ {H' : Hp}, Kp K h L H10 H' → H' W = some (.lst (R.ws.map V.int)) ∧ H' M = some (.lst xs) ∧ Rts K H' xs R.vs ∧ RowAt K C H' x R ∧ RowAt K C H' y (least R) ∧ LeastT K H' lv R := fun {H'} kp =>
      ⟨kp.b _ _ hWh (e710 _ _ hW7), kp.b _ _ hMh (e710 _ _ hM), (hxs.mono (Ext.imm e710)).mono kp.i, (hx.mono (Ext.imm (Ext.trans e9 e10))).mono kp.i, hy.mono kp.i, (r9.mono (Ext.t e10)).mono (ExtI.t kp.i)⟩
    have n40 := g.n40
    have n1 := g.n1
    have len := g.len
    have zl : Szs 4963 1 (least R).vs := castL_sz (fun u hu => lt_up (lowest_mem_lt (rested_sz g fR.sz) (by rw [rested_length]; omega) hu) (by decide)) (by decide)
    -- the told row
    have s0 := st kp0
    obtain ⟨dy, yw, ys, fs, hyy, fy, tyw, tys⟩ := id s0.2.2.2.2.1
    refine ⟨_, rfl, .ref y, .ref C, .ref C, .ref C, true, rfl, .own C, tyIns NC hyy, NC.me, true, rfl, iteF ?_⟩
    refine ⟨_, rfl, y, C, dy, _, _, rfl, hyy, T.cl, T.w, fy.w, _, rfl, y, C, dy, _, _, rfl, hyy, T.cl, T.s, fy.s, by show 2 ≤ sizeLine; decide, fun p1 hp1 => ?_⟩
    have f1 := ext_new (o := .tup [V.ref yw, V.ref ys]) hp1
    have kp1 := kp0.ext f1
    refine ⟨_, rfl, ned shpBoth (by decide) (a := ((least R).ws, (least R).vs)) (.tup (SqT.of upd_same) (.cons (dp_intsT (tyw.ext f1)) (.cons (dp_ratsT (tys.monoT (Ext.t f1))) .nil))) (dp_least (st kp1).2.2.2.2.2) fun c1 hc1 => ⟨_, rfl, iteN (notB (hc1.mpr rfl)) ?_⟩⟩
    refine ⟨_, rfl, y, C, dy, _, _, rfl, f1 _ _ hyy, T.cl, T.l, fy.l, _, rfl, rfl, _, rfl, iteN (notB (decide_eq_true rfl)) ?_⟩
    refine ⟨_, rfl, y, least R, 4963, 1, rfl, (st kp1).2.2.2.2.1, least_good g, zl, by decide, fun H11 v11 e11 r11 => ?_⟩
    obtain ⟨y2, rfl, hy2⟩ := r11
    have kp2 := kp1.ext e11
    refine ⟨_, rfl, eq_rows NC hy2 (st kp2).2.2.2.2.1 fun c2 hc2 => ⟨_, rfl, iteN (notB (hc2.mpr (least_idem g))) ?_⟩⟩
    -- bounds
    obtain ⟨lp, lq, lr, rfl, lt1, lt2, lt3⟩ := id (st kp2).2.2.2.2.2
    obtain ⟨n0, ns, ens⟩ : ∃ n0 ns, leastW R.ws = n0 :: ns := by
      have e : (leastW R.ws).length = R.ws.length := leastW_length R.ws
      cases hh : leastW R.ws with
      | nil => rw [hh] at e; simp at e; omega
      | cons a b => exact ⟨a, b, rfl⟩
    refine ⟨_, rfl, lp, _, _, _, rfl, rfl, lt1, atI_nat (j := 0) rfl, lq, n0, ns, rfl, SqT.cast (show (leastW R.ws).map V.int = (n0 :: ns).map V.int by rw [ens]) lt2, fun bm hbm => ?_⟩
    obtain ⟨bm1, bm9⟩ := leastW_bounds g (show bm ∈ leastW R.ws by rw [ens]; exact hbm)
    have q1 : 1 ≤ 9 / bm := Int.le_ediv_of_mul_le (by omega) (by omega)
    have q9 : 9 / bm ≤ 9 := Int.ediv_le_self _ (by decide)
    -- factor
    refine ⟨_, rfl, _, rfl, 9, bm, rfl, rfl, ⟨by omega, by omega⟩, h, L, 9 / bm, rfl, kp2.a, by omega, by show (9 / bm).natAbs < 1152921504606846976; omega, fun H12 r12 b12 a12 r120 r121 => ⟨1, r12, rfl, rfl, _, rfl, 1 + r12, 1 + r5, rfl, by omega, lt_up (show (1 + r5).natAbs < 2 ^ 5 by show (1 + r5).natAbs < 32; omega) (by decide), fun H13 fv e13 rf => ?_⟩⟩
    have kp3 := (kp2.draw b12 a12).ext e13
    have f0 : 0 < Rat.divInt (1 + r12) (1 + r5) := divInt_pos (by omega) (by omega)
    have zf : Sz 5 5 (Rat.divInt (1 + r12) (1 + r5)) := sz_frac (by omega) (by show (1 + r12).natAbs < 32; omega) (by show (1 + r5).natAbs < 32; omega) (by decide) (by decide)
    generalize Rat.divInt (1 + r12) (1 + r5) = f at rf f0 zf
    -- new
    have lws : (R.ws.map V.int).length = R.ws.length := List.length_map ..
    have W13 := (st kp3).1
    refine ⟨_, rfl, W, rfl, ⟨_, SqL.of W13⟩, fun N1 hN1 => lc_map (walk_list (K := K) (a := W) (xs := R.ws.map V.int)) hN1 (fun i x => (R.ws.map V.int)[i]? = some x) yAt_of (fun i H v => ∃ q, (R.ws.map fun w : Int => (w : Rat) * f)[i]? = some q ∧ Rt K H v q) (by omega) (fun i H H' v e ⟨q, h1, h2⟩ => ⟨q, h1, h2.mono e⟩) (fun H'' e => SqL.of (e _ _ W13)) (fun i v H14 Q14 hi hv e14 k14 => ?_) fun H14 acc e14 hacc14 hlen14 hrel14 => ?_⟩
    · rw [List.getElem?_map] at hv
      obtain ⟨wt, hwt, rfl⟩ := Option.map_eq_some_iff.mp hv
      have w1 := g.w1 wt (List.mem_of_getElem? hwt)
      have w9 := g.w9 wt (List.mem_of_getElem? hwt)
      refine ⟨_, rfl, by show 2 ≤ sizeLine; decide, fun p hp => ⟨_, rfl, .ref p, fv, wt, f, rfl, ⟨rt_int upd_same, rf.mono (Ext.imm (Ext.trans e14 (ext_new hp))), 4, 1, 5, 5, sz_int (by show wt.natAbs < 16; omega) (by decide), zf, by decide, by decide⟩, fun H15 v15 e15 r15 => k14 H15 v15 (Ext.trans (ext_new hp) e15) ⟨(wt : Rat) * f, ?_, r15⟩⟩⟩
      rw [List.getElem?_map, hwt]
      rfl
    have lmw : ∀ f : Rat, (R.ws.map fun w : Int => (w : Rat) * f).length = R.ws.length := fun f => List.length_map ..
    have r14 : Rts K H14 acc (R.ws.map fun w : Int => (w : Rat) * f) := rts_of_at (by rw [hlen14, lws, lmw]) fun i hi => hrel14 i (by rw [lws, ← lmw f]; exact hi)
    have kp4 := kp3.ext e14
    have lacc : acc.length = R.ws.length := (Paired.len r14).trans (lmw f)
    -- a factor that fits
    refine ⟨fun σ' H' => ∃ (f : Rat) (fv : V) (N : Addr) (ns : List V), σ' = [some (.ref a), some (.ref h), some (.bl R.wall), some (.int (mn : Int)), some (.int (1 + r5)), some (.ref W), some (.ref M), some (.ref x), some (.ref lp), some (.ref y), some (.int bm), some fv, some (.ref N), none, none, none, none, none, none, none, none] ∧ Kp K h L H10 H' ∧ Rt K H' fv f ∧ Sz 5 5 f ∧
      (∀ w ∈ R.ws, ((w : Rat) * f).den = 1 ∧ 1 ≤ ((w : Rat) * f).num ∧ ((w : Rat) * f).num ≤ 9) ∧ H' N = some (.lst ns) ∧ Rts K H' ns (R.ws.map fun w : Int => (w : Rat) * f), ?_, ?_⟩
    · refine ⟨_, rfl, N1, rfl, ⟨_, SqL.of hacc14⟩, fun D2 hD2 => lc_filt (K := K) (a := N1) (xs := acc) hD2 (SqL.of hacc14) (fun x q => Rt K H14 x q) r14 badQ (by omega) (fun x q H15 Q15 rq e15 q15 => ?_) (fun x q H15 Q15 rq e15 q15 => ⟨_, rfl, q15⟩) fun H15 acc2 e15 hacc2 r15 => ?_⟩
      · obtain ⟨p, rfl, t⟩ := rq
        have t := t.ext e15
        refine ⟨_, rfl, p, _, _, _, rfl, rfl, t, atI_nat (j := 1) rfl, rfl, _, rfl, ite2 (fun hc => ?_) fun hc => ?_⟩
        · have : badQ q = true := by unfold badQ; rw [hc]; rfl
          rw [this] at q15
          exact q15
        · refine ⟨_, rfl, p, _, _, _, rfl, rfl, t, atI_nat (j := 0) rfl, q.num, 9, rfl, rfl, _, rfl, ?_⟩
          have hc : (!decide (V.int (q.den : Int) = V.int 1)) = false := by simpa using hc
          have : badQ q = decide (9 < q.num) := by unfold badQ; rw [hc]; rfl
          rw [this] at q15
          exact q15
      refine ⟨by show 0 ≤ sizeLine; decide, fun p hp => ?_⟩
      have e16 := Ext.trans e15 (ext_new (o := .lst []) hp)
      have kp5 := kp4.ext e16
      refine ned shpRatL (by decide) (dp_ratL (SqL.of ((ext_new (o := .lst []) hp) _ _ hacc2)) (Rts.mono r15 (Ext.imm e16))) (dp_ratL (SqL.of upd_same) (qs := []) .nil) fun c hc => ⟨_, rfl, ite2 (fun hn => ?_) fun hn => ?_⟩
      · -- factor 1
        refine ⟨by show 2 ≤ sizeLine; decide, fun p2 hp2 => ?_⟩
        have kp6 := kp5.ext (ext_new (o := .tup [V.int 1, V.int 1]) hp2)
        have W16 := (st kp6).1
        refine ⟨_, rfl, W, rfl, ⟨_, SqL.of W16⟩, fun N2 hN2 => lc_map (walk_list (K := K) (a := W) (xs := R.ws.map V.int)) hN2 (fun i x => (R.ws.map V.int)[i]? = some x) yAt_of (fun i H v => ∃ q, (R.ws.map fun w : Int => (w : Rat) * 1)[i]? = some q ∧ Rt K H v q) (by omega) (fun i H H' v e ⟨q, h1, h2⟩ => ⟨q, h1, h2.mono e⟩) (fun H'' e => SqL.of (e _ _ W16)) (fun i v H17 Q17 hi hv e17 k17 => ?_) fun H17 acc3 e17 hacc17 hlen17 hrel17 => ?_⟩
        · rw [List.getElem?_map] at hv
          obtain ⟨wt, hwt, rfl⟩ := Option.map_eq_some_iff.mp hv
          refine ⟨_, rfl, by show 2 ≤ sizeLine; decide, fun p hp => k17 _ _ (ext_new hp) ⟨(wt : Rat) * 1, ?_, ?_⟩⟩
          · rw [List.getElem?_map, hwt]
            rfl
          · rw [Rat.mul_one]
            exact rt_int upd_same
        · exact ⟨1, _, N2, acc3, rfl, kp6.ext e17, (rt_one upd_same).mono (Ext.imm e17), sz_one.up (by decide) (by decide), fun w hw => ⟨one_den w, by rw [one_num]; exact g.w1 w hw, by rw [one_num]; exact g.w9 w hw⟩, hacc17, rts_of_at (by rw [hlen17, lws, lmw]) fun i hi => hrel17 i (by rw [lws, ← lmw 1]; exact hi)⟩
      · have hnil : (R.ws.map fun w : Int => (w : Rat) * f).filter badQ = [] := hc.mp (by cases c with | true => rfl | false => exact absurd rfl hn)
        refine ⟨f, fv, N1, acc, rfl, kp5, rf.mono (Ext.imm (Ext.trans e14 e16)), zf, fun w hw => ?_, e16 _ _ hacc14, Rts.mono r14 (Ext.imm e16)⟩
        obtain ⟨d1, d9⟩ := badQ_nil hnil _ (List.mem_map.mpr ⟨w, hw, rfl⟩)
        exact ⟨d1, pos_num f0 (g.w1 w hw), d9⟩
    clear f0 zf rf r14
    rintro σ' H14 ⟨f, fv, N, ns, rfl, kp, rf, zf, hfit, hN, rN⟩
    -- pace
    refine ⟨_, rfl, 10, 6, rfl, rfl, ⟨by decide, by decide, by decide⟩, h, L, _, rfl, kp.a, by decide, by decide, fun H15 r15 b15 a15 p0 p1 => ⟨1, r15, rfl, rfl, _, rfl, 10, 6, rfl, rfl, ⟨by decide, by decide, by decide⟩, h, L, _, rfl, a15, by decide, by decide, fun H16 r16 b16 a16 p20 p21 => ⟨1, r16, rfl, rfl, ?_⟩⟩⟩
    have p1 : r15 < 1000000 := p1
    have p21 : r16 < 1000000 := p21
    refine ⟨1 + r15, 1 + r16, rfl, by omega, lt_up (show (1 + r16).natAbs < 2 ^ 21 by show (1 + r16).natAbs < 2097152; omega) (by decide), fun H17 pv e17 rp => ?_⟩
    have kp17 := ((kp.draw b15 a15).draw b16 a16).ext e17
    have pp : 0 < Rat.divInt (1 + r15) (1 + r16) := divInt_pos (by omega) (by omega)
    have zp : Sz 20 20 (Rat.divInt (1 + r15) (1 + r16)) := sz_frac (by omega) (by show (1 + r15).natAbs < 1048576; omega) (by show (1 + r16).natAbs < 1048576; omega) (by decide) (by decide)
    generalize Rat.divInt (1 + r15) (1 + r16) = p at rp pp zp
    have rf : Rt K H17 fv f := ((rf.mono (kp.a.i b15)).mono (a15.i b16)).mono (Ext.imm e17)
    have rN : Rts K H17 ns (R.ws.map fun w : Int => (w : Rat) * f) := ((Rts.mono rN (kp.a.i b15)).mono (a15.i b16)).mono (Ext.imm e17)
    have hN : ∃ ns', H17 N = some (.lst ns') ∧ ns' = ns ∧ N ≠ h := by
      by_cases e : N = h
      · exact absurd hN (by
          obtain ⟨cs, i, r, s, xh⟩ := kp.a
          rw [e, xh.at_]
          intro z
          have z := HO.lst.inj (Option.some.inj z)
          have len := Paired.len rN
          rw [List.length_map] at len
          rw [← z] at rN
          cases hw : R.ws with
          | nil => rw [hw] at n1; exact absurd n1 (by decide)
          | cons w0 wr =>
            rw [hw] at rN
            cases rN with
            | cons h1 h2 =>
              cases wr with
              | nil => cases h2
              | cons w1 wr =>
                cases h2 with
                | cons h3 _ =>
                  obtain ⟨p, hp, _⟩ := h3
                  cases hp)
      · exact ⟨ns, e17 _ _ (b16 _ _ e (b15 _ _ e hN)), rfl, e⟩
    obtain ⟨ns', hN17, ens', hNh⟩ := hN
    rw [ens'] at hN17
    -- more
    refine ⟨fun v H' => Kp K h L H17 H' ∧ ∃ m : Rat, Rt K H' v m ∧ Sz 31 5 m ∧ (R.wall = true → m = 0), ?_, fun mv H18 h18 => ?_⟩
    · refine ⟨_, rfl, R.wall, rfl, ?_⟩
      cases hw : R.wall with
      | true => exact iteT ⟨by show 2 ≤ sizeLine; decide, fun p hp => ⟨(Kp.refl kp17.a).ext (ext_new hp), 0, ⟨p, rfl, SqT.of upd_same⟩, sz0 (by decide) (by decide), fun _ => rfl⟩⟩
      | false =>
        refine iteF ⟨_, rfl, 10, 9, rfl, rfl, ⟨by decide, by decide, by decide⟩, 2, _, rfl, rfl, .inl ⟨by decide, by decide⟩, _, 1, rfl, rfl, h, L, _, rfl, kp17.a, by decide, by decide, fun Ha ra ba aa x0 x1 => ⟨10, 9, rfl, rfl, ⟨by decide, by decide, by decide⟩, ra, _, rfl, rfl, _, rfl, h, L, 9, rfl, aa, by decide, by decide, fun Hb rb bb ab y0 y1 => ⟨1, rb, rfl, rfl, ?_⟩⟩⟩
        have x1 : ra < 2000000001 := x1
        have hy : (1 + rb).natAbs < 2 ^ 5 := by show (1 + rb).natAbs < 32; omega
        refine ⟨ra - 1000000000, 1 + rb, rfl, by omega, lt_up hy (by decide), fun Hc mv e rm => ⟨(((Kp.refl kp17.a).draw ba aa).draw bb ab).ext e, _, rm, sz_frac (by omega) (by show (ra - 1000000000).natAbs < 2147483648; omega) hy (by decide) (by decide), fun z => Bool.noConfusion z⟩⟩
    obtain ⟨kp18, m, rm, zm, hm⟩ := h18
    have rf := rf.mono kp18.i
    have rp := rp.mono kp18.i
    have rN := Rts.mono rN kp18.i
    have hN := kp18.b _ _ hNh hN17
    have kp := kp17.trans kp18
    have ok : LedOk f p m R := ledOk_of hfit pp hm
    have zp20 := zp
    have zp : Sz 21 21 p := zp.up (by decide) (by decide)
    -- the other row
    have lns : ns.length = R.ws.length := (Paired.len rN).trans (lmw f)
    refine ⟨_, rfl, N, rfl, ⟨_, SqL.of hN⟩, fun D1 hD1 => lc_map (walk_list (K := K) (a := N) (xs := ns)) hD1 (fun i x => ns[i]? = some x) yAt_of (fun i H v => ∃ u, (heavy f R.ws)[i]? = some u ∧ v = .int u) (by omega) (fun i H H' v e h => h) (fun H'' e => SqL.of (e _ _ hN)) (fun i v H19 Q19 hi hv e19 k19 => ?_) fun H19 acc1 e19 hacc1 hlen1 hrel1 => ?_⟩
    · obtain ⟨q, hq, pq, rfl, t⟩ := paired_at rN hv
      rw [List.getElem?_map] at hq
      obtain ⟨wt, hwt, rfl⟩ := Option.map_eq_some_iff.mp hq
      exact ⟨_, rfl, pq, _, _, _, rfl, rfl, t.ext e19, atI_nat (j := 0) rfl, k19 H19 _ (Ext.refl _) ⟨_, by unfold heavy; rw [List.getElem?_map, hwt]; rfl, rfl⟩⟩
    have lh : (heavy f R.ws).length = R.ws.length := List.length_map ..
    have ew : acc1 = (heavy f R.ws).map V.int := list_of_at (by rw [hlen1, lns, lh]) fun i hi => by
      obtain ⟨v, a1, q, a2, a3⟩ := hrel1 i (by rw [lns, ← lh]; exact hi)
      exact ⟨v, a1, q, a2, a3⟩
    subst ew
    have kp19 := kp.ext e19
    have M19 := (st kp19).2.1
    have x19 := (st kp19).2.2.1
    have lx : xs.length = R.vs.length := Paired.len x19
    refine ⟨_, rfl, M, rfl, ⟨_, SqL.of M19⟩, fun D2 hD2 => lc_map (walk_list (K := K) (a := M) (xs := xs)) hD2 (fun i x => xs[i]? = some x) yAt_of (fun i H v => ∃ q, (led f p m R).vs[i]? = some q ∧ Rt K H v q) (by omega) (fun i H H' v e ⟨q, h1, h2⟩ => ⟨q, h1, h2.mono e⟩) (fun H'' e => SqL.of (e _ _ M19)) (fun i v H20 Q20 hi hv e20 k20 => ?_) fun H20 acc2 e20 hacc2 hlen2 hrel2 => ?_⟩
    · obtain ⟨q, hq, rq⟩ := paired_at x19 hv
      have z := zq q (List.mem_of_getElem? hq)
      have e1920 := Ext.trans e19 e20
      refine ⟨_, rfl, _, rfl, v, pv, q, p, rfl, ⟨rq.mono (Ext.imm e20), rp.mono (Ext.imm e1920), 42, 3, 21, 21, z, zp, by decide, by decide⟩, fun H21 v21 e21 r21 => ?_⟩
      refine ⟨_, rfl, v21, mv, q * p, m, rfl, ⟨r21, rm.mono (Ext.imm (Ext.trans e1920 e21)), 63, 24, 31, 5, z.mul zp, zm, by decide, by decide⟩, fun H22 v22 e22 r22 => k20 H22 v22 (Ext.trans e21 e22) ⟨q * p + m, ?_, r22⟩⟩
      show (R.vs.map fun v => v * p + m)[i]? = _
      rw [List.getElem?_map, hq]
      rfl
    have lv : (led f p m R).vs.length = R.vs.length := List.length_map ..
    have r20 : Rts K H20 acc2 (led f p m R).vs := rts_of_at (by rw [hlen2, lv]; exact lx) fun i hi => hrel2 i (by rw [lx, ← lv]; exact hi)
    have zS : Szs 69 29 (led f p m R).vs := fun q hq => by
      obtain ⟨u, hu, rfl⟩ := List.mem_map.mp hq
      exact ((zq u hu).mul zp).add zm (by decide) (by decide)
    have gS := led_good g ok
    have hl : least R = least (led f p m R) := (led_least g ok).symm
    have hback : (kinOf (led f p m R) R).p = if settled R = true then p⁻¹ else 1 := back_pace g ok
    have hkin := led_kin g ok
    have hwS : (led f p m R).wall = R.wall := rfl
    have hwsS : (led f p m R).ws = heavy f R.ws := rfl
    generalize led f p m R = S at *
    refine ⟨_, rfl, D1, D2, S, by rw [hwS]; rfl, ⟨gS, .inl (SqL.of (by rw [hwsS]; exact e20 _ _ hacc1)), ⟨acc2, .inl (SqL.of hacc2), RtsI.of r20⟩, zS.up (by decide) (by decide)⟩, fun H21 v21 e21 r21 => ?_⟩
    obtain ⟨o, rfl, ho⟩ := r21
    have fS : Fit S := ⟨gS, zS.up (by decide) (by decide)⟩
    have kp21 := (kp19.ext e20).ext e21
    -- kin
    refine ⟨_, rfl, _, rfl, x, o, R, S, rfl, (st kp21).2.2.2.1, ho, fR, fS, fun hne => absurd hl hne, fun _ => ?_⟩
    intro H22 v22 e22 r22
    obtain ⟨z, rfl, hz⟩ := r22
    have kp22 := kp21.ext e22
    have e1822 := Ext.trans (Ext.trans (Ext.trans e19 e20) e21) e22
    have st2 : ∀ {H' : Hp}, Kp K h L H22 H' → RowAt K C H' o S ∧ KinAt K D H' z (kinOf R S) ∧ Rt K H' fv f ∧ Rt K H' pv p ∧ Rt K H' mv m := fun {H'} kq =>
      ⟨ho.mono ((Ext.imm e22).trans kq.i), hz.mono kq.i, rf.mono ((Ext.imm e1822).trans kq.i), rp.mono ((Ext.imm e1822).trans kq.i), rm.mono ((Ext.imm e1822).trans kq.i)⟩
    have kq0 := Kp.refl kp22.a
    have zpF : Sz 21 21 (kinOf R S).p := by
      rw [hkin]
      split
      · exact zp
      · exact sz_one.up (by decide) (by decide)
    have zpB : Sz 21 21 (kinOf S R).p := by
      rw [hback]
      split
      · exact sz_inv zp20 (fun e => by rw [e] at pp; exact Rat.lt_irrefl pp)
      · exact sz_one.up (by decide) (by decide)
    have lF : LeadSz (kinOf R S) R := leadSz g gS hl zq zS zpF (by decide) (by decide) (by decide)
    have lB : LeadSz (kinOf S R) S := leadSz gS g hl.symm zS zq zpB (by decide) (by decide) (by decide)
    have kF := lead_kin g gS hl
    have kB := lead_kin gS g hl.symm
    -- are_kin, isinstance, least_row(other)
    refine ⟨_, rfl, _, rfl, x, o, R, S, rfl, (st kp22).2.2.2.1, (st2 kq0).1, fR, fS, fun H23 c23 e23 hc23 => ?_⟩
    have : c23 = true := hc23.mpr hl
    subst this
    have kq1 := kq0.ext e23
    refine ⟨true, true, rfl, rfl, _, rfl, iteN (by decide) ?_⟩
    obtain ⟨dz, zfs, za, zb, zc, hzz, _⟩ := id (st2 kq1).2.1
    refine ⟨_, rfl, .ref z, .ref D, .ref D, .ref D, true, rfl, .own D, tyIns ND.i hzz, ND.i.me, true, rfl, iteF ?_⟩
    refine ⟨_, rfl, o, S, 100, 60, rfl, (st2 kq1).1, gS, fS.sz, by decide, fun H24 v24 e24 r24 => ?_⟩
    obtain ⟨y3, rfl, hy3⟩ := r24
    have kq2 := kq1.ext e24
    refine ⟨_, rfl, eq_rows NC hy3 (st (kp22.trans kq2)).2.2.2.2.1 fun c hc => ⟨_, rfl, iteN (notB (hc.mpr hl.symm)) ?_⟩⟩
    -- settled?
    have s2 := st (kp22.trans kq2)
    refine ⟨fun σ' H' => σ' = [some (.ref a), some (.ref h), some (.bl R.wall), some (.int (mn : Int)), some (.int (1 + r5)), some (.ref W), some (.ref M), some (.ref x), some (.ref lp), some (.ref y), some (.int bm), some fv, some (.ref N), some pv, some mv, some (.ref o), some (.ref z), none, none, none, none] ∧ Kp K h L H22 H', ?_, ?_⟩
    · refine ⟨_, rfl, _, rfl, M, xs, R, rfl, SqL.of s2.2.1, s2.2.2.1, fR, fun H25 e25 => ⟨settled R, rfl, ?_⟩⟩
      have kq3 := kq2.ext e25
      obtain ⟨to, tk, tf, tp, tm⟩ := st2 kq3
      obtain ⟨dz, fs, fa, fb, fc, hi, ⟨la, lb, lc⟩, rfa, rfb, rfc⟩ := id tk
      cases hs : settled R with
      | true =>
        rw [hs, if_pos rfl] at hkin
        rw [hkin] at rfa rfb rfc
        refine iteT ⟨_, rfl, z, D, dz, _, _, rfl, hi, TK.cl, TK.f, la, _, rfl, z, D, dz, _, _, rfl, hi, TK.cl, TK.p, lb, _, rfl, z, D, dz, _, _, rfl, hi, TK.cl, TK.m, lc, by show 3 ≤ sizeLine; decide, fun p1 hp1 => ?_⟩
        refine ⟨_, rfl, _, rfl, _, rfl, by show 3 ≤ sizeLine; decide, fun p2 hp2 => ?_⟩
        have eP := ext_new (o := .tup [fa, fb, fc]) hp1
        have eP2 := ext_new (o := .tup [fv, pv, mv]) hp2
        have eR := Ext.trans eP eP2
        have kq4 := kq3.ext eR
        obtain ⟨_, _, tf4, tp4, tm4⟩ := st2 kq4
        refine ned shpKin (by decide) (a := ⟨f, p, m⟩) (b := ⟨f, p, m⟩) (dp_kin (SqT.ext (SqT.of upd_same) eP2) (rfa.mono (Ext.imm eR)) (rfb.mono (Ext.imm eR)) (rfc.mono (Ext.imm eR))) (dp_kin (SqT.of upd_same) tf4 tp4 tm4) fun c1 hc1 => ⟨_, rfl, iteN (notB (hc1.mpr rfl)) ?_⟩
        refine ⟨_, rfl, _, rfl, _, rfl, _, rfl, fv, pv, mv, ⟨f, p, m⟩, rfl, tf4, tp4, tm4, fun H26 v26 e26 r26 => ?_⟩
        obtain ⟨y5, rfl, hy5⟩ := r26
        have kq5 := kq4.ext e26
        refine eq_kins ND.i (st2 kq5).2.1 hy5 fun c hc => ⟨_, rfl, iteN (notB (hc.mpr hkin)) ?_⟩
        obtain ⟨_, _, tf5, tp5, tm5⟩ := st2 kq5
        exact ⟨_, rfl, _, rfl, _, rfl, fv, pv, mv, ⟨f, p, m⟩, rfl, tf5, tp5, tm5, zf.up (by decide) (by decide), zp.up (by decide) (by decide), zm.up (by decide) (by decide), fun H27 e27 => ⟨true, rfl, iteF ⟨rfl, kq5.ext e27⟩⟩⟩
      | false =>
        rw [hs, if_neg (by decide)] at hkin
        rw [hkin] at rfa rfb rfc
        refine iteF ⟨_, rfl, z, D, dz, _, _, rfl, hi, TK.cl, TK.f, la, _, rfl, ned shpRat (by decide) (dp_rat rfa) (dp_rat tf) fun c1 hc1 => ⟨_, rfl, iteN (notB (hc1.mpr rfl)) ?_⟩⟩
        refine ⟨_, rfl, z, D, dz, _, _, rfl, hi, TK.cl, TK.p, lb, by show 2 ≤ sizeLine; decide, fun p1 hp1 => ?_⟩
        have eP := ext_new (o := .tup [V.int 1, V.int 1]) hp1
        refine ned shpRat (by decide) (dp_rat (rfb.mono (Ext.imm eP))) (dp_rat (rt_one upd_same)) fun c2 hc2 => ⟨_, rfl, iteN (notB (hc2.mpr rfl)) ?_⟩
        have kq4 := kq3.ext eP
        refine ⟨_, rfl, z, D, dz, _, _, rfl, eP _ _ hi, TK.cl, TK.m, lc, ?_⟩
        refine ⟨fun v H' => Ext (upd H25 p1 (.tup [V.int 1, V.int 1])) H' ∧ Rt K H' v (v0 S - v0 R), ?_, fun v H26 h26 => ?_⟩
        · refine ⟨_, rfl, R.wall, rfl, ?_⟩
          cases hw : R.wall with
          | true =>
            have e0 : v0 S - v0 R = 0 := by
              unfold v0
              rw [hwS, hw, if_pos rfl, if_pos rfl]
              exact sub_zero' 0
            exact iteT ⟨by show 2 ≤ sizeLine; decide, fun p hp => ⟨ext_new hp, by rw [e0]; exact rt_zero upd_same⟩⟩
          | false =>
            obtain ⟨dor, ow, os, ofs, hoo, fo, _, os', tos, ros⟩ := id (st2 kq4).1
            obtain ⟨dxr, xw, xs', xfs, hxx, fxr, _, xs'', txs, rxs⟩ := id (st (kp22.trans kq4)).2.2.2.1
            have l1 := Paired.len ros
            have l2 := Paired.len rxs
            have l3 := gS.len
            have l4 := gS.n1
            obtain ⟨o0, ho0⟩ := get_lt (show 0 < os'.length by omega)
            obtain ⟨qo, hqo, rqo⟩ := paired_at ros ho0
            obtain ⟨x0, hx0⟩ := get_lt (show 0 < xs''.length by omega)
            obtain ⟨qx, hqx, rqx⟩ := paired_at rxs hx0
            refine iteF ⟨_, rfl, o, C, dor, _, _, rfl, hoo, T.cl, T.s, fo.s, os, _, _, _, rfl, rfl, tos, atI_nat (j := 0) ho0, _, rfl, x, C, dxr, _, _, rfl, hxx, T.cl, T.s, fxr.s, xs', _, _, _, rfl, rfl, txs, atI_nat (j := 0) hx0, ?_⟩
            refine ⟨o0, x0, qo, qx, rfl, ⟨rqo, rqx, 69, 29, 42, 3, zS qo (List.mem_of_getElem? hqo), zq qx (List.mem_of_getElem? hqx), by decide, by decide⟩, fun H26 v26 e26 r26 => ⟨e26, ?_⟩⟩
            rw [v0_head (hwS.trans hw) hqo, v0_head hw hqx]
            exact r26
        · obtain ⟨e26, r26⟩ := h26
          exact ned shpRat (by decide) (dp_rat (rfc.mono (Ext.imm (Ext.trans eP e26)))) (dp_rat r26) fun c3 hc3 => ⟨_, rfl, iteN (notB (hc3.mpr rfl)) ⟨rfl, kq4.ext e26⟩⟩
    rintro σ' H25 ⟨rfl, kq3⟩
    -- leading along and back
    refine ⟨_, rfl, _, rfl, z, x, kinOf R S, R, rfl, (st2 kq3).2.1, (st (kp22.trans kq3)).2.2.2.1, g, lF, fun S' hS' => ?_, fun i hi => absurd (kF.symm.trans hi) (fun z => by cases z), fun hw => absurd (kF.symm.trans hw) (fun z => by cases z)⟩
    have eS' : S' = S := (Out.row.inj (kF.symm.trans hS')).symm
    subst eS'
    intro H26 v26 e26 r26
    obtain ⟨y6, rfl, hy6⟩ := r26
    have kq4 := kq3.ext e26
    refine ⟨_, rfl, eq_rows NC hy6 (st2 kq4).1 fun c hc => ⟨_, rfl, iteN (notB (hc.mpr rfl)) ?_⟩⟩
    refine ⟨_, rfl, _, rfl, o, x, S', R, rfl, (st2 kq4).1, (st (kp22.trans kq4)).2.2.2.1, fS, fR, fun hne => absurd hl.symm hne, fun _ => ?_⟩
    intro H27 v27 e27 r27
    obtain ⟨z7, rfl, hz7⟩ := r27
    have kq5 := kq4.ext e27
    refine ⟨_, rfl, z7, o, kinOf S' R, S', rfl, hz7, (st2 kq5).1, gS, lB, fun T' hT' => ?_, fun i hi => absurd (kB.symm.trans hi) (fun z => by cases z), fun hw => absurd (kB.symm.trans hw) (fun z => by cases z)⟩
    have eT' : T' = R := (Out.row.inj (kB.symm.trans hT')).symm
    rw [eT']
    intro H28 v28 e28 r28
    obtain ⟨y8, rfl, hy8⟩ := r28
    have kq6 := kq5.ext e28
    refine ⟨_, rfl, eq_rows NC hy8 (st (kp22.trans kq6)).2.2.2.1 fun c hc => ⟨_, rfl, iteN (notB (hc.mpr rfl)) ?_⟩⟩
    -- the row's kin to itself
    have s6 := st (kp22.trans kq6)
    refine ⟨_, rfl, _, rfl, x, x, R, R, rfl, s6.2.2.2.1, s6.2.2.2.1, fR, fR, fun hne => absurd rfl hne, fun _ => ?_⟩
    intro H29 v29 e29 r29
    obtain ⟨z9, rfl, hz9⟩ := r29
    have kq7 := kq6.ext e29
    refine ⟨by show 2 ≤ sizeLine; decide, fun p1 hp1 => ⟨by show 2 ≤ sizeLine; decide, fun p2 hp2 => ⟨by show 2 ≤ sizeLine; decide, fun p3 hp3 => ?_⟩⟩⟩
    have g1 := ext_new (o := .tup [V.int 1, V.int 1]) hp1
    have g2 := ext_new (o := .tup [V.int 1, V.int 1]) hp2
    have g3 := ext_new (o := .tup [V.int 0, V.int 1]) hp3
    refine ⟨.ref p1, .ref p2, .ref p3, ⟨1, 1, 0⟩, rfl, (rt_one upd_same).mono (Ext.imm (Ext.trans g2 g3)), (rt_one upd_same).mono (Ext.imm g3), rt_zero upd_same, fun H30 v30 e30 r30 => ?_⟩
    obtain ⟨z10, rfl, hz10⟩ := r30
    have g4 := Ext.trans (Ext.trans (Ext.trans g1 g2) g3) e30
    have kq8 := kq7.ext g4
    refine eq_kins ND.i (hz9.mono (Ext.imm g4)) hz10 fun c hc => ⟨_, rfl, iteN (notB (hc.mpr (kin_self g))) ?_⟩
    -- by the pace alone
    refine ⟨by show 2 ≤ sizeLine; decide, fun p4 hp4 => ⟨_, rfl, by show 2 ≤ sizeLine; decide, fun p5 hp5 => ?_⟩⟩
    have g5 := ext_new (o := .tup [V.int 1, V.int 1]) hp4
    have g6 := ext_new (o := .tup [V.int 0, V.int 1]) hp5
    have kq9 := (kq8.ext g5).ext g6
    refine ⟨.ref p4, pv, .ref p5, ⟨1, p, 0⟩, rfl, (rt_one upd_same).mono (Ext.imm g6), (st2 kq9).2.2.2.1, rt_zero upd_same, fun H31 v31 e31 r31 => ?_⟩
    obtain ⟨z11, rfl, hz11⟩ := r31
    have kq10 := kq9.ext e31
    have one5 : Sz 5 5 1 := sz_one.up (by decide) (by decide)
    have zero31 : Sz 31 5 0 := sz0 (by decide) (by decide)
    have lP := lead_pace g p
    have zRp : Szs 6000 100 (R.vs.map (· * p)) := (leadSz_small one5 zp zero31 zq).vp.up (by decide) (by decide)
    refine ⟨_, rfl, z11, x, ⟨1, p, 0⟩, R, rfl, hz11, (st (kp22.trans kq10)).2.2.2.1, g, leadSz_small one5 zp zero31 zq, fun S2 hS2 => ?_, fun i hi => absurd (lP.symm.trans hi) (fun z => by cases z), fun hw => absurd (lP.symm.trans hw) (fun z => by cases z)⟩
    have eS2 := (Out.row.inj (lP.symm.trans hS2)).symm
    rw [eS2]
    intro H32 v32 e32 r32
    obtain ⟨y12, rfl, hy12⟩ := r32
    have kq11 := kq10.ext e32
    obtain ⟨dxq, xwq, xsq, xfq, hxq, fxq, _⟩ := id (st (kp22.trans kq11)).2.2.2.1
    refine ⟨_, rfl, x, dxq, xfq, rfl, hxq, fxq.mq, _, rfl, x, pv, R, p, rfl, (st (kp22.trans kq11)).2.2.2.1, g, (st2 kq11).2.2.2.1, zp.up (by decide) (by decide), fR.sz, zRp, fun H33 v33 e33 r33 => ?_⟩
    obtain ⟨y13, rfl, hy13⟩ := r33
    have kq12 := kq11.ext e33
    refine eq_rows NC (hy12.mono (Ext.imm e33)) hy13 fun c hc => ⟨_, rfl, iteN (notB (hc.mpr rfl)) ?_⟩
    -- strangers
    refine ⟨_, rfl, _, rfl, _, rfl, _, rfl, _, rfl, _, rfl, h, L, (mn : Int), rfl, kq12.a, by omega, by show ((mn : Int)).natAbs < 1152921504606846976; omega, fun H34 r34 b34 a34 r340 r341 => ?_⟩
    obtain ⟨j, rfl⟩ : ∃ j : Nat, r34 = (j : Int) := ⟨r34.toNat, by omega⟩
    have kq13 := kq12.draw b34 a34
    have s13 := st (kp22.trans kq13)
    refine ⟨_, rfl, x, W, M, xs, R, j, .ref lp, rfl, s13.2.2.2.1, s13.1, s13.2.1, s13.2.2.1, g, zq, by omega, s13.2.2.2.2.2, fun H35 e35 => ⟨true, rfl, iteF ?_⟩⟩
    have kq14 := kq13.ext e35
    -- too heavy
    refine ⟨by show 2 ≤ sizeLine; decide, fun p6 hp6 => ⟨_, rfl, by show 2 ≤ sizeLine; decide, fun p7 hp7 => ?_⟩⟩
    have g7 := ext_new (o := .tup [V.int 10, V.int 1]) hp6
    have g8 := ext_new (o := .tup [V.int 0, V.int 1]) hp7
    have kq15 := (kq14.ext g7).ext g8
    refine ⟨.ref p6, pv, .ref p7, ⟨10, p, 0⟩, rfl, (rt_ten upd_same).mono (Ext.imm g8), (st2 kq15).2.2.2.1, rt_zero upd_same, fun H36 v36 e36 r36 => ?_⟩
    obtain ⟨z14, rfl, hz14⟩ := r36
    have kq16 := kq15.ext e36
    have lH := fun m => lead_heavy g p m
    refine ⟨_, rfl, _, rfl, z14, x, ⟨10, p, 0⟩, R, rfl, hz14, (st (kp22.trans kq16)).2.2.2.1, g, leadSz_small sz_ten zp zero31 zq, fun S3 hS3 => absurd ((lH 0).symm.trans hS3) (fun z => by cases z), fun i hi => ?_, fun hw => absurd ((lH 0).symm.trans hw) (fun z => by cases z)⟩
    obtain rfl : i = 0 := (Out.weight.inj ((lH 0).symm.trans hi)).symm
    intro H37 v37 e37 r37
    refine ⟨by show 3 ≤ sizeLine; decide, fun l1 hl1 => ?_⟩
    have g9 := ext_new (o := .lst [V.str "weight", V.int 0, V.str "weight"]) hl1
    have kq17 := (kq16.ext e37).ext g9
    refine ⟨dWeight 0, dWeight 0, dpW_ext r37 g9, .lst (SqL.of upd_same) (.cons (.str _) (.cons (.int _) (.cons (.str _) .nil))), dW_sh, dW_sh, _, rfl, iteN (notB dW_eq) ?_⟩
    -- the end
    refine ⟨_, rfl, R.wall, rfl, ?_⟩
    cases hw : R.wall with
    | true =>
      have lW := lead_wall g p half_ne hw
      refine iteT ⟨by show 2 ≤ sizeLine; decide, fun p8 hp8 => ⟨_, rfl, by show 2 ≤ sizeLine; decide, fun p9 hp9 => ?_⟩⟩
      have kq18 := (kq17.ext (ext_new (o := .tup [V.int 1, V.int 1]) hp8)).ext (ext_new (o := .tup [V.int 1, V.int 2]) hp9)
      refine ⟨.ref p8, pv, .ref p9, ⟨1, p, mkRat 1 2⟩, rfl, (rt_one upd_same).mono (Ext.imm (ext_new (o := .tup [V.int 1, V.int 2]) hp9)), (st2 kq18).2.2.2.1, rt_half upd_same, fun H38 v38 e38 r38 => ?_⟩
      obtain ⟨z15, rfl, hz15⟩ := r38
      have kq19 := kq18.ext e38
      refine ⟨_, rfl, z15, x, ⟨1, p, mkRat 1 2⟩, R, rfl, hz15, (st (kp22.trans kq19)).2.2.2.1, g, leadSz_small one5 zp sz_half zq, fun S3 hS3 => absurd (lW.symm.trans hS3) (fun z => by cases z), fun i hi => absurd (lW.symm.trans hi) (fun z => by cases z), fun _ => ?_⟩
      intro H39 v39 e39 r39
      refine ⟨by show 1 ≤ sizeLine; decide, fun l2 hl2 => ?_⟩
      have g10 := ext_new (o := .lst [V.str "wall"]) hl2
      have kq20 := (kq19.ext e39).ext g10
      refine ⟨dWall, dWall, dpL_ext r39 g10, .lst (SqL.of upd_same) (.cons (.str _) .nil), dL_sh, dL_sh, _, rfl, iteB dL_eq ?_⟩
      refine ⟨by show 2 ≤ sizeLine; decide, fun p8 hp8 => ⟨_, rfl, by show 2 ≤ sizeLine; decide, fun p9 hp9 => ?_⟩⟩
      have kq21 := (kq20.ext (ext_new (o := .tup [V.int 10, V.int 1]) hp8)).ext (ext_new (o := .tup [V.int 1, V.int 2]) hp9)
      refine ⟨.ref p8, pv, .ref p9, ⟨10, p, mkRat 1 2⟩, rfl, (rt_ten upd_same).mono (Ext.imm (ext_new (o := .tup [V.int 1, V.int 2]) hp9)), (st2 kq21).2.2.2.1, rt_half upd_same, fun H40 v40 e40 r40 => ?_⟩
      obtain ⟨z16, rfl, hz16⟩ := r40
      have kq22 := kq21.ext e40
      refine ⟨_, rfl, z16, x, ⟨10, p, mkRat 1 2⟩, R, rfl, hz16, (st (kp22.trans kq22)).2.2.2.1, g, leadSz_small sz_ten zp sz_half zq, fun S3 hS3 => absurd ((lH _).symm.trans hS3) (fun z => by cases z), fun i hi => ?_, fun hw => absurd ((lH _).symm.trans hw) (fun z => by cases z)⟩
      obtain rfl : i = 0 := (Out.weight.inj ((lH _).symm.trans hi)).symm
      intro H41 v41 e41 r41
      refine ⟨by show 3 ≤ sizeLine; decide, fun l3 hl3 => ?_⟩
      have g11 := ext_new (o := .lst [V.str "weight", V.int 0, V.str "weight"]) hl3
      refine ⟨dWeight 0, dWeight 0, dpW_ext r41 g11, .lst (SqL.of upd_same) (.cons (.str _) (.cons (.int _) (.cons (.str _) .nil))), dW_sh, dW_sh, ?_⟩
      rw [dW_eq]
      exact k _
    | false =>
      have lM := lead_more g m hw
      refine iteF ⟨by show 2 ≤ sizeLine; decide, fun p8 hp8 => ⟨by show 2 ≤ sizeLine; decide, fun p9 hp9 => ?_⟩⟩
      have kq18 := (kq17.ext (ext_new (o := .tup [V.int 1, V.int 1]) hp8)).ext (ext_new (o := .tup [V.int 1, V.int 1]) hp9)
      have one21 : Sz 21 21 1 := sz_one.up (by decide) (by decide)
      refine ⟨_, rfl, .ref p8, .ref p9, mv, ⟨1, 1, m⟩, rfl, (rt_one upd_same).mono (Ext.imm (ext_new (o := .tup [V.int 1, V.int 1]) hp9)), rt_one upd_same, (st2 kq18).2.2.2.2, fun H38 v38 e38 r38 => ?_⟩
      obtain ⟨z15, rfl, hz15⟩ := r38
      have kq19 := kq18.ext e38
      have lz := leadSz_small one5 one21 zm zq
      refine ⟨_, rfl, z15, x, ⟨1, 1, m⟩, R, rfl, hz15, (st (kp22.trans kq19)).2.2.2.1, g, lz, fun S3 hS3 => ?_, fun i hi => absurd (lM.symm.trans hi) (fun z => by cases z), fun hw => absurd (lM.symm.trans hw) (fun z => by cases z)⟩
      have eS3 := (Out.row.inj (lM.symm.trans hS3)).symm
      rw [eS3]
      intro H39 v39 e39 r39
      obtain ⟨y17, rfl, hy17⟩ := r39
      have kq20 := kq19.ext e39
      obtain ⟨dxq, xwq, xsq, xfq, hxq, fxq, _⟩ := id (st (kp22.trans kq20)).2.2.2.1
      have zRm : Szs 6000 100 (R.vs.map (· + m)) := by
        have h := lz.vm
        rw [map_mul_one] at h
        exact h
      refine ⟨_, rfl, x, dxq, xfq, rfl, hxq, fxq.mu, _, rfl, x, mv, R, m, rfl, (st (kp22.trans kq20)).2.2.2.1, .inr ⟨hw, g, (st2 kq20).2.2.2.2, zm.up (by decide) (by decide), zq.up (by decide) (by decide), zRm, fun H40 v40 e40 r40 => ?_⟩⟩
      obtain ⟨y18, rfl, hy18⟩ := r40
      exact eq_rows NC (hy17.mono (Ext.imm e40)) hy18 fun c hc => by
        rw [hc.mpr rfl]
        exact k _
end
end K06


set_option Elab.async false
set_option linter.all false
set_option maxRecDepth 100000
set_option maxHeartbeats 0
/-! D19: the head, the facts, the end. -/
namespace K06
open PySem PySem.Spec PyProof.Rows L2
/-! ### facts beside He.Fa -/
def insB (K : PySem.W.Frag) (C : Addr) : Bool := decide (PySem.W.findIn K (.ref C) "__class__" = some (some (.builtin "object.__class__"))) && (decide (PySem.W.specialIn K (.builtin "object.__class__") "__get__" = some (some (.builtin "getset_descriptor.__get__"))) &&
  (decide (PySem.W.takesIn K (.builtin "object.__class__") = some true) && (decide (PySem.W.mroIn K C (.type "object") = some true) && decide (PySem.W.kitOne K (.ref C) (.ref C) = some true))))
theorem insB_ok {K : PySem.W.Frag} {C : Addr} (c : Cls K C) (h : insB K C = true) : InsC K C := by
  obtain ⟨h1, h⟩ := Bool.and_eq_true_iff.mp h
  obtain ⟨h2, h⟩ := Bool.and_eq_true_iff.mp h
  obtain ⟨h3, h⟩ := Bool.and_eq_true_iff.mp h
  obtain ⟨h4, h5⟩ := Bool.and_eq_true_iff.mp h
  exact ⟨c, of_decide_eq_true h1, of_decide_eq_true h2, of_decide_eq_true h3, of_decide_eq_true h4, of_decide_eq_true h5⟩
def oexB (K : PySem.W.Frag) (C : Addr) : Bool := match K.lookup C with
  | some ⟨.type "type", _, .cls cd, sl⟩ => (match cd.mro, sl.toList with
    | .ref C' :: bm, [_, _, _, _, some (.builtin n), _] => C' == C && (n == "ValueError.__new__" && (!cd.hasDel && (cd.hasDict && PySem.HandSPX.refsVE bm)))
    | _, _ => false)
  | _ => false
theorem oexB_ok {K : PySem.W.Frag} {C : Addr} (q : oexB K C = true) : ∃ nm q N bs bm sn sub ab col dd k0 k1 k2 k3 k5, K.lookup C = some (excClassObj nm q C N bs bm true sn sub ab col dd k0 k1 k2 k3 k5 "ValueError.__new__") ∧ PySem.HandSPX.refsVE bm = true := by
  unfold oexB at q
  split at q
  · rename_i dd cd sl ho
    split at q
    · rename_i C' bm k0 k1 k2 k3 n k5 hm hs
      simp only [Bool.and_eq_true, beq_iff_eq, Bool.not_eq_true'] at q
      obtain ⟨rfl, rfl, hdel, hdict, ht⟩ := q
      obtain ⟨nm, bs, mro, ns, qn, hd, sn, sub, ab, col, del⟩ := cd
      dsimp only at hm hdel hdict
      subst hm hdel hdict
      have hsl : sl = #[k0, k1, k2, k3, some (.builtin "ValueError.__new__"), k5] := by
        obtain ⟨l⟩ := sl
        simp only at hs
        rw [hs]
      subst hsl
      exact ⟨nm, qn, ns, bs, bm, sn, sub, ab, col, dd, k0, k1, k2, k3, k5, ho, ht⟩
    · cases q
  · cases q
def xs (K : PySem.W.Frag) : List Bool := [He.eqO (PySem.W.nsIn K mainGlobals "gcd") (some (some (.builtin "math.gcd"))), He.eqO (PySem.W.nsIn K mainGlobals "lcm") (some (some (.builtin "math.lcm"))),
  insB K (He.ga K "Row"), insB K (He.ga K "Kin"), PySem.W.notFirst K (He.ga K "Kin") (.type "tuple"), PySem.W.notFirst K (He.ga K "Kin") (.type "int"),
  decide (PySem.W.kitOne K (.type "tuple") (.ref (He.ga K "Kin")) = some false), decide (PySem.W.kitOne K (.type "int") (.ref (He.ga K "Kin")) = some false),
  oexB K (He.ga K "BadRow"), He.eqO (PySem.W.findIn K (.ref (He.ga K "BadRow")) "__setattr__") (some (some (.builtin "object.__setattr__"))),
  decide (PySem.W.subIn K (.ref (He.ga K "BadRow")) (.type "BaseException") = some true), decide (PySem.W.typeIn K (.ref (He.ga K "BadRow")) = some (.type "type")), PySem.W.keepIn K (.ref (He.ga K "BadRow")),
  He.eqO (PySem.W.findIn K (.ref (He.ga K "BadRow")) "index") (some none), He.eqO (PySem.W.findIn K (.ref (He.ga K "BadRow")) "what") (some none),
  He.eqO (PySem.W.findIn K (.ref (He.ga K "BadRow")) "__init__") (some (some (.ref (He.ma K (He.ga K "BadRow") "__init__")))), decide (PySem.W.typeIn K (.ref (He.ma K (He.ga K "BadRow") "__init__")) = some (.type "function")),
  xfB K (He.ga K "BadRow")]
def xB (K : PySem.W.Frag) : Bool := (xs K).all id
theorem xs_at {K : PySem.W.Frag} (h : xB K = true) (i : Nat) {b : Bool} (e : (xs K)[i]? = some b) : b = true := List.all_eq_true.mp h b (List.mem_of_getElem? e)
/-! ### the Hook -/
abbrev AlX : Type := He.AlD × Bool
def obsX (n : Nat) (fa : List He.Fa) (fn : List He.DefD) (g : Addr → Option Obj) : AlX := let K := He.frG g (He.asD g n); (He.obsD fa fn K, xB K)
def hookX (n : Nat) (fa : List He.Fa) (fn : List He.DefD) : PySem.W.Hook where
  α := AlX
  obs := fun s => obsX n fa fn s.heap.get?
  val := fun _ => (He.valD fn, true)
  says := fun _ h => ∃ K : PySem.W.Frag, K.In h ∧ He.SaysD fa fn K ∧ xB K = true
  of := fun _ _ e => ⟨_, He.frG_in, congrArg Prod.fst e, congrArg Prod.snd e⟩
  keeps := fun _ _ _ ⟨K, hK, c⟩ k => ⟨K, PySem.W.Frag.In.keeps hK k, c⟩
theorem obsX_eq {n : Nat} {fa : List He.Fa} {fn : List He.DefD} {g : Addr → Option Obj} {s : Shared} (h : ∀ a, g a = s.heap.get? a) : obsX n fa fn g = (hookX n fa fn).obs s := by
  have e : g = s.heap.get? := funext h
  rw [e] <;> rfl
def fa : List He.Fa := [.glo "is_whole", .glo "is_ratio", .glo "ratio_of", .glo "lowest_terms", .glo "plus", .glo "minus", .glo "times", .glo "over", .glo "compare", .glo "lowest_row", .glo "check_balls", .glo "least_row", .glo "are_kin", .glo "pace_between", .glo "kin_of", .glo "lead_along", .glo "_law_mix", .glo "_law_hand", .glo "_law_draw", .glo "_law_low", .glo "_law_add", .glo "_law_sub", .glo "_law_mul", .glo "_law_common", .glo "_law_least", .glo "_law_speeds", .glo "_law_lead", .glo "_law_settled", .glo "_law_strangers", .glo "_law_equal", .glo "law", .glo "Row", .glo "Kin", .glo "BadRow", .glo "NoHurry", .free "isinstance", .free "int", .free "bool", .free "tuple", .free "list", .free "len", .free "zip", .free "range", .free "enumerate", .free "max", .free "min", .free "abs", .int "MOST_BALLS" 40, .int "MOST_WEIGHT" 9, .cls "Row", .cls "Kin", .noat "Row" "weights", .noat "Row" "speeds", .noat "Row" "wall", .noat "Row" "pairs", .noat "Row" "gap_count", .noat "Row" "is_like", .noat "Row" "first_sum", .noat "Row" "second_sum", .noat "Kin" "factor", .noat "Kin" "pace", .noat "Kin" "more", .meth "Row" "heavier", .meth "Row" "quicker", .meth "Row" "hurried", .meth "Row" "__eq__", .meth "Kin" "__eq__", .mkr "Row", .mkr "Kin", .exc "NoHurry", .exm "BadRow" "BadRow" true, .exm "NoHurry" "BadRow" false, .exm "NoHurry" "NoHurry" true]
def fn : List He.DefD := [⟨("is_whole", none), "is_whole", "is_whole", defArgs (top 8), defBody (top 8), defScope (top 8), [], []⟩,
  ⟨("is_ratio", none), "is_ratio", "is_ratio", defArgs (top 9), defBody (top 9), defScope (top 9), [], []⟩,
  ⟨("ratio_of", none), "ratio_of", "ratio_of", defArgs (top 10), defBody (top 10), defScope (top 10), [], []⟩,
  ⟨("lowest_terms", none), "lowest_terms", "lowest_terms", defArgs (top 11), defBody (top 11), defScope (top 11), [], []⟩,
  ⟨("plus", none), "plus", "plus", defArgs (top 12), defBody (top 12), defScope (top 12), [], []⟩,
  ⟨("minus", none), "minus", "minus", defArgs (top 13), defBody (top 13), defScope (top 13), [], []⟩,
  ⟨("times", none), "times", "times", defArgs (top 14), defBody (top 14), defScope (top 14), [], []⟩,
  ⟨("over", none), "over", "over", defArgs (top 15), defBody (top 15), defScope (top 15), [], []⟩,
  ⟨("compare", none), "compare", "compare", defArgs (top 16), defBody (top 16), defScope (top 16), [], []⟩,
  ⟨("lowest_row", none), "lowest_row", "lowest_row", defArgs (top 17), defBody (top 17), defScope (top 17), [], []⟩,
  ⟨("check_balls", none), "check_balls", "check_balls", defArgs (top 21), defBody (top 21), defScope (top 21), [], []⟩,
  ⟨("least_row", none), "least_row", "least_row", defArgs (top 25), defBody (top 25), defScope (top 25), [], []⟩,
  ⟨("are_kin", none), "are_kin", "are_kin", defArgs (top 26), defBody (top 26), defScope (top 26), [], []⟩,
  ⟨("pace_between", none), "pace_between", "pace_between", defArgs (top 27), defBody (top 27), defScope (top 27), [], []⟩,
  ⟨("kin_of", none), "kin_of", "kin_of", defArgs (top 28), defBody (top 28), defScope (top 28), [], []⟩,
  ⟨("lead_along", none), "lead_along", "lead_along", defArgs (top 29), defBody (top 29), defScope (top 29), [], []⟩,
  ⟨("_law_mix", none), "_law_mix", "_law_mix", defArgs (top 31), defBody (top 31), defScope (top 31), [], []⟩,
  ⟨("_law_hand", none), "_law_hand", "_law_hand", defArgs (top 32), defBody (top 32), defScope (top 32), [], []⟩,
  ⟨("_law_draw", none), "_law_draw", "_law_draw", defArgs (top 33), defBody (top 33), defScope (top 33), [], []⟩,
  ⟨("_law_low", none), "_law_low", "_law_low", defArgs (top 34), defBody (top 34), defScope (top 34), [], []⟩,
  ⟨("_law_add", none), "_law_add", "_law_add", defArgs (top 35), defBody (top 35), defScope (top 35), [], []⟩,
  ⟨("_law_sub", none), "_law_sub", "_law_sub", defArgs (top 36), defBody (top 36), defScope (top 36), [], []⟩,
  ⟨("_law_mul", none), "_law_mul", "_law_mul", defArgs (top 37), defBody (top 37), defScope (top 37), [], []⟩,
  ⟨("_law_common", none), "_law_common", "_law_common", defArgs (top 39), defBody (top 39), defScope (top 39), [], []⟩,
  ⟨("_law_least", none), "_law_least", "_law_least", defArgs (top 40), defBody (top 40), defScope (top 40), [], []⟩,
  ⟨("_law_speeds", none), "_law_speeds", "_law_speeds", defArgs (top 41), defBody (top 41), defScope (top 41), [], []⟩,
  ⟨("_law_lead", none), "_law_lead", "_law_lead", defArgs (top 42), defBody (top 42), defScope (top 42), [], []⟩,
  ⟨("_law_settled", none), "_law_settled", "_law_settled", defArgs (top 43), defBody (top 43), defScope (top 43), [], []⟩,
  ⟨("_law_strangers", none), "_law_strangers", "_law_strangers", defArgs (top 44), defBody (top 44), defScope (top 44), [], []⟩,
  ⟨("_law_equal", none), "_law_equal", "_law_equal", defArgs (top 45), defBody (top 45), defScope (top 45), [], []⟩,
  ⟨("law", none), "law", "law", defArgs (top 46), defBody (top 46), defScope (top 46), [], []⟩,
  ⟨("Row", some "__init__"), "__init__", "Row.__init__", defArgs (inClass (top 22) 0), defBody (inClass (top 22) 0), defScope (inClass (top 22) 0), [.bl false], []⟩,
  ⟨("Row", some "__eq__"), "__eq__", "Row.__eq__", defArgs (inClass (top 22) 2), defBody (inClass (top 22) 2), defScope (inClass (top 22) 2), [], []⟩,
  ⟨("Row", some "hurried"), "hurried", "Row.hurried", defArgs (inClass (top 22) 6), defBody (inClass (top 22) 6), defScope (inClass (top 22) 6), [], []⟩,
  ⟨("Row", some "quicker"), "quicker", "Row.quicker", defArgs (inClass (top 22) 7), defBody (inClass (top 22) 7), defScope (inClass (top 22) 7), [], []⟩,
  ⟨("Row", some "heavier"), "heavier", "Row.heavier", defArgs (inClass (top 22) 8), defBody (inClass (top 22) 8), defScope (inClass (top 22) 8), [], []⟩,
  ⟨("Kin", some "__init__"), "__init__", "Kin.__init__", defArgs (inClass (top 24) 0), defBody (inClass (top 24) 0), defScope (inClass (top 24) 0), [], []⟩,
  ⟨("Kin", some "__eq__"), "__eq__", "Kin.__eq__", defArgs (inClass (top 24) 1), defBody (inClass (top 24) 1), defScope (inClass (top 24) 1), [], []⟩,
  ⟨("BadRow", some "__init__"), "__init__", "BadRow.__init__", defArgs (inClass (top 5) 0), defBody (inClass (top 5) 0), defScope (inClass (top 5) 0), [], []⟩]
def names1 : List Str := ["_wall", "GapError", "BadRatio", "BadRow", "NoHurry", "is_whole", "is_ratio", "ratio_of", "lowest_terms", "plus", "minus", "times", "over", "compare", "lowest_row", "MOST_BALLS", "MOST_WEIGHT", "check_balls", "Row", "Kin"]
def names2 : List Str := ["least_row", "are_kin", "pace_between", "kin_of", "lead_along", "_law_mix", "_law_hand", "_law_draw", "_law_low", "_law_add", "_law_sub", "_law_mul", "_law_div", "_law_common", "_law_least", "_law_speeds", "_law_lead", "_law_settled", "_law_strangers", "_law_equal"]
abbrev R : PySem.W.OpenRow := PySem.W.OpenLaw.row PySem.Challenge.rw_untoldgaps_k06_whole_rows_of_kin
abbrev hk : PySem.W.Hook := hookX 4 fa fn
def ob (s : PySem.W.SharedT) : AlX := obsX 4 fa fn (HandSHeadRun.getT s)
theorem ob_eq (s : PySem.W.SharedT) : ob s = hk.obs s.abs := obsX_eq (HandSHeadRun.getT_eq s)
theorem facts {P : Program} {w : World} {K : PySem.W.Frag} {h : Heap} {mg : Str → Option Value} {f : Addr} (X : K.In h) (G : h.Ns mainGlobals mg) (hfa : mg ("law" : Str) = some (.ref f)) (c : He.SaysD fa fn K) (cx : xB K = true) :
    ∃ fd : FuncData, (∀ (s : Shared) (v : Value), BindsTo s fd ⟨[v], []⟩ [("_law_script", v)]) ∧ ∀ base : Heap, K.In base → base.Ns mainGlobals mg → FnOk P w K mg base CX0 11 f fd ["_law_script"] (spLaw K) := by
  obtain ⟨dqis_whole, Fqis_whole⟩ := c.def_ 0 (d := fn[0]) rfl
  obtain ⟨dqis_ratio, Fqis_ratio⟩ := c.def_ 1 (d := fn[1]) rfl
  obtain ⟨dqratio_of, Fqratio_of⟩ := c.def_ 2 (d := fn[2]) rfl
  obtain ⟨dqlowest_terms, Fqlowest_terms⟩ := c.def_ 3 (d := fn[3]) rfl
  obtain ⟨dqplus, Fqplus⟩ := c.def_ 4 (d := fn[4]) rfl
  obtain ⟨dqminus, Fqminus⟩ := c.def_ 5 (d := fn[5]) rfl
  obtain ⟨dqtimes, Fqtimes⟩ := c.def_ 6 (d := fn[6]) rfl
  obtain ⟨dqover, Fqover⟩ := c.def_ 7 (d := fn[7]) rfl
  obtain ⟨dqcompare, Fqcompare⟩ := c.def_ 8 (d := fn[8]) rfl
  obtain ⟨dqlowest_row, Fqlowest_row⟩ := c.def_ 9 (d := fn[9]) rfl
  obtain ⟨dqcheck_balls, Fqcheck_balls⟩ := c.def_ 10 (d := fn[10]) rfl
  obtain ⟨dqleast_row, Fqleast_row⟩ := c.def_ 11 (d := fn[11]) rfl
  obtain ⟨dqare_kin, Fqare_kin⟩ := c.def_ 12 (d := fn[12]) rfl
  obtain ⟨dqpace_between, Fqpace_between⟩ := c.def_ 13 (d := fn[13]) rfl
  obtain ⟨dqkin_of, Fqkin_of⟩ := c.def_ 14 (d := fn[14]) rfl
  obtain ⟨dqlead_along, Fqlead_along⟩ := c.def_ 15 (d := fn[15]) rfl
  obtain ⟨dq_law_mix, Fq_law_mix⟩ := c.def_ 16 (d := fn[16]) rfl
  obtain ⟨dq_law_hand, Fq_law_hand⟩ := c.def_ 17 (d := fn[17]) rfl
  obtain ⟨dq_law_draw, Fq_law_draw⟩ := c.def_ 18 (d := fn[18]) rfl
  obtain ⟨dq_law_low, Fq_law_low⟩ := c.def_ 19 (d := fn[19]) rfl
  obtain ⟨dq_law_add, Fq_law_add⟩ := c.def_ 20 (d := fn[20]) rfl
  obtain ⟨dq_law_sub, Fq_law_sub⟩ := c.def_ 21 (d := fn[21]) rfl
  obtain ⟨dq_law_mul, Fq_law_mul⟩ := c.def_ 22 (d := fn[22]) rfl
  obtain ⟨dq_law_common, Fq_law_common⟩ := c.def_ 23 (d := fn[23]) rfl
  obtain ⟨dq_law_least, Fq_law_least⟩ := c.def_ 24 (d := fn[24]) rfl
  obtain ⟨dq_law_speeds, Fq_law_speeds⟩ := c.def_ 25 (d := fn[25]) rfl
  obtain ⟨dq_law_lead, Fq_law_lead⟩ := c.def_ 26 (d := fn[26]) rfl
  obtain ⟨dq_law_settled, Fq_law_settled⟩ := c.def_ 27 (d := fn[27]) rfl
  obtain ⟨dq_law_strangers, Fq_law_strangers⟩ := c.def_ 28 (d := fn[28]) rfl
  obtain ⟨dq_law_equal, Fq_law_equal⟩ := c.def_ 29 (d := fn[29]) rfl
  obtain ⟨dqlaw, Fqlaw⟩ := c.def_ 30 (d := fn[30]) rfl
  obtain ⟨dmRow__init__, FmRow__init__⟩ := c.def_ 31 (d := fn[31]) rfl
  obtain ⟨dmRow__eq__, FmRow__eq__⟩ := c.def_ 32 (d := fn[32]) rfl
  obtain ⟨dmRowhurried, FmRowhurried⟩ := c.def_ 33 (d := fn[33]) rfl
  obtain ⟨dmRowquicker, FmRowquicker⟩ := c.def_ 34 (d := fn[34]) rfl
  obtain ⟨dmRowheavier, FmRowheavier⟩ := c.def_ 35 (d := fn[35]) rfl
  obtain ⟨dmKin__init__, FmKin__init__⟩ := c.def_ 36 (d := fn[36]) rfl
  obtain ⟨dmKin__eq__, FmKin__eq__⟩ := c.def_ 37 (d := fn[37]) rfl
  obtain ⟨dmBadRow__init__, FmBadRow__init__⟩ := c.def_ 38 (d := fn[38]) rfl
  have bqis_whole : Binds K dqis_whole ["thing"] [] := Fqis_whole.bindsN fun _ _ _ _ _ _ us hl => match us, hl with | [_], _ => rfl
  have bqis_ratio : Binds K dqis_ratio ["thing"] [] := Fqis_ratio.bindsN fun _ _ _ _ _ _ us hl => match us, hl with | [_], _ => rfl
  have bqratio_of : Binds K dqratio_of ["thing"] [] := Fqratio_of.bindsN fun _ _ _ _ _ _ us hl => match us, hl with | [_], _ => rfl
  have bqlowest_terms : Binds K dqlowest_terms ["top", "bottom"] [] := Fqlowest_terms.bindsN fun _ _ _ _ _ _ us hl => match us, hl with | [_, _], _ => rfl
  have bqplus : Binds K dqplus ["one", "other"] [] := Fqplus.bindsN fun _ _ _ _ _ _ us hl => match us, hl with | [_, _], _ => rfl
  have bqminus : Binds K dqminus ["one", "other"] [] := Fqminus.bindsN fun _ _ _ _ _ _ us hl => match us, hl with | [_, _], _ => rfl
  have bqtimes : Binds K dqtimes ["one", "other"] [] := Fqtimes.bindsN fun _ _ _ _ _ _ us hl => match us, hl with | [_, _], _ => rfl
  have bqover : Binds K dqover ["one", "other"] [] := Fqover.bindsN fun _ _ _ _ _ _ us hl => match us, hl with | [_, _], _ => rfl
  have bqcompare : Binds K dqcompare ["one", "other"] [] := Fqcompare.bindsN fun _ _ _ _ _ _ us hl => match us, hl with | [_, _], _ => rfl
  have bqlowest_row : Binds K dqlowest_row ["numbers"] [] := Fqlowest_row.bindsN fun _ _ _ _ _ _ us hl => match us, hl with | [_], _ => rfl
  have bqcheck_balls : Binds K dqcheck_balls ["weights", "speeds", "wall"] [] := Fqcheck_balls.bindsN fun _ _ _ _ _ _ us hl => match us, hl with | [_, _, _], _ => rfl
  have bqleast_row : Binds K dqleast_row ["row"] [] := Fqleast_row.bindsN fun _ _ _ _ _ _ us hl => match us, hl with | [_], _ => rfl
  have bqare_kin : Binds K dqare_kin ["one", "other"] [] := Fqare_kin.bindsN fun _ _ _ _ _ _ us hl => match us, hl with | [_, _], _ => rfl
  have bqpace_between : Binds K dqpace_between ["one", "other"] [] := Fqpace_between.bindsN fun _ _ _ _ _ _ us hl => match us, hl with | [_, _], _ => rfl
  have bqkin_of : Binds K dqkin_of ["one", "other"] [] := Fqkin_of.bindsN fun _ _ _ _ _ _ us hl => match us, hl with | [_, _], _ => rfl
  have bqlead_along : Binds K dqlead_along ["kin", "row"] [] := Fqlead_along.bindsN fun _ _ _ _ _ _ us hl => match us, hl with | [_, _], _ => rfl
  have bq_law_mix : Binds K dq_law_mix ["_law_number", "_law_turn"] [] := Fq_law_mix.bindsN fun _ _ _ _ _ _ us hl => match us, hl with | [_, _], _ => rfl
  have bq_law_hand : Binds K dq_law_hand ["_law_script"] [] := Fq_law_hand.bindsN fun _ _ _ _ _ _ us hl => match us, hl with | [_], _ => rfl
  have bq_law_draw : Binds K dq_law_draw ["_law_hand_here", "_law_many"] [] := Fq_law_draw.bindsN fun _ _ _ _ _ _ us hl => match us, hl with | [_, _], _ => rfl
  have bq_law_low : Binds K dq_law_low ["_law_top", "_law_bottom"] [] := Fq_law_low.bindsN fun _ _ _ _ _ _ us hl => match us, hl with | [_, _], _ => rfl
  have bq_law_add : Binds K dq_law_add ["_law_a", "_law_b"] [] := Fq_law_add.bindsN fun _ _ _ _ _ _ us hl => match us, hl with | [_, _], _ => rfl
  have bq_law_sub : Binds K dq_law_sub ["_law_a", "_law_b"] [] := Fq_law_sub.bindsN fun _ _ _ _ _ _ us hl => match us, hl with | [_, _], _ => rfl
  have bq_law_mul : Binds K dq_law_mul ["_law_a", "_law_b"] [] := Fq_law_mul.bindsN fun _ _ _ _ _ _ us hl => match us, hl with | [_, _], _ => rfl
  have bq_law_common : Binds K dq_law_common ["_law_one", "_law_other"] [] := Fq_law_common.bindsN fun _ _ _ _ _ _ us hl => match us, hl with | [_, _], _ => rfl
  have bq_law_least : Binds K dq_law_least ["_law_weights", "_law_speeds_here", "_law_shut"] [] := Fq_law_least.bindsN fun _ _ _ _ _ _ us hl => match us, hl with | [_, _, _], _ => rfl
  have bq_law_speeds : Binds K dq_law_speeds ["_law_hand_here", "_law_many"] [] := Fq_law_speeds.bindsN fun _ _ _ _ _ _ us hl => match us, hl with | [_, _], _ => rfl
  have bq_law_lead : Binds K dq_law_lead ["_law_kin", "_law_row"] [] := Fq_law_lead.bindsN fun _ _ _ _ _ _ us hl => match us, hl with | [_, _], _ => rfl
  have bq_law_settled : Binds K dq_law_settled ["_law_speeds_here", "_law_shut"] [] := Fq_law_settled.bindsN fun _ _ _ _ _ _ us hl => match us, hl with | [_, _], _ => rfl
  have bq_law_strangers : Binds K dq_law_strangers ["_law_row", "_law_weights", "_law_speeds_here", "_law_shut", "_law_at", "_law_least_here"] [] := Fq_law_strangers.bindsN fun _ _ _ _ _ _ us hl => match us, hl with | [_, _, _, _, _, _], _ => rfl
  have bq_law_equal : Binds K dq_law_equal ["_law_factor", "_law_pace", "_law_more"] [] := Fq_law_equal.bindsN fun _ _ _ _ _ _ us hl => match us, hl with | [_, _, _], _ => rfl
  have bmRow__init__ : Binds K dmRow__init__ ["self", "weights", "speeds", "wall"] [] := by
    obtain ⟨ds, rd, b⟩ := FunD.binds1 (ps := ["self", "weights", "speeds", "wall"]) FmRow__init__ 4 1 (fun z => by cases z) rfl fun T kV doc pm an cdv ct us its h1 h2 => match us, h1, its, h2 with
      | [_, _, _, _], _, [_], _ => ⟨_, rfl, rfl⟩
    cases rd
    exact b
  have bmRow__eq__ : Binds K dmRow__eq__ ["self", "other"] [] := FmRow__eq__.bindsN fun _ _ _ _ _ _ us hl => match us, hl with | [_, _], _ => rfl
  have bmRowhurried : Binds K dmRowhurried ["self", "more"] [] := FmRowhurried.bindsN fun _ _ _ _ _ _ us hl => match us, hl with | [_, _], _ => rfl
  have bmRowquicker : Binds K dmRowquicker ["self", "factor"] [] := FmRowquicker.bindsN fun _ _ _ _ _ _ us hl => match us, hl with | [_, _], _ => rfl
  have bmRowheavier : Binds K dmRowheavier ["self", "factor"] [] := FmRowheavier.bindsN fun _ _ _ _ _ _ us hl => match us, hl with | [_, _], _ => rfl
  have bmKin__init__ : Binds K dmKin__init__ ["self", "factor", "pace", "more"] [] := FmKin__init__.bindsN fun _ _ _ _ _ _ us hl => match us, hl with | [_, _, _, _], _ => rfl
  have bmKin__eq__ : Binds K dmKin__eq__ ["self", "other"] [] := FmKin__eq__.bindsN fun _ _ _ _ _ _ us hl => match us, hl with | [_, _], _ => rfl
  have bmBadRow__init__ : Binds K dmBadRow__init__ ["self", "index", "what"] [] := FmBadRow__init__.bindsN fun _ _ _ _ _ _ us hl => match us, hl with | [_, _, _], _ => rfl
  have e := hfa.symm.trans (He.glo_ok X G (c.fact 30 (f := .glo "law") rfl))
  cases e
  refine ⟨_, fun s v => FunD.bindsA (ps := ["_law_script"]) Fqlaw (fun _ _ _ _ _ _ us hl => match us, hl with | [_], _ => rfl) s [v] rfl, fun base _ _ => ?_⟩
  have B : Blt mg := ⟨(He.free_ok X G (c.fact 35 (f := .free "isinstance") rfl)), (He.free_ok X G (c.fact 36 (f := .free "int") rfl)), (He.free_ok X G (c.fact 37 (f := .free "bool") rfl)), (He.free_ok X G (c.fact 38 (f := .free "tuple") rfl)), (He.free_ok X G (c.fact 39 (f := .free "list") rfl)), (He.free_ok X G (c.fact 40 (f := .free "len") rfl)), (He.free_ok X G (c.fact 41 (f := .free "zip") rfl)), (He.free_ok X G (c.fact 42 (f := .free "range") rfl)), (He.free_ok X G (c.fact 43 (f := .free "enumerate") rfl)), (He.free_ok X G (c.fact 44 (f := .free "max") rfl)), (He.free_ok X G (c.fact 45 (f := .free "min") rfl)), (He.free_ok X G (c.fact 46 (f := .free "abs") rfl)), PySem.W.mg_of X G (He.eqO_ok (xs_at cx 0 rfl)), PySem.W.mg_of X G (He.eqO_ok (xs_at cx 1 rfl))⟩
  have Nu : Nums mg := ⟨He.int_ok X G (c.fact 47 (f := .int "MOST_BALLS" 40) rfl), He.int_ok X G (c.fact 48 (f := .int "MOST_WEIGHT" 9) rfl)⟩
  have cR := He.cls_ok (c.fact 49 (f := .cls "Row") rfl)
  have cK := He.cls_ok (c.fact 50 (f := .cls "Kin") rfl)
  have T : RowC K mg (He.ga K "Row") := ⟨cR, He.noat_ok (c.fact 51 (f := .noat "Row" "weights") rfl), He.noat_ok (c.fact 52 (f := .noat "Row" "speeds") rfl), He.noat_ok (c.fact 53 (f := .noat "Row" "wall") rfl), He.noat_ok (c.fact 54 (f := .noat "Row" "pairs") rfl), He.noat_ok (c.fact 55 (f := .noat "Row" "gap_count") rfl), He.noat_ok (c.fact 56 (f := .noat "Row" "is_like") rfl), He.noat_ok (c.fact 57 (f := .noat "Row" "first_sum") rfl), He.noat_ok (c.fact 58 (f := .noat "Row" "second_sum") rfl), (He.glo_ok X G (c.fact 31 (f := .glo "Row") rfl))⟩
  have TK : KinC K mg (He.ga K "Kin") := ⟨cK, He.noat_ok (c.fact 59 (f := .noat "Kin" "factor") rfl), He.noat_ok (c.fact 60 (f := .noat "Kin" "pace") rfl), He.noat_ok (c.fact 61 (f := .noat "Kin" "more") rfl), (He.glo_ok X G (c.fact 32 (f := .glo "Kin") rfl))⟩
  have NC : InsC K (He.ga K "Row") := insB_ok cR (xs_at cx 2 rfl)
  have ND : KinX K (He.ga K "Kin") := ⟨insB_ok cK (xs_at cx 3 rfl), xs_at cx 4 rfl, xs_at cx 5 rfl, of_decide_eq_true (xs_at cx 6 rfl), of_decide_eq_true (xs_at cx 7 rfl)⟩
  have oB : OexC K (He.ga K "BadRow") := ⟨oexB_ok (xs_at cx 8 rfl), He.eqO_ok (xs_at cx 9 rfl), of_decide_eq_true (xs_at cx 10 rfl), of_decide_eq_true (xs_at cx 11 rfl), xs_at cx 12 rfl⟩
  have iB := He.eqO_ok (xs_at cx 13 rfl)
  have wB := He.eqO_ok (xs_at cx 14 rfl)
  have BX : BadX P w K mg base (He.ga K "BadRow") := ⟨⟨oB, iB, wB⟩, ⟨_, _, _, He.eqO_ok (xs_at cx 15 rfl), of_decide_eq_true (xs_at cx 16 rfl), ok_bad FmBadRow__init__ ⟨oB, iB, wB⟩, bmBadRow__init__⟩, (He.glo_ok X G (c.fact 33 (f := .glo "BadRow") rfl))⟩
  have exN := He.exc_ok (c.fact 69 (f := .exc "NoHurry") rfl)
  have NX : NoX K mg "NoHurry" (He.ga K "NoHurry") := ⟨⟨_, _, _, _, PySem.F.excBase_ValueError, exN.1⟩, (He.glo_ok X G (c.fact 34 (f := .glo "NoHurry") rfl)), exN.2.1, exN.2.2.1, exN.2.2.2⟩
  have TX : TryX K mg (He.ga K "BadRow") (He.ga K "NoHurry") := ⟨(He.glo_ok X G (c.fact 33 (f := .glo "BadRow") rfl)), (He.glo_ok X G (c.fact 34 (f := .glo "NoHurry") rfl)), xfB_ok (xs_at cx 17 rfl), iB, wB, He.exm_ok (c.fact 70 (f := .exm "BadRow" "BadRow" true) rfl), He.exm_ok (c.fact 71 (f := .exm "NoHurry" "BadRow" false) rfl), He.exm_ok (c.fact 72 (f := .exm "NoHurry" "NoHurry" true) rfl)⟩
  have Dis_whole : Def P w K mg base CX0 1 "is_whole" ["thing"] spWhole := ⟨⟨_, _, ok_whole Fqis_whole B, (He.glo_ok X G (c.fact 0 (f := .glo "is_whole") rfl)), Fqis_whole.kp, bqis_whole⟩⟩
  have Dis_ratio : Def P w K mg base CX0 2 "is_ratio" ["thing"] (spRatio K) := ⟨⟨_, _, ok_ratio Fqis_ratio B Dis_whole, (He.glo_ok X G (c.fact 1 (f := .glo "is_ratio") rfl)), Fqis_ratio.kp, bqis_ratio⟩⟩
  have Dlowest_terms : Def P w K mg base CX0 1 "lowest_terms" ["top", "bottom"] (spLow K) := ⟨⟨_, _, ok_low Fqlowest_terms B, (He.glo_ok X G (c.fact 3 (f := .glo "lowest_terms") rfl)), Fqlowest_terms.kp, bqlowest_terms⟩⟩
  have Dratio_of : Def P w K mg base CX0 3 "ratio_of" ["thing"] (spOf K) := ⟨⟨_, _, ok_of Fqratio_of B Dis_ratio Dlowest_terms, (He.glo_ok X G (c.fact 2 (f := .glo "ratio_of") rfl)), Fqratio_of.kp, bqratio_of⟩⟩
  have Dplus : Def P w K mg base CX0 4 "plus" ["one", "other"] (spPlus K) := ⟨⟨_, _, ok_plus Fqplus Dratio_of Dlowest_terms, (He.glo_ok X G (c.fact 4 (f := .glo "plus") rfl)), Fqplus.kp, bqplus⟩⟩
  have Dminus : Def P w K mg base CX0 4 "minus" ["one", "other"] (spMinus K) := ⟨⟨_, _, ok_minus Fqminus Dratio_of Dlowest_terms, (He.glo_ok X G (c.fact 5 (f := .glo "minus") rfl)), Fqminus.kp, bqminus⟩⟩
  have Dtimes : Def P w K mg base CX0 4 "times" ["one", "other"] (spTimes K) := ⟨⟨_, _, ok_times Fqtimes Dratio_of Dlowest_terms, (He.glo_ok X G (c.fact 6 (f := .glo "times") rfl)), Fqtimes.kp, bqtimes⟩⟩
  have Dover : Def P w K mg base CX0 4 "over" ["one", "other"] (spOver K) := ⟨⟨_, _, ok_over Fqover Dratio_of Dlowest_terms, (He.glo_ok X G (c.fact 7 (f := .glo "over") rfl)), Fqover.kp, bqover⟩⟩
  have Dcompare : Def P w K mg base CX0 4 "compare" ["one", "other"] (spCompare K) := ⟨⟨_, _, ok_compare Fqcompare Dratio_of, (He.glo_ok X G (c.fact 8 (f := .glo "compare") rfl)), Fqcompare.kp, bqcompare⟩⟩
  have Dlowest_row : Def P w K mg base CX0 4 "lowest_row" ["numbers"] (spLowRow K) := ⟨⟨_, _, ok_lowrow Fqlowest_row B Dratio_of, (He.glo_ok X G (c.fact 9 (f := .glo "lowest_row") rfl)), Fqlowest_row.kp, bqlowest_row⟩⟩
  have Dcheck_balls : Def P w K mg base CX0 3 "check_balls" ["weights", "speeds", "wall"] (spCheck K) := ⟨⟨_, _, ok_check Fqcheck_balls B Nu Dis_whole Dis_ratio, (He.glo_ok X G (c.fact 10 (f := .glo "check_balls") rfl)), Fqcheck_balls.kp, bqcheck_balls⟩⟩
  have Mr : Mak P w K mg base 5 "Row" (He.ga K "Row") (spRowInit K (He.ga K "Row")) := ⟨⟨_, _, _, He.mkr_ok (c.fact 67 (f := .mkr "Row") rfl), ok_rinit FmRow__init__ B T Dcheck_balls Dratio_of Dplus Dtimes, (He.glo_ok X G (c.fact 31 (f := .glo "Row") rfl)), bmRow__init__⟩⟩
  have Mk : Mak P w K mg base 1 "Kin" (He.ga K "Kin") (spKinInit K (He.ga K "Kin")) := ⟨⟨_, _, _, He.mkr_ok (c.fact 68 (f := .mkr "Kin") rfl), ok_kinit FmKin__init__ TK, (He.glo_ok X G (c.fact 32 (f := .glo "Kin") rfl)), bmKin__init__⟩⟩
  have meR := He.meth_ok (c.fact 65 (f := .meth "Row" "__eq__") rfl)
  have meK := He.meth_ok (c.fact 66 (f := .meth "Kin" "__eq__") rfl)
  have ER : EqOf P w K mg base 1 (He.ga K "Row") (spRowEq K (He.ga K "Row")) := ⟨⟨_, _, _, ok_roweq FmRow__eq__ B T NC, meR.at_, meR.fn, bmRow__eq__⟩⟩
  have EK : EqOf P w K mg base 1 (He.ga K "Kin") (spKinEq K (He.ga K "Kin")) := ⟨⟨_, _, _, ok_kineq FmKin__eq__ B TK ND.i, meK.at_, meK.fn, bmKin__eq__⟩⟩
  have MQ : MetE P w K mg base CX0 7 (He.ga K "Row") "quicker" (spQuick K (He.ga K "Row")) := ⟨⟨_, _, _, cR, He.meth_ok (c.fact 63 (f := .meth "Row" "quicker") rfl), ok_quick FmRowquicker T Mr Dratio_of Dtimes, bmRowquicker⟩⟩
  have MU : MetE P w K mg base (L2.CX P w) 7 (He.ga K "Row") "hurried" (spHur K (He.ga K "Row") (He.ga K "NoHurry")) := ⟨⟨_, _, _, cR, He.meth_ok (c.fact 64 (f := .meth "Row" "hurried") rfl), ok_hur FmRowhurried T NX Mr Dratio_of Dplus, bmRowhurried⟩⟩
  have MH : MetE P w K mg base (L2.CX P w) 7 (He.ga K "Row") "heavier" (spHeavy K (He.ga K "Row") (He.ga K "BadRow")) := ⟨⟨_, _, _, cR, He.meth_ok (c.fact 62 (f := .meth "Row" "heavier") rfl), ok_heavy FmRowheavier B Nu T BX Mr Dratio_of Dtimes, bmRowheavier⟩⟩
  have Dleast_row : Def P w K mg base CX0 7 "least_row" ["row"] (spLeast K (He.ga K "Row")) := ⟨⟨_, _, ok_least Fqleast_row B T Mr Dminus Dlowest_row, (He.glo_ok X G (c.fact 11 (f := .glo "least_row") rfl)), Fqleast_row.kp, bqleast_row⟩⟩
  have Dare_kin : Def P w K mg base CX0 8 "are_kin" ["one", "other"] (spAre K (He.ga K "Row")) := ⟨⟨_, _, ok_are Fqare_kin NC Dleast_row ER, (He.glo_ok X G (c.fact 12 (f := .glo "are_kin") rfl)), Fqare_kin.kp, bqare_kin⟩⟩
  have Dpace_between : Def P w K mg base CX0 5 "pace_between" ["one", "other"] (spPace K) := ⟨⟨_, _, ok_pace Fqpace_between B Dcompare Dover, (He.glo_ok X G (c.fact 13 (f := .glo "pace_between") rfl)), Fqpace_between.kp, bqpace_between⟩⟩
  have Dkin_of : Def P w K mg base CX0 9 "kin_of" ["one", "other"] (spKinOf K (He.ga K "Row") (He.ga K "Kin")) := ⟨⟨_, _, ok_kinof Fqkin_of B T Dare_kin Dpace_between Dminus Dtimes Dover Mk, (He.glo_ok X G (c.fact 14 (f := .glo "kin_of") rfl)), Fqkin_of.kp, bqkin_of⟩⟩
  have Dlead_along : Def P w K mg base (L2.CX P w) 8 "lead_along" ["kin", "row"] (spLead K (He.ga K "Row") (He.ga K "Kin") (He.ga K "BadRow") (He.ga K "NoHurry")) := ⟨⟨_, _, ok_lead Fqlead_along TK MH MQ MU Dcompare, (He.glo_ok X G (c.fact 15 (f := .glo "lead_along") rfl)), Fqlead_along.kp, bqlead_along⟩⟩
  have D_law_mix : Def P w K mg base CX0 1 "_law_mix" ["_law_number", "_law_turn"] spMix := ⟨⟨_, _, ok_mix Fq_law_mix B, (He.glo_ok X G (c.fact 16 (f := .glo "_law_mix") rfl)), Fq_law_mix.kp, bq_law_mix⟩⟩
  have D_law_hand : Def P w K mg base CX0 1 "_law_hand" ["_law_script"] (spHand K) := ⟨⟨_, _, ok_hand Fq_law_hand B, (He.glo_ok X G (c.fact 17 (f := .glo "_law_hand") rfl)), Fq_law_hand.kp, bq_law_hand⟩⟩
  have D_law_draw : Def P w K mg base CX0 2 "_law_draw" ["_law_hand_here", "_law_many"] (spDraw K) := ⟨⟨_, _, ok_draw Fq_law_draw B D_law_mix, (He.glo_ok X G (c.fact 18 (f := .glo "_law_draw") rfl)), Fq_law_draw.kp, bq_law_draw⟩⟩
  have D_law_low : Def P w K mg base CX0 1 "_law_low" ["_law_top", "_law_bottom"] (spLow K) := ⟨⟨_, _, ok_llow Fq_law_low B, (He.glo_ok X G (c.fact 19 (f := .glo "_law_low") rfl)), Fq_law_low.kp, bq_law_low⟩⟩
  have D_law_add : Def P w K mg base CX0 2 "_law_add" ["_law_a", "_law_b"] (spLAdd K) := ⟨⟨_, _, ok_ladd Fq_law_add D_law_low, (He.glo_ok X G (c.fact 20 (f := .glo "_law_add") rfl)), Fq_law_add.kp, bq_law_add⟩⟩
  have D_law_sub : Def P w K mg base CX0 2 "_law_sub" ["_law_a", "_law_b"] (spLSub K) := ⟨⟨_, _, ok_lsub Fq_law_sub D_law_low, (He.glo_ok X G (c.fact 21 (f := .glo "_law_sub") rfl)), Fq_law_sub.kp, bq_law_sub⟩⟩
  have D_law_mul : Def P w K mg base CX0 2 "_law_mul" ["_law_a", "_law_b"] (spLMul K) := ⟨⟨_, _, ok_lmul Fq_law_mul D_law_low, (He.glo_ok X G (c.fact 22 (f := .glo "_law_mul") rfl)), Fq_law_mul.kp, bq_law_mul⟩⟩
  have D_law_common : Def P w K mg base CX0 1 "_law_common" ["_law_one", "_law_other"] spCom := ⟨⟨_, _, ok_com Fq_law_common B, (He.glo_ok X G (c.fact 23 (f := .glo "_law_common") rfl)), Fq_law_common.kp, bq_law_common⟩⟩
  have D_law_least : Def P w K mg base CX0 3 "_law_least" ["_law_weights", "_law_speeds_here", "_law_shut"] (spLLeast K) := ⟨⟨_, _, ok_lleast Fq_law_least B D_law_common D_law_sub, (He.glo_ok X G (c.fact 24 (f := .glo "_law_least") rfl)), Fq_law_least.kp, bq_law_least⟩⟩
  have D_law_speeds : Def P w K mg base CX0 3 "_law_speeds" ["_law_hand_here", "_law_many"] (spSpeeds K) := ⟨⟨_, _, ok_speeds Fq_law_speeds B D_law_draw D_law_low, (He.glo_ok X G (c.fact 25 (f := .glo "_law_speeds") rfl)), Fq_law_speeds.kp, bq_law_speeds⟩⟩
  have D_law_lead : Def P w K mg base CX0 9 "_law_lead" ["_law_kin", "_law_row"] (spLLead K (He.ga K "Row") (He.ga K "Kin")) := ⟨⟨_, _, ok_llead Fq_law_lead TX Dlead_along, (He.glo_ok X G (c.fact 26 (f := .glo "_law_lead") rfl)), Fq_law_lead.kp, bq_law_lead⟩⟩
  have D_law_settled : Def P w K mg base CX0 3 "_law_settled" ["_law_speeds_here", "_law_shut"] (spSettled K) := ⟨⟨_, _, ok_settled Fq_law_settled B D_law_sub, (He.glo_ok X G (c.fact 27 (f := .glo "_law_settled") rfl)), Fq_law_settled.kp, bq_law_settled⟩⟩
  have D_law_strangers : Def P w K mg base CX0 10 "_law_strangers" ["_law_row", "_law_weights", "_law_speeds_here", "_law_shut", "_law_at", "_law_least_here"] (spStr K (He.ga K "Row")) := ⟨⟨_, _, ok_str Fq_law_strangers B T Mr D_law_add D_law_least Dare_kin Dkin_of, (He.glo_ok X G (c.fact 28 (f := .glo "_law_strangers") rfl)), Fq_law_strangers.kp, bq_law_strangers⟩⟩
  have D_law_equal : Def P w K mg base CX0 3 "_law_equal" ["_law_factor", "_law_pace", "_law_more"] (spEqual K) := ⟨⟨_, _, ok_equal Fq_law_equal TK ND Mk EK D_law_add, (He.glo_ok X G (c.fact 29 (f := .glo "_law_equal") rfl)), Fq_law_equal.kp, bq_law_equal⟩⟩
  exact ok_law (D := He.ga K "Kin") (Bd := He.ga K "BadRow") (N := He.ga K "NoHurry") Fqlaw ⟨B, T, TK, NC, ND, D_law_hand, D_law_draw, D_law_speeds, D_law_least, D_law_low, D_law_add, D_law_sub, D_law_mul, Dleast_row, Dare_kin, Dkin_of, D_law_lead, D_law_settled, D_law_strangers, D_law_equal, Mr, Mk, ER, EK, MQ, MU⟩
theorem run (w : World) : HandSHeadRun.RunEqI R (PySem.W.view R.prog [0, 46]) hk ob 6000 (names1 ++ names2) w := by
  unfold HandSHeadRun.RunEqI
  kernel_rfl
end K06
open PySem PySem.W PySem.Calls PyProof.Rows
theorem PySem.Challenge.cw_untoldgaps_k06_whole_rows_of_kin_holds : PySem.Challenge.rw_untoldgaps_k06_whole_rows_of_kin.Holds := by
  w_on; o_law
  refine HandSHeadRun.head_imp (r := OpenLaw.row PySem.Challenge.rw_untoldgaps_k06_whole_rows_of_kin) (q := view (OpenLaw.row PySem.Challenge.rw_untoldgaps_k06_whole_rows_of_kin).prog [0, 46]) (H := K06.hk) (ob := K06.ob) (M := 6000) (loose := K06.names1 ++ K06.names2) (d := HandSHeadRun.topDef (OpenLaw.row PySem.Challenge.rw_untoldgaps_k06_whole_rows_of_kin).prog 46) (kwd := []) K06.ob_eq
    K06.run (by kernel_rfl) (by kernel_rfl) (by kernel_rfl) (by rfl) (by first | assumption | decide +kernel) (by decide +kernel) ⟨rfl, rfl, rfl, rfl, rfl, by decide +kernel⟩ ?hw ?hc
  case hw => w_witness2
  case hc =>
    refine L2.walk_ofE (l := PySem.Challenge.rw_untoldgaps_k06_whole_rows_of_kin) (n := 63) (k := 11) (x := "_law_script") (CX := L2.CX0) rfl (by decide) (by kernel_rfl) ⟨rfl, by decide, by decide⟩ ?F (fun _ _ _ _ z => z)
    intro w mg fa h Y G hmg0
    obtain ⟨K, KX, c, cx⟩ := Y
    have hmg : mg ("law" : PySem.Str) = some (.ref fa) := by
      have e : (HandSHeadRun.topDef (OpenLaw.row PySem.Challenge.rw_untoldgaps_k06_whole_rows_of_kin).prog 46).name = ("law" : PySem.Str) := by kernel_rfl
      rw [← e]
      exact hmg0
    obtain ⟨fd, hb, hF⟩ := K06.facts (P := (PySem.Challenge.rw_untoldgaps_k06_whole_rows_of_kin).prog) (w := w) KX G hmg c cx
    exact ⟨K, fd, K06.spLaw K, KX, hb, fun H a ns hl _ hS => ⟨a, ns, rfl, hS, Nat.le_trans hl (by decide), fun _ => rfl⟩, hF⟩
