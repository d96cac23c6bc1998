import PyProof.Rows.All
import Wide.All
import OpenK.AllK
import Wide.FinOn
import KE.KStateDown
import HandS.Base
import HandS.Call
import HandS.Ends
import HandS.Words
import HandS.Defaults
import HandS.Head0
import HandS.Head1
import HandS.Head2
import HandS.HeadEnd
import HandS.HeadHook1
import HandS.HeadHook2
import PyProof.NoPylong
import PyProof.Fits
import HandS.ForMost
import HandS.IsInst
import HandS.Wide
import HandS.Walk
import PyProof.ZipIter
import KE.GoesEnumKw
import KE.KTurns
import HandS.Deep
import PySem.Challenge.RW_lagwedge_k29_whole_tables_scale
set_option maxRecDepth 100000
set_option linter.all false
/-! Plain Lean: fractions, their sizes, a wedge's sums, factors and developed sums; what a scale does to them. -/
namespace K29
/-- top and bottom below 2 ^ n -/
def Sz (n : Nat) (q : Rat) : Prop := q.num.natAbs < 2 ^ n ∧ q.den < 2 ^ n
theorem Sz.mono {n m : Nat} {q : Rat} (h : Sz n q) (e : n ≤ m) : Sz m q :=
  ⟨Nat.lt_of_lt_of_le h.1 (Nat.pow_le_pow_right (by decide) e), Nat.lt_of_lt_of_le h.2 (Nat.pow_le_pow_right (by decide) e)⟩
theorem div_natAbs_le {a : Int} (g : Nat) (s : Int) (hs : s.natAbs ≤ 1) (hg : (g : Int) ∣ a) : (s * a / (g : Int)).natAbs ≤ a.natAbs := by
  obtain ⟨c, rfl⟩ := hg
  by_cases hz : g = 0
  · subst hz
    simp
  · have e : s * ((g : Int) * c) / (g : Int) = s * c := by
      rw [show s * ((g : Int) * c) = (g : Int) * (s * c) by rw [← Int.mul_assoc, ← Int.mul_assoc, Int.mul_comm s]]
      exact Int.mul_ediv_cancel_left _ (by omega)
    rw [e, Int.natAbs_mul, Int.natAbs_mul, Int.natAbs_natCast]
    have h1 : s.natAbs * c.natAbs ≤ 1 * c.natAbs := Nat.mul_le_mul_right _ hs
    have h2 : 1 * c.natAbs ≤ g * c.natAbs := Nat.mul_le_mul_right _ (by omega)
    omega
theorem divInt_le (t b : Int) (hb : b ≠ 0) : (Rat.divInt t b).num.natAbs ≤ t.natAbs ∧ (Rat.divInt t b).den ≤ b.natAbs := by
  rw [Rat.num_divInt, Rat.den_divInt, if_neg hb]
  refine ⟨div_natAbs_le _ _ ?_ ?_, Nat.div_le_self _ _⟩
  · rcases Int.lt_trichotomy b 0 with h | h | h
    · rw [Int.sign_eq_neg_one_of_neg h]; decide
    · exact absurd h hb
    · rw [Int.sign_eq_one_of_pos h]; decide
  · exact Int.gcd_dvd_right ..
theorem sz_divInt {n : Nat} {t b : Int} (hb : b ≠ 0) (ht : t.natAbs < 2 ^ n) (hd : b.natAbs < 2 ^ n) : Sz n (Rat.divInt t b) := by
  have h := divInt_le t b hb
  exact ⟨Nat.lt_of_le_of_lt h.1 ht, Nat.lt_of_le_of_lt h.2 hd⟩
theorem den_ne (q : Rat) : (q.den : Int) ≠ 0 := by
  have := q.den_pos
  omega
theorem mul_eq (q r : Rat) : q * r = Rat.divInt (q.num * r.num) ((q.den : Int) * r.den) := by
  rw [Rat.mul_def', ← Int.natCast_mul, Rat.divInt_ofNat]
theorem add_eq (q r : Rat) : q + r = Rat.divInt (q.num * r.den + r.num * q.den) ((q.den : Int) * r.den) := by
  rw [Rat.add_def', ← Int.natCast_mul, Rat.divInt_ofNat]
theorem sub_eq (q r : Rat) : q - r = Rat.divInt (q.num * r.den - r.num * q.den) ((q.den : Int) * r.den) := by
  rw [Rat.sub_def', ← Int.natCast_mul, Rat.divInt_ofNat]
theorem div_eq (q r : Rat) : q / r = Rat.divInt (q.num * r.den) ((q.den : Int) * r.num) := by
  rw [Rat.div_def, Rat.inv_def]
  conv => lhs; lhs; rw [← Rat.num_divInt_den q]
  rw [Rat.divInt_mul_divInt]
theorem mul_lt_pow {x y a b : Nat} (hx : x < 2 ^ a) (hy : y < 2 ^ b) : x * y < 2 ^ (a + b) := by
  rw [Nat.pow_add]
  exact Nat.mul_lt_mul'' hx hy
theorem Sz.mul {a b : Nat} {q r : Rat} (h : Sz a q) (k : Sz b r) : Sz (a + b) (q * r) := by
  rw [mul_eq]
  refine sz_divInt ?_ ?_ ?_
  · exact Int.mul_ne_zero (den_ne q) (den_ne r)
  · rw [Int.natAbs_mul]; exact mul_lt_pow h.1 k.1
  · rw [Int.natAbs_mul]; exact mul_lt_pow h.2 k.2
theorem Sz.add {a b : Nat} {q r : Rat} (h : Sz a q) (k : Sz b r) : Sz (a + b + 1) (q + r) := by
  rw [add_eq]
  have h1 : q.num.natAbs * r.den < 2 ^ (a + b) := mul_lt_pow h.1 k.2
  have h2 : r.num.natAbs * q.den < 2 ^ (a + b) := by rw [Nat.add_comm a b]; exact mul_lt_pow k.1 h.2
  have h3 : q.den * r.den < 2 ^ (a + b) := mul_lt_pow h.2 k.2
  have e : 2 ^ (a + b + 1) = 2 ^ (a + b) * 2 := Nat.pow_succ ..
  refine sz_divInt (Int.mul_ne_zero (den_ne q) (den_ne r)) ?_ ?_
  · have z := Int.natAbs_add_le (q.num * r.den) (r.num * q.den)
    rw [Int.natAbs_mul, Int.natAbs_mul, Int.natAbs_natCast, Int.natAbs_natCast] at z
    omega
  · rw [Int.natAbs_mul, Int.natAbs_natCast, Int.natAbs_natCast]; omega
theorem sz_zero {n : Nat} (h : 1 ≤ n) : Sz n 0 := by
  have e : 2 ^ 1 ≤ 2 ^ n := Nat.pow_le_pow_right (by decide) h
  refine ⟨?_, ?_⟩
  · show 0 < 2 ^ n; omega
  · show 1 < 2 ^ n; omega
theorem sz_one {n : Nat} (h : 1 ≤ n) : Sz n 1 := by
  have e : 2 ^ 1 ≤ 2 ^ n := Nat.pow_le_pow_right (by decide) h
  refine ⟨?_, ?_⟩
  · show 1 < 2 ^ n; omega
  · show 1 < 2 ^ n; omega

/-! ### lowest terms, as the program makes them -/
/-- the divisor: the greatest common one, with the bottom's sign -/
def byOf (t b : Int) : Int := if b < 0 then -(Int.gcd t b : Int) else (Int.gcd t b : Int)
theorem byOf_ne {t b : Int} (hb : b ≠ 0) : byOf t b ≠ 0 := by
  have h : Int.gcd t b ≠ 0 := fun z => hb (Int.gcd_eq_zero_iff.mp z).2
  unfold byOf
  split <;> omega
theorem byOf_abs (t b : Int) : (byOf t b).natAbs = Int.gcd t b := by
  unfold byOf
  split <;> omega
theorem byOf_le {t b : Int} (hb : b ≠ 0) : (byOf t b).natAbs ≤ b.natAbs := by
  rw [byOf_abs]
  exact Nat.le_of_dvd (by omega) (Int.gcd_dvd_natAbs_right ..)
theorem fdiv_exact {g c s : Int} (hg : g ≠ 0) (hs : s = 1 ∨ s = -1) : (g * c).fdiv (s * g) = s * c := by
  rcases hs with rfl | rfl
  · rw [Int.one_mul, Int.one_mul, Int.mul_fdiv_cancel_left _ hg]
  · rw [show (-1 : Int) * g = -g by omega, show (-1 : Int) * c = -c by omega, show g * c = (-g) * (-c) by rw [Int.neg_mul_neg]]
    exact Int.mul_fdiv_cancel_left _ (by omega)
theorem part_is {t b : Int} (hb : b ≠ 0) : t.fdiv (byOf t b) = (Rat.divInt t b).num ∧ b.fdiv (byOf t b) = ((Rat.divInt t b).den : Int) := by
  have hg : (Int.gcd t b : Int) ≠ 0 := by
    have : Int.gcd t b ≠ 0 := fun z => hb (Int.gcd_eq_zero_iff.mp z).2
    omega
  rw [Rat.num_divInt, Rat.den_divInt, if_neg hb, Int.gcd_comm b t]
  obtain ⟨c, hc⟩ : (Int.gcd t b : Int) ∣ t := Int.gcd_dvd_left ..
  obtain ⟨d, hd⟩ : (Int.gcd t b : Int) ∣ b := Int.gcd_dvd_right ..
  have hn : (((b.natAbs / Int.gcd t b : Nat)) : Int) = (b.natAbs : Int) / (Int.gcd t b : Int) := Int.natCast_ediv ..
  rw [hn]
  generalize hG : (Int.gcd t b : Int) = G at *
  have hGp : 0 < G := by omega
  rcases Int.lt_trichotomy b 0 with h | h | h
  · have eb : byOf t b = (-1) * G := by unfold byOf; rw [if_pos h, hG]; omega
    rw [eb, Int.sign_eq_neg_one_of_neg h]
    refine ⟨?_, ?_⟩
    · rw [hc, fdiv_exact hg (.inr rfl)]
      rw [show (-1 : Int) * (G * c) = G * (-1 * c) by rw [← Int.mul_assoc, ← Int.mul_assoc, Int.mul_comm (-1)], Int.mul_ediv_cancel_left _ hg]
    · have e : (b.natAbs : Int) = G * (-1 * d) := by
        rw [← Int.mul_assoc, Int.mul_comm G, Int.mul_assoc, ← hd]
        omega
      rw [e, Int.mul_ediv_cancel_left _ hg]
      conv => lhs; lhs; rw [hd]
      exact fdiv_exact hg (.inr rfl)
  · exact absurd h hb
  · have eb : byOf t b = 1 * G := by unfold byOf; rw [if_neg (by omega), hG]; omega
    rw [eb, Int.sign_eq_one_of_pos h]
    refine ⟨?_, ?_⟩
    · rw [hc, fdiv_exact hg (.inl rfl), Int.one_mul, Int.one_mul, Int.mul_ediv_cancel_left _ hg]
    · have e : (b.natAbs : Int) = G * d := by omega
      rw [e, Int.mul_ediv_cancel_left _ hg]
      conv => lhs; lhs; rw [hd]
      rw [fdiv_exact hg (.inl rfl), Int.one_mul]
/-- a fraction in lowest terms has the divisor one -/
theorem gcd_one (q : Rat) : Int.gcd q.num (q.den : Int) = 1 := by
  have := q.reduced
  unfold Nat.Coprime at this
  rw [Int.gcd, Int.natAbs_natCast]
  exact this

/-! ### multiples of 1/27720 -/
def Ml (n : Nat) (q : Rat) : Prop := ∃ m : Int, q = Rat.divInt m 27720 ∧ m.natAbs ≤ n
theorem Ml.mono {a b : Nat} {q : Rat} (h : Ml a q) (e : a ≤ b) : Ml b q := by
  obtain ⟨m, h1, h2⟩ := h
  exact ⟨m, h1, Nat.le_trans h2 e⟩
theorem Ml.zero {a : Nat} : Ml a 0 := ⟨0, by rw [Rat.zero_divInt], Nat.zero_le _⟩
theorem Ml.add {a b : Nat} {q r : Rat} (h : Ml a q) (k : Ml b r) : Ml (a + b) (q + r) := by
  obtain ⟨m, rfl, h2⟩ := h
  obtain ⟨n, rfl, k2⟩ := k
  refine ⟨m + n, ?_, Nat.le_trans (Int.natAbs_add_le _ _) (Nat.add_le_add h2 k2)⟩
  rw [Rat.divInt_add_divInt _ _ (by decide) (by decide), ← Int.add_mul, Rat.divInt_mul_right (by decide)]
theorem Ml.sz {a k : Nat} {q : Rat} (h : Ml a q) (ha : a < 2 ^ k) (hk : 15 ≤ k) : Sz k q := by
  obtain ⟨m, rfl, h2⟩ := h
  refine sz_divInt (by decide) (Nat.lt_of_le_of_lt h2 ha) (Nat.lt_of_lt_of_le (show (27720 : Int).natAbs < 2 ^ 15 by decide) (Nat.pow_le_pow_right (by decide) hk))
theorem Ml.div {a b k : Nat} {q r : Rat} (h : Ml a q) (l : Ml b r) (hr : r ≠ 0) (ha : a < 2 ^ k) (hb : b < 2 ^ k) : Sz k (q / r) := by
  obtain ⟨m, rfl, h2⟩ := h
  obtain ⟨n, rfl, k2⟩ := l
  have hn : n ≠ 0 := fun z => hr (by rw [z, Rat.zero_divInt])
  have e : Rat.divInt m 27720 / Rat.divInt n 27720 = Rat.divInt m n := by
    rw [Rat.div_def, Rat.inv_divInt, Rat.divInt_mul_divInt, Int.mul_comm 27720 n, Rat.divInt_mul_right (by decide)]
  rw [e]
  exact sz_divInt hn (Nat.lt_of_le_of_lt h2 ha) (Nat.lt_of_le_of_lt k2 hb)
/-- a cell: a bottom of at most twelve -/
structure Cell (n : Nat) (q : Rat) : Prop where
  top : q.num.natAbs ≤ n
  bot : q.den ≤ 12
theorem Cell.mono {n m : Nat} {q : Rat} (h : Cell n q) (e : n ≤ m) : Cell m q := ⟨Nat.le_trans h.top e, h.bot⟩
theorem Cell.ml {n : Nat} {q : Rat} (h : Cell n q) : Ml (n * 27720) q := by
  have hd : 27720 % q.den = 0 := by
    have h1 := h.bot
    have h2 := q.den_pos
    have : q.den = 1 ∨ q.den = 2 ∨ q.den = 3 ∨ q.den = 4 ∨ q.den = 5 ∨ q.den = 6 ∨ q.den = 7 ∨ q.den = 8 ∨ q.den = 9 ∨ q.den = 10 ∨ q.den = 11 ∨ q.den = 12 := by omega
    rcases this with e | e | e | e | e | e | e | e | e | e | e | e <;> rw [e]
  have e1 : (27720 / q.den) * q.den = 27720 := Nat.div_mul_cancel (Nat.dvd_of_mod_eq_zero hd)
  have nz : ((27720 / q.den : Nat) : Int) ≠ 0 := by
    intro z
    have z' : 27720 / q.den = 0 := by omega
    rw [z'] at e1
    omega
  refine ⟨q.num * ((27720 / q.den : Nat) : Int), ?_, ?_⟩
  · have e2 : (27720 : Int) = (q.den : Int) * ((27720 / q.den : Nat) : Int) := by
      rw [← Int.natCast_mul, Nat.mul_comm, e1]
      rfl
    conv => rhs; rw [e2]
    rw [Rat.divInt_mul_right nz, Rat.num_divInt_den]
  · rw [Int.natAbs_mul, Int.natAbs_natCast]
    exact Nat.mul_le_mul h.top (Nat.div_le_self _ _)
/-! ### sums, factors, developed sums of a table of cells -/
/-- f 0 + .. + f (k - 1), from nought -/
def tot (f : Nat → Rat) : Nat → Rat
  | 0 => 0
  | k + 1 => tot f k + f k
/-- f 0 + .. + f j -/
def psum (f : Nat → Rat) : Nat → Rat
  | 0 => f 0
  | j + 1 => psum f j + f (j + 1)
/-- how many cells the year at i has, of n years, depth d -/
def wd (n d i : Nat) : Nat := min d (n - 1 - i) + 1
/-- the years that count for step s -/
def places (n d s : Nat) : List Nat := (List.range n).filter fun i => decide (s + 1 < wd n d i)
def pl (n d s k : Nat) : Nat := (places n d s).getD k 0
def pn (n d s : Nat) : Nat := (places n d s).length
/-- the sums at lag j of the years that count for step s -/
def col (n d s j : Nat) (W : Nat → Nat → Rat) (k : Nat) : Rat := psum (W (pl n d s k)) j
def below (n d : Nat) (W : Nat → Nat → Rat) (s : Nat) : Rat := tot (col n d s s W) (pn n d s)
def above (n d : Nat) (W : Nat → Nat → Rat) (s : Nat) : Rat := tot (col n d s (s + 1) W) (pn n d s)
def fac (n d : Nat) (W : Nat → Nat → Rat) (s : Nat) : Rat := if below n d W s = 0 then 1 else above n d W s / below n d W s
/-- a row brought on: its w known sums g, then by the factors f -/
def dvl (w : Nat) (g f : Nat → Rat) : Nat → Rat
  | 0 => g 0
  | j + 1 => if j + 1 < w then g (j + 1) else dvl w g f j * f j
def dev (n d : Nat) (W : Nat → Nat → Rat) (i : Nat) : Nat → Rat := dvl (wd n d i) (psum (W i)) (fac n d W)
/-- no step without a factor -/
def Clear (n d : Nat) (W : Nat → Nat → Rat) : Prop := ∀ s, s < d → below n d W s = 0 → above n d W s = 0
/-- each cell so many times -/
def sc (c : Rat) (W : Nat → Nat → Rat) : Nat → Nat → Rat := fun i j => c * W i j
theorem pl_ok {n d s k : Nat} (h : k < pn n d s) : pl n d s k < n ∧ s + 1 < wd n d (pl n d s k) := by
  have e : (places n d s)[k]? = some (pl n d s k) := by
    unfold pl
    rw [List.getD_eq_getElem?_getD, List.getElem?_eq_getElem h]
    rfl
  have hm := List.mem_of_getElem? e
  obtain ⟨h1, h2⟩ := List.mem_filter.mp hm
  exact ⟨List.mem_range.mp h1, of_decide_eq_true h2⟩
theorem pn_le (n d s : Nat) : pn n d s ≤ n := by
  unfold pn places
  have h := List.length_filter_le (fun i => decide (s + 1 < wd n d i)) (List.range n)
  rw [List.length_range] at h
  exact h
theorem tot_congr {f g : Nat → Rat} : ∀ {k : Nat}, (∀ i, i < k → f i = g i) → tot f k = tot g k
  | 0, _ => rfl
  | k + 1, h => by
    show tot f k + f k = tot g k + g k
    rw [tot_congr (fun i hi => h i (Nat.lt_succ_of_lt hi)), h k (Nat.lt_succ_self k)]
theorem tot_sc (c : Rat) (f : Nat → Rat) : ∀ k, tot (fun i => c * f i) k = c * tot f k
  | 0 => (Rat.mul_zero c).symm
  | k + 1 => by
    show tot (fun i => c * f i) k + c * f k = c * (tot f k + f k)
    rw [tot_sc c f k, Rat.mul_add]
theorem psum_sc (c : Rat) (f : Nat → Rat) : ∀ j, psum (fun i => c * f i) j = c * psum f j
  | 0 => rfl
  | j + 1 => by
    show psum (fun i => c * f i) j + c * f (j + 1) = c * (psum f j + f (j + 1))
    rw [psum_sc c f j, Rat.mul_add]
theorem psum_congr {f g : Nat → Rat} : ∀ {j : Nat}, (∀ i, i ≤ j → f i = g i) → psum f j = psum g j
  | 0, h => h 0 (Nat.le_refl _)
  | j + 1, h => by
    show psum f j + f (j + 1) = psum g j + g (j + 1)
    rw [psum_congr (fun i hi => h i (Nat.le_succ_of_le hi)), h (j + 1) (Nat.le_refl _)]
theorem col_sc (n d s j : Nat) (c : Rat) (W : Nat → Nat → Rat) : col n d s j (sc c W) = fun k => c * col n d s j W k := by
  funext k
  exact psum_sc c (W (pl n d s k)) j
theorem below_sc (n d : Nat) (c : Rat) (W : Nat → Nat → Rat) (s : Nat) : below n d (sc c W) s = c * below n d W s := by
  unfold below
  rw [col_sc, tot_sc]
theorem above_sc (n d : Nat) (c : Rat) (W : Nat → Nat → Rat) (s : Nat) : above n d (sc c W) s = c * above n d W s := by
  unfold above
  rw [col_sc, tot_sc]
theorem clear_sc {n d : Nat} {c : Rat} {W : Nat → Nat → Rat} (h : Clear n d W) : Clear n d (sc c W) := fun s hs e => by
  rw [below_sc] at e
  rw [above_sc]
  rcases Rat.mul_eq_zero.mp e with e | e
  · rw [e, Rat.zero_mul]
  · rw [h s hs e, Rat.mul_zero]
theorem fac_sc {n d : Nat} {c : Rat} (hc : c ≠ 0) (W : Nat → Nat → Rat) (s : Nat) : fac n d (sc c W) s = fac n d W s := by
  unfold fac
  rw [below_sc, above_sc]
  by_cases h : below n d W s = 0
  · rw [if_pos h, if_pos (by rw [h, Rat.mul_zero])]
  · have h2 : c * below n d W s ≠ 0 := fun e => (Rat.mul_eq_zero.mp e).elim hc h
    rw [if_neg h, if_neg h2]
    rw [Rat.div_def, Rat.div_def, Rat.inv_mul_rev, Rat.mul_comm c, Rat.mul_assoc, ← Rat.mul_assoc c, Rat.mul_comm c, Rat.mul_assoc _ c, Rat.mul_inv_cancel c hc, Rat.mul_one]
theorem dvl_sc (w : Nat) (g f f' : Nat → Rat) (c : Rat) (h : c = 0 ∨ ∀ j, f' j = f j) : ∀ j, dvl w (fun i => c * g i) f' j = c * dvl w g f j
  | 0 => rfl
  | j + 1 => by
    show (if j + 1 < w then c * g (j + 1) else dvl w (fun i => c * g i) f' j * f' j) = c * (if j + 1 < w then g (j + 1) else dvl w g f j * f j)
    by_cases hj : j + 1 < w
    · rw [if_pos hj, if_pos hj]
    · rw [if_neg hj, if_neg hj, dvl_sc w g f f' c h j]
      rcases h with h | h
      · rw [h, Rat.zero_mul, Rat.zero_mul, Rat.zero_mul]
      · rw [h j, Rat.mul_assoc]
/-- THE LAW in plain words: a scaled table is developed to the scaled developed table -/
theorem dev_sc (n d : Nat) (c : Rat) (W : Nat → Nat → Rat) (i j : Nat) : dev n d (sc c W) i j = c * dev n d W i j := by
  unfold dev
  have e : psum (sc c W i) = fun j => c * psum (W i) j := funext (psum_sc c (W i))
  rw [e]
  by_cases hc : c = 0
  · exact dvl_sc _ _ _ _ _ (.inl hc) j
  · exact dvl_sc _ _ _ _ _ (.inr fun s => fac_sc hc W s) j
/-! ### sizes of all that is reckoned on the way -/
structure Fine (n d : Nat) (W : Nat → Nat → Rat) : Prop where
  cell : ∀ i j, i < n → j < wd n d i → Sz 4000 (W i j)
  sum : ∀ i j, i < n → j < wd n d i → Sz 4000 (psum (W i) j)
  bel : ∀ s k, s < d → k ≤ pn n d s → Sz 4000 (tot (col n d s s W) k)
  abv : ∀ s k, s < d → k ≤ pn n d s → Sz 4000 (tot (col n d s (s + 1) W) k)
  fct : ∀ s, s < d → Sz 4000 (fac n d W s)
  dvd : ∀ i j, i < n → j ≤ d → Sz 4000 (dev n d W i j)
theorem ml_psum {B : Nat} {f : Nat → Rat} : ∀ {j : Nat}, (∀ i, i ≤ j → Ml B (f i)) → Ml ((j + 1) * B) (psum f j)
  | 0, h => (h 0 (Nat.le_refl _)).mono (by omega)
  | j + 1, h => by
    have h1 := ml_psum (j := j) fun i hi => h i (Nat.le_succ_of_le hi)
    have h2 := h1.add (h (j + 1) (Nat.le_refl _))
    refine h2.mono ?_
    rw [Nat.add_mul (j + 1) 1 B]
    omega
theorem ml_tot {B : Nat} {f : Nat → Rat} : ∀ {k : Nat}, (∀ i, i < k → Ml B (f i)) → Ml (k * B) (tot f k)
  | 0, _ => Ml.zero
  | k + 1, h => by
    have h1 := ml_tot (k := k) fun i hi => h i (Nat.lt_succ_of_lt hi)
    have h2 := h1.add (h k (Nat.lt_succ_self k))
    refine h2.mono ?_
    rw [Nat.add_mul k 1 B]
    omega
theorem wd_le (n d i : Nat) : wd n d i ≤ d + 1 := by unfold wd; omega
/-- the cells of the law's wedge -/
structure Good (n d : Nat) (W : Nat → Nat → Rat) : Prop where
  n10 : n ≤ 10
  d6 : d ≤ 6
  cell : ∀ i j, i < n → j < wd n d i → Cell 1048576 (W i j)
theorem Good.sum {n d : Nat} {W : Nat → Nat → Rat} (g : Good n d W) {i j : Nat} (hi : i < n) (hj : j < wd n d i) : Ml (7 * 29066526720) (psum (W i) j) := by
  have h := ml_psum (B := 29066526720) (f := W i) (j := j) fun k hk => (g.cell i k hi (by omega)).ml.mono (by decide)
  have := wd_le n d i
  have := g.d6
  exact h.mono (Nat.mul_le_mul_right _ (by omega))
theorem Good.tot {n d : Nat} {W : Nat → Nat → Rat} (g : Good n d W) {s j k : Nat} (hj : j ≤ s + 1) (hk : k ≤ pn n d s) : Ml (10 * (7 * 29066526720)) (tot (col n d s j W) k) := by
  have h := ml_tot (B := 7 * 29066526720) (f := col n d s j W) (k := k) fun i hi => by
    have hp := pl_ok (n := n) (d := d) (s := s) (k := i) (by omega)
    exact g.sum hp.1 (by omega)
  have := pn_le n d s
  have := g.n10
  exact h.mono (Nat.mul_le_mul_right _ (by omega))
theorem Good.fac {n d : Nat} {W : Nat → Nat → Rat} (g : Good n d W) (s : Nat) : Sz 42 (fac n d W s) := by
  unfold K29.fac
  by_cases h : below n d W s = 0
  · rw [if_pos h]; exact sz_one (by decide)
  · rw [if_neg h]
    exact (g.tot (j := s + 1) (Nat.le_refl _) (Nat.le_refl _)).div (g.tot (Nat.le_succ _) (Nat.le_refl _)) h (by decide) (by decide)
theorem sz_dvl {w k : Nat} {g f : Nat → Rat} (hw : 0 < w) (hg : ∀ j, j < w → Sz 42 (g j)) (hf : ∀ j, j < k → Sz 42 (f j)) : ∀ j, j ≤ k → Sz (42 * (j + 1)) (dvl w g f j)
  | 0, _ => (hg 0 hw).mono (by omega)
  | j + 1, hj => by
    show Sz (42 * (j + 1 + 1)) (if j + 1 < w then g (j + 1) else dvl w g f j * f j)
    by_cases h : j + 1 < w
    · rw [if_pos h]; exact (hg _ h).mono (by omega)
    · rw [if_neg h]
      exact ((sz_dvl hw hg hf j (by omega)).mul (hf j (by omega))).mono (by omega)
theorem Good.dev {n d : Nat} {W : Nat → Nat → Rat} (g : Good n d W) {i j : Nat} (hi : i < n) (hj : j ≤ d) : Sz 300 (dev n d W i j) := by
  have h := sz_dvl (w := wd n d i) (k := d) (g := psum (W i)) (f := K29.fac n d W) (by unfold wd; omega) (fun j hj => (g.sum hi hj).sz (by decide) (by decide)) (fun j _ => g.fac j) j hj
  have := g.d6
  exact h.mono (by omega)
/-- all that is reckoned of a scaled wedge is small -/
theorem Good.fine {n d : Nat} {W : Nat → Nat → Rat} (g : Good n d W) {c : Rat} (hc : Sz 1000 c) : Fine n d (sc c W) where
  cell := fun i j hi hj => (hc.mul (((g.cell i j hi hj).ml).sz (k := 42) (by decide) (by decide))).mono (by decide)
  sum := fun i j hi hj => by
    have e : psum (sc c W i) j = c * psum (W i) j := psum_sc c (W i) j
    rw [e]
    exact (hc.mul ((g.sum hi hj).sz (k := 42) (by decide) (by decide))).mono (by decide)
  bel := fun s k _ hk => by
    rw [col_sc, tot_sc]
    exact (hc.mul ((g.tot (Nat.le_succ _) hk).sz (k := 42) (by decide) (by decide))).mono (by decide)
  abv := fun s k _ hk => by
    rw [col_sc, tot_sc]
    exact (hc.mul ((g.tot (Nat.le_refl _) hk).sz (k := 42) (by decide) (by decide))).mono (by decide)
  fct := fun s _ => by
    by_cases h : c = 0
    · have e : below n d (sc c W) s = 0 := by rw [below_sc, h, Rat.zero_mul]
      unfold K29.fac
      rw [if_pos e]
      exact sz_one (by decide)
    · rw [fac_sc h]
      exact (g.fac s).mono (by decide)
  dvd := fun i j hi hj => by
    rw [dev_sc]
    exact (hc.mul (g.dev hi hj)).mono (by decide)
/-- cells above nought: every step has a factor -/
theorem clear_pos {n d : Nat} {W : Nat → Nat → Rat} (h : ∀ i j, i < n → j < wd n d i → 0 < W i j) : Clear n d W := fun s hs e => by
  have pp : ∀ i, i < n → ∀ j, j < wd n d i → 0 < psum (W i) j := fun i hi j => by
    induction j with
    | zero => exact fun hj => h i 0 hi hj
    | succ j ih =>
      intro hj
      show 0 < psum (W i) j + W i (j + 1)
      have h1 := ih (by omega)
      have h2 := h i (j + 1) hi hj
      have h3 : 0 + 0 < psum (W i) j + W i (j + 1) := by
        have a1 : (0 : Rat) + 0 < psum (W i) j + 0 := Rat.add_lt_add_right.mpr h1
        have a2 : psum (W i) j + 0 < psum (W i) j + W i (j + 1) := Rat.add_lt_add_left.mpr h2
        exact Rat.lt_of_le_of_ne (Rat.le_trans (Rat.le_of_lt a1) (Rat.le_of_lt a2)) (fun e => by
          rw [← e] at a2
          exact Rat.lt_irrefl (Rat.lt_of_le_of_ne (Rat.le_trans (Rat.le_of_lt a1) (Rat.le_of_lt a2)) (fun e2 => by rw [e2] at a1; exact absurd (Rat.le_of_lt a2) (Rat.not_le.mpr a1))))
      rw [Rat.add_zero] at h3
      exact h3
  have tp : ∀ k, k < pn n d s + 1 → 0 ≤ tot (col n d s s W) k ∧ (0 < k → 0 < tot (col n d s s W) k) := fun k => by
    induction k with
    | zero => exact fun _ => ⟨Rat.le_refl, fun z => absurd z (Nat.lt_irrefl _)⟩
    | succ k ih =>
      intro hk
      obtain ⟨h1, _⟩ := ih (by omega)
      have hp := pl_ok (n := n) (d := d) (s := s) (k := k) (by omega)
      have h2 : 0 < col n d s s W k := pp _ hp.1 s (by omega)
      have h3 : 0 < tot (col n d s s W) k + col n d s s W k := by
        have a1 : tot (col n d s s W) k + 0 < tot (col n d s s W) k + col n d s s W k := Rat.add_lt_add_left.mpr h2
        rw [Rat.add_zero] at a1
        refine Rat.lt_of_le_of_ne (Rat.le_trans h1 (Rat.le_of_lt a1)) (fun e => ?_)
        rw [← e] at a1
        exact absurd h1 (Rat.not_le.mpr a1)
      exact ⟨Rat.le_of_lt h3, fun _ => h3⟩
  have hz : pn n d s = 0 := by
    rcases Nat.eq_zero_or_pos (pn n d s) with z | z
    · exact z
    · have := (tp (pn n d s) (by omega)).2 z
      have e' : tot (col n d s s W) (pn n d s) = 0 := e
      rw [e'] at this
      exact absurd this Rat.lt_irrefl
  unfold above
  rw [hz]
  rfl
end K29
set_option Elab.async false
set_option linter.all false
set_option maxRecDepth 100000
set_option maxHeartbeats 0
namespace K29
open PySem PySem.Spec PyProof.Rows L2
def top (i : Nat) : Stmt := PySem.Challenge.pw_lagwedge_k29_whole_tables_scale.main.body.getD i (.Pass ⟨0, 0, 0, 0⟩)
abbrev s_is_whole : Stmt := top 13
abbrev s_common : Stmt := top 14
abbrev s_part : Stmt := top 15
abbrev s_is_part : Stmt := top 16
abbrev s_plus : Stmt := top 17
abbrev s_times : Stmt := top 18
abbrev s_over : Stmt := top 19
abbrev s_total : Stmt := top 20
abbrev s_counted : Stmt := top 25
abbrev s_balance : Stmt := top 26
abbrev s_told : Stmt := top 27
abbrev s_steps : Stmt := top 28
abbrev s_factors : Stmt := top 29
abbrev s_brought : Stmt := top 31
abbrev s_developed : Stmt := top 32
abbrev s_width : Stmt := top 37
abbrev s_in_bounds : Stmt := top 38
abbrev s_check_rows : Stmt := top 39
abbrev s_summed : Stmt := top 40
abbrev s_l_flow : Stmt := top 43
abbrev s_l_draw : Stmt := top 44
abbrev s_l_shape : Stmt := top 45
abbrev s_l_copy : Stmt := top 46
abbrev s_l_low : Stmt := top 47
abbrev s_l_less : Stmt := top 48
abbrev s_l_bend : Stmt := top 49
abbrev s_l_amount : Stmt := top 50
abbrev s_l_wide : Stmt := top 51
abbrev s_l_rows : Stmt := top 52
abbrev s_l_drawn : Stmt := top 53
abbrev s_l_clear : Stmt := top 54
abbrev s_l_add : Stmt := top 55
abbrev s_l_sums : Stmt := top 56
abbrev s_l_total : Stmt := top 57
abbrev s_l_balance : Stmt := top 58
abbrev s_l_div : Stmt := top 59
abbrev s_l_steps : Stmt := top 60
abbrev s_l_sure : Stmt := top 61
abbrev s_l_first : Stmt := top 62
abbrev s_l_great : Stmt := top 63
abbrev s_l_any_part : Stmt := top 64
abbrev s_l_is_part : Stmt := top 65
abbrev s_l_parts : Stmt := top 66
abbrev s_l_mul : Stmt := top 67
abbrev s_l_same : Stmt := top 68
abbrev s_law : Stmt := top 69
abbrev s_Winit : Stmt := inClass (top 41) 0
abbrev s_Wrows : Stmt := inClass (top 41) 1
abbrev s_Wsums : Stmt := inClass (top 41) 5
abbrev s_Wjoined : Stmt := inClass (top 41) 9
abbrev s_Wscaled : Stmt := inClass (top 41) 10
def d_is_whole : He.DefD := ⟨("is_whole", none), "is_whole", "is_whole", defArgs s_is_whole, defBody s_is_whole, defScope s_is_whole, [], []⟩
def d_common : He.DefD := ⟨("common", none), "common", "common", defArgs s_common, defBody s_common, defScope s_common, [], []⟩
def d_part : He.DefD := ⟨("part", none), "part", "part", defArgs s_part, defBody s_part, defScope s_part, [.int 1], []⟩
def d_is_part : He.DefD := ⟨("is_part", none), "is_part", "is_part", defArgs s_is_part, defBody s_is_part, defScope s_is_part, [], []⟩
def d_plus : He.DefD := ⟨("plus", none), "plus", "plus", defArgs s_plus, defBody s_plus, defScope s_plus, [], []⟩
def d_times : He.DefD := ⟨("times", none), "times", "times", defArgs s_times, defBody s_times, defScope s_times, [], []⟩
def d_over : He.DefD := ⟨("over", none), "over", "over", defArgs s_over, defBody s_over, defScope s_over, [], []⟩
def d_total : He.DefD := ⟨("total", none), "total", "total", defArgs s_total, defBody s_total, defScope s_total, [], [("start", .glo "NOUGHT")]⟩
def d_counted : He.DefD := ⟨("counted", none), "counted", "counted", defArgs s_counted, defBody s_counted, defScope s_counted, [], []⟩
def d_balance : He.DefD := ⟨("balance", none), "balance", "balance", defArgs s_balance, defBody s_balance, defScope s_balance, [], []⟩
def d_told : He.DefD := ⟨("told", none), "told", "told", defArgs s_told, defBody s_told, defScope s_told, [], []⟩
def d_steps : He.DefD := ⟨("steps", none), "steps", "steps", defArgs s_steps, defBody s_steps, defScope s_steps, [], [("plan", .non)]⟩
def d_factors : He.DefD := ⟨("factors", none), "factors", "factors", defArgs s_factors, defBody s_factors, defScope s_factors, [], [("plan", .non)]⟩
def d_brought : He.DefD := ⟨("brought", none), "brought", "brought", defArgs s_brought, defBody s_brought, defScope s_brought, [], []⟩
def d_developed : He.DefD := ⟨("developed", none), "developed", "developed", defArgs s_developed, defBody s_developed, defScope s_developed, [], [("plan", .non)]⟩
def d_width : He.DefD := ⟨("width", none), "width", "width", defArgs s_width, defBody s_width, defScope s_width, [], []⟩
def d_in_bounds : He.DefD := ⟨("in_bounds", none), "in_bounds", "in_bounds", defArgs s_in_bounds, defBody s_in_bounds, defScope s_in_bounds, [], []⟩
def d_check_rows : He.DefD := ⟨("check_rows", none), "check_rows", "check_rows", defArgs s_check_rows, defBody s_check_rows, defScope s_check_rows, [], []⟩
def d_summed : He.DefD := ⟨("summed", none), "summed", "summed", defArgs s_summed, defBody s_summed, defScope s_summed, [], []⟩
def d_l_flow : He.DefD := ⟨("_law_flow", none), "_law_flow", "_law_flow", defArgs s_l_flow, defBody s_l_flow, defScope s_l_flow, [], []⟩
def d_l_draw : He.DefD := ⟨("_law_draw", none), "_law_draw", "_law_draw", defArgs s_l_draw, defBody s_l_draw, defScope s_l_draw, [], []⟩
def d_l_shape : He.DefD := ⟨("_law_shape", none), "_law_shape", "_law_shape", defArgs s_l_shape, defBody s_l_shape, defScope s_l_shape, [], []⟩
def d_l_copy : He.DefD := ⟨("_law_copy", none), "_law_copy", "_law_copy", defArgs s_l_copy, defBody s_l_copy, defScope s_l_copy, [], []⟩
def d_l_low : He.DefD := ⟨("_law_low", none), "_law_low", "_law_low", defArgs s_l_low, defBody s_l_low, defScope s_l_low, [], []⟩
def d_l_less : He.DefD := ⟨("_law_less", none), "_law_less", "_law_less", defArgs s_l_less, defBody s_l_less, defScope s_l_less, [], []⟩
def d_l_bend : He.DefD := ⟨("_law_bend", none), "_law_bend", "_law_bend", defArgs s_l_bend, defBody s_l_bend, defScope s_l_bend, [], []⟩
def d_l_amount : He.DefD := ⟨("_law_amount", none), "_law_amount", "_law_amount", defArgs s_l_amount, defBody s_l_amount, defScope s_l_amount, [], []⟩
def d_l_wide : He.DefD := ⟨("_law_wide", none), "_law_wide", "_law_wide", defArgs s_l_wide, defBody s_l_wide, defScope s_l_wide, [], []⟩
def d_l_rows : He.DefD := ⟨("_law_rows", none), "_law_rows", "_law_rows", defArgs s_l_rows, defBody s_l_rows, defScope s_l_rows, [], []⟩
def d_l_drawn : He.DefD := ⟨("_law_drawn", none), "_law_drawn", "_law_drawn", defArgs s_l_drawn, defBody s_l_drawn, defScope s_l_drawn, [], []⟩
def d_l_clear : He.DefD := ⟨("_law_clear", none), "_law_clear", "_law_clear", defArgs s_l_clear, defBody s_l_clear, defScope s_l_clear, [], []⟩
def d_l_add : He.DefD := ⟨("_law_add", none), "_law_add", "_law_add", defArgs s_l_add, defBody s_l_add, defScope s_l_add, [], []⟩
def d_l_sums : He.DefD := ⟨("_law_sums", none), "_law_sums", "_law_sums", defArgs s_l_sums, defBody s_l_sums, defScope s_l_sums, [], []⟩
def d_l_total : He.DefD := ⟨("_law_total", none), "_law_total", "_law_total", defArgs s_l_total, defBody s_l_total, defScope s_l_total, [], []⟩
def d_l_balance : He.DefD := ⟨("_law_balance", none), "_law_balance", "_law_balance", defArgs s_l_balance, defBody s_l_balance, defScope s_l_balance, [], []⟩
def d_l_div : He.DefD := ⟨("_law_div", none), "_law_div", "_law_div", defArgs s_l_div, defBody s_l_div, defScope s_l_div, [], []⟩
def d_l_steps : He.DefD := ⟨("_law_steps", none), "_law_steps", "_law_steps", defArgs s_l_steps, defBody s_l_steps, defScope s_l_steps, [], []⟩
def d_l_sure : He.DefD := ⟨("_law_sure", none), "_law_sure", "_law_sure", defArgs s_l_sure, defBody s_l_sure, defScope s_l_sure, [], []⟩
def d_l_first : He.DefD := ⟨("_law_first", none), "_law_first", "_law_first", defArgs s_l_first, defBody s_l_first, defScope s_l_first, [], []⟩
def d_l_great : He.DefD := ⟨("_law_great", none), "_law_great", "_law_great", defArgs s_l_great, defBody s_l_great, defScope s_l_great, [], []⟩
def d_l_any_part : He.DefD := ⟨("_law_any_part", none), "_law_any_part", "_law_any_part", defArgs s_l_any_part, defBody s_l_any_part, defScope s_l_any_part, [], []⟩
def d_l_is_part : He.DefD := ⟨("_law_is_part", none), "_law_is_part", "_law_is_part", defArgs s_l_is_part, defBody s_l_is_part, defScope s_l_is_part, [], []⟩
def d_l_parts : He.DefD := ⟨("_law_parts", none), "_law_parts", "_law_parts", defArgs s_l_parts, defBody s_l_parts, defScope s_l_parts, [], []⟩
def d_l_mul : He.DefD := ⟨("_law_mul", none), "_law_mul", "_law_mul", defArgs s_l_mul, defBody s_l_mul, defScope s_l_mul, [], []⟩
def d_l_same : He.DefD := ⟨("_law_same", none), "_law_same", "_law_same", defArgs s_l_same, defBody s_l_same, defScope s_l_same, [], []⟩
def d_law : He.DefD := ⟨("law", none), "law", "law", defArgs s_law, defBody s_law, defScope s_law, [], []⟩
def d_Winit : He.DefD := ⟨("Wedge", some "__init__"), "__init__", "Wedge.__init__", defArgs s_Winit, defBody s_Winit, defScope s_Winit, [], []⟩
def d_Wrows : He.DefD := ⟨("Wedge", some "rows"), "rows", "Wedge.rows", defArgs s_Wrows, defBody s_Wrows, defScope s_Wrows, [], []⟩
def d_Wsums : He.DefD := ⟨("Wedge", some "sums"), "sums", "Wedge.sums", defArgs s_Wsums, defBody s_Wsums, defScope s_Wsums, [], []⟩
def d_Wjoined : He.DefD := ⟨("Wedge", some "joined"), "joined", "Wedge.joined", defArgs s_Wjoined, defBody s_Wjoined, defScope s_Wjoined, [], []⟩
def d_Wscaled : He.DefD := ⟨("Wedge", some "scaled"), "scaled", "Wedge.scaled", defArgs s_Wscaled, defBody s_Wscaled, defScope s_Wscaled, [], []⟩
def fn0 : List He.DefD := [d_is_whole, d_common, d_part, d_is_part, d_plus, d_times, d_over, d_total, d_counted, d_balance, d_told, d_steps, d_factors, d_brought, d_developed, d_width, d_in_bounds, d_check_rows, d_summed, d_l_flow]
def fn1 : List He.DefD := [d_l_draw, d_l_shape, d_l_copy, d_l_low, d_l_less, d_l_bend, d_l_amount, d_l_wide, d_l_rows, d_l_drawn, d_l_clear, d_l_add, d_l_sums, d_l_total, d_l_balance, d_l_div, d_l_steps, d_l_sure, d_l_first, d_l_great]
def fn2 : List He.DefD := [d_l_any_part, d_l_is_part, d_l_parts, d_l_mul, d_l_same, d_law, d_Winit, d_Wrows, d_Wsums, d_Wjoined, d_Wscaled]
def fn : List He.DefD := fn0 ++ fn1 ++ fn2
def fa0 : List He.Fa := [.glo "is_whole", .glo "common", .glo "part", .glo "is_part", .glo "plus", .glo "times", .glo "over", .glo "total", .glo "counted", .glo "balance", .glo "told", .glo "steps", .glo "factors", .glo "brought", .glo "developed", .glo "width", .glo "in_bounds", .glo "check_rows", .glo "summed", .glo "_law_flow"]
def fa1 : List He.Fa := [.glo "_law_draw", .glo "_law_shape", .glo "_law_copy", .glo "_law_low", .glo "_law_less", .glo "_law_bend", .glo "_law_amount", .glo "_law_wide", .glo "_law_rows", .glo "_law_drawn", .glo "_law_clear", .glo "_law_add", .glo "_law_sums", .glo "_law_total", .glo "_law_balance", .glo "_law_div", .glo "_law_steps", .glo "_law_sure", .glo "_law_first", .glo "_law_great"]
def fa2 : List He.Fa := [.glo "_law_any_part", .glo "_law_is_part", .glo "_law_parts", .glo "_law_mul", .glo "_law_same", .glo "law", .glo "Wedge", .glo "NOUGHT", .glo "ONE", .free "isinstance", .free "int", .free "bool", .free "abs", .free "tuple", .free "list", .free "str", .free "len", .free "range", .free "enumerate", .free "zip"]
def fa3 : List He.Fa := [.free "all", .free "min", .cls "Wedge", .noat "Wedge" "first", .noat "Wedge" "depth", .noat "Wedge" "look", .noat "Wedge" "lines", .meth "Wedge" "rows", .meth "Wedge" "sums", .meth "Wedge" "joined", .meth "Wedge" "scaled", .mkr "Wedge", .int "MOST_YEARS" 10, .int "MOST_DEPTH" 6, .int "LAST_YEAR" 9999]
def fa : List He.Fa := fa0 ++ fa1 ++ fa2 ++ fa3
def ex (K : PySem.W.Frag) : Bool := He.tupB K "NOUGHT" [.int 0, .int 1] && He.tupB K "ONE" [.int 1, .int 1]
def loose0 : List PySem.Str := ["_wall", "LagError", "BadPart", "Unlike", "BadWedge", "NoFactor", "NoCell", "NoShare", "NOUGHT", "ONE", "SIGNS", "is_whole", "common", "part", "is_part", "plus", "times", "over", "total", "check_base"]
def loose1 : List PySem.Str := ["figures", "shown_part", "counted", "balance", "told", "steps", "factors", "brought", "developed", "MOST_YEARS", "MOST_DEPTH", "LAST_YEAR", "width", "in_bounds", "check_rows", "summed", "Wedge", "_law_flow", "_law_draw", "_law_shape"]
def loose2 : List PySem.Str := ["_law_copy", "_law_low", "_law_less", "_law_bend", "_law_amount", "_law_wide", "_law_rows", "_law_drawn", "_law_clear", "_law_add", "_law_sums", "_law_total", "_law_balance", "_law_div", "_law_steps", "_law_sure", "_law_first", "_law_great", "_law_any_part", "_law_is_part"]
def loose3 : List PySem.Str := ["_law_parts", "_law_mul", "_law_same"]
def loose : List PySem.Str := loose0 ++ loose1 ++ loose2 ++ loose3
/-! ### the head: facts by names, the run -/
abbrev R : PySem.W.OpenRow := PySem.W.OpenLaw.row PySem.Challenge.rw_lagwedge_k29_whole_tables_scale
abbrev Al : Type := He.AlD × Bool
def obsK (n : Nat) (g : Addr → Option Obj) : Al := (He.obsD fa fn (He.frG g (He.asD g n)), ex (He.frG g (He.asD g n)))
def hookK (n : Nat) : PySem.W.Hook where
  α := Al
  obs := fun s => obsK n s.heap.get?
  val := fun _ => (He.valD fn, true)
  says := fun _ h => ∃ K : PySem.W.Frag, K.In h ∧ He.SaysD fa fn K ∧ ex K = true
  of := fun _ _ e => ⟨_, He.frG_in, congrArg (fun z : Al => z.1) e, congrArg (fun z : Al => z.2) e⟩
  keeps := fun _ _ _ ⟨K, hK, c⟩ k => ⟨K, PySem.W.Frag.In.keeps hK k, c⟩
abbrev hk : PySem.W.Hook := hookK 5
def ob (s : PySem.W.SharedT) : Al := obsK 5 (HandSHeadRun.getT s)
theorem ob_eq (s : PySem.W.SharedT) : ob s = hk.obs s.abs := by
  have e : HandSHeadRun.getT s = s.abs.heap.get? := funext (HandSHeadRun.getT_eq s)
  unfold ob
  rw [e] <;> rfl
abbrev qv : Program := PySem.W.view R.prog [69]
theorem run (w : World) : HandSHeadRun.RunEq R qv hk ob 6000 loose w := by
  intro os
  kernel_rfl
end K29
set_option Elab.async false
set_option linter.all false
set_option maxRecDepth 100000
set_option maxHeartbeats 4000000
/-! The layer for this claim: what is read (fractions, rows, tables), what a draw may change (the flow), comprehensions, calls. -/
namespace K29
open PySem PySem.Spec PyProof.Rows L2
/-! ### what stays -/
theorem same_new {H : Hp} {p : Addr} {o : HO} (hp : H p = none) : Same H (upd H p o) := fun b u e => by
  rw [upd_ne (ne_of_none e hp)]
  exact e
theorem same_mut {H H' : Hp} {p : Addr} {o : HO} (s : Same H H') (hp : H p = none) : Same H (upd H' p o) := fun b u e => by
  rw [upd_ne (ne_of_none e hp)]
  exact s b u e
theorem same_rd {H H' : Hp} {a : Addr} {u : HO} (e : Same H H') (h : Rd H a u) : Rd H' a u := by
  rcases h with h | ⟨o, h⟩
  · exact .inl (e _ _ h)
  · exact .inr ⟨o, e _ _ h⟩
theorem same_l {K : PySem.W.Frag} {H H' : Hp} {a : Addr} {xs : List V} (e : Same H H') (h : SqL K H a xs) : SqL K H' a xs := by
  rcases h with h | h
  · exact .inl (same_rd e h)
  · exact .inr h
theorem same_t {K : PySem.W.Frag} {H H' : Hp} {a : Addr} {xs : List V} (e : Same H H') (h : SqT K H a xs) : SqT K H' a xs := by
  rcases h with h | h
  · exact .inl (same_rd e h)
  · exact .inr h
/-- the flow that the law draws from: its list at f, the script's numbers at L -/
structure Flw where
  f : Addr
  L : Addr
  ns : List Int
def FlowAt (K : PySem.W.Frag) (H : Hp) (F : Flw) : Prop := ∃ a b c : Int, H F.f = some (.lst [.ref F.L, .int a, .int b, .int c]) ∧ F.L ≠ F.f ∧ SqL K H F.L (F.ns.map V.int) ∧ F.ns.length ≤ 63 ∧ 0 ≤ a ∧ 0 ≤ b ∧ 0 ≤ c ∧ c < 2305843009213693951
def Fl (K : PySem.W.Frag) (m : Option Flw) (H : Hp) : Prop := ∀ F, m = some F → FlowAt K H F
/-- all but the flow's list is as it was -/
def Kp (m : Option Flw) (H H' : Hp) : Prop := ∀ b o, (∀ F, m = some F → b ≠ F.f) → H b = some o → H' b = some o
structure Go (K : PySem.W.Frag) (m : Option Flw) (H H' : Hp) : Prop where
  fl0 : Fl K m H
  kp : Kp m H H'
  fl1 : Fl K m H'
section
variable {K : PySem.W.Frag} {m : Option Flw} {H H' H1 H2 : Hp} {p : Addr} {o : HO} {F : Flw}
theorem Fl.none : Fl K none H := fun F e => by cases e
theorem Fl.some (h : FlowAt K H F) : Fl K (some F) H := fun G e => by
  cases e
  exact h
theorem Fl.at_ (h : Fl K (Option.some F) H) : FlowAt K H F := h F rfl
theorem FlowAt.same (e : Same H H') (h : FlowAt K H F) : FlowAt K H' F := by
  obtain ⟨a, b, c, h1, h2, h3, h4⟩ := h
  exact ⟨a, b, c, e _ _ h1, h2, same_l e h3, h4⟩
theorem Fl.same (e : Same H H') (h : Fl K m H) : Fl K m H' := fun F q => (h F q).same e
theorem Go.refl (h : Fl K m H) : Go K m H H := ⟨h, fun _ _ _ e => e, h⟩
theorem Go.trans (a : Go K m H H1) (b : Go K m H1 H2) : Go K m H H2 := ⟨a.fl0, fun c u n e => b.kp c u n (a.kp c u n e), b.fl1⟩
theorem Go.same (h : Fl K m H) (e : Same H H') : Go K m H H' := ⟨h, fun b u _ q => e b u q, h.same e⟩
theorem Go.to (g : Go K m H H1) (e : Same H1 H2) : Go K m H H2 := g.trans (Go.same g.fl1 e)
theorem Go.new (h : Fl K m H) (hp : H p = Option.none) : Go K m H (upd H p o) := Go.same h (same_new hp)
theorem Go.mut (g : Go K m H H') (hp : H p = Option.none) : Go K m H (upd H' p o) := by
  refine ⟨g.fl0, fun b u n e => ?_, fun F q => ?_⟩
  · rw [upd_ne (ne_of_none e hp)]
    exact g.kp b u n e
  · obtain ⟨a0, b0, c0, g1, _, g3, _⟩ := g.fl0 F q
    obtain ⟨a, b, c, h1, h2, h3, h4⟩ := g.fl1 F q
    have n1 : F.f ≠ p := ne_of_none g1 hp
    refine ⟨a, b, c, (by rw [upd_ne n1]; exact h1), h2, ?_, h4⟩
    rcases g3 with (z | ⟨u, z⟩) | z
    · have n2 : F.L ≠ p := ne_of_none z hp
      rcases h3 with (y | ⟨u, y⟩) | y
      · exact .inl (.inl (by rw [upd_ne n2]; exact y))
      · exact .inl (.inr ⟨u, by rw [upd_ne n2]; exact y⟩)
      · exact .inr y
    · have n2 : F.L ≠ p := ne_of_none z hp
      rcases h3 with (y | ⟨v, y⟩) | y
      · exact .inl (.inl (by rw [upd_ne n2]; exact y))
      · exact .inl (.inr ⟨v, by rw [upd_ne n2]; exact y⟩)
      · exact .inr y
    · exact .inr z
theorem Kp.none_same (h : Kp Option.none H H') : Same H H' := fun b u e => h b u (fun F q => by cases q) e
theorem Go.toSame (g : Go K Option.none H H') : Same H H' := g.kp.none_same
/-- an object that is no list of the flow's -/
theorem Go.at_ (g : Go K m H H') (h : H p = Option.some o) (n : ∀ xs, o ≠ .lst xs) : H' p = Option.some o := g.kp p o (fun F q e => by
  obtain ⟨a, b, c, h1, _⟩ := g.fl0 F q
  rw [e, h1] at h
  exact n _ (Option.some.inj h).symm) h
theorem Go.free (g : Go K m H H') (h : H' p = Option.none) : H p = Option.none := by
  cases q : H p with
  | none => rfl
  | some u =>
    by_cases e : ∃ F, m = Option.some F ∧ p = F.f
    · obtain ⟨F, e1, e2⟩ := e
      obtain ⟨a, b, c, h1, _⟩ := g.fl1 F e1
      rw [e2, h1] at h
      cases h
    · rw [g.kp p u (fun F e1 e2 => e ⟨F, e1, e2⟩) q] at h
      cases h
theorem Go.tup {a : Addr} {xs : List V} (g : Go K m H H') (h : SqT K H a xs) : SqT K H' a xs := by
  rcases h with (h | ⟨u, h⟩) | h
  · exact .inl (.inl (g.at_ h (fun _ z => by cases z)))
  · exact .inl (.inr ⟨u, g.at_ h (fun _ z => by cases z)⟩)
  · exact .inr h
/-- a list, not the flow's -/
theorem Go.lst {a : Addr} {xs : List V} (g : Go K m H H') (h : SqL K H a xs) (n : ∀ F, m = Option.some F → a ≠ F.f) : SqL K H' a xs := by
  rcases h with (h | ⟨u, h⟩) | h
  · exact .inl (.inl (g.kp _ _ n h))
  · exact .inl (.inr ⟨u, g.kp _ _ n h⟩)
  · exact .inr h
/-- a list of things at addresses is not the flow's -/
theorem Go.refs {a : Addr} {xs : List V} (g : Go K m H H') (h : SqL K H a xs) (n : ∀ (i : Nat) x, xs[i]? = Option.some x → ∃ p, x = V.ref p) : SqL K H' a xs := by
  by_cases e : ∃ F, m = Option.some F ∧ a = F.f
  · obtain ⟨F, e1, e2⟩ := e
    obtain ⟨u, v, w, h1, _⟩ := g.fl0 F e1
    rcases h with (h | ⟨y, h⟩) | h
    · rw [e2, h1] at h
      have e3 : xs = [V.ref F.L, .int u, .int v, .int w] := by
        have q := Option.some.inj h
        injection q with q
        exact q.symm
      obtain ⟨q, hq⟩ := n 1 (.int u) (by rw [e3]; rfl)
      cases hq
    · rw [e2, h1] at h
      have q := Option.some.inj h
      cases q
    · exact .inr h
  · exact g.lst h fun F e1 e2 => e ⟨F, e1, e2⟩
end
/-! ### what is read -/
/-- a fraction at v -/
def IsP (K : PySem.W.Frag) (H : Hp) (v : V) (q : Rat) : Prop := ∃ a, v = .ref a ∧ SqT K H a [.int q.num, .int (q.den : Int)]
/-- a list of n things at v, the i-th as R says -/
def IsL (K : PySem.W.Frag) (H : Hp) (v : V) (n : Nat) (R : Nat → V → Prop) : Prop := ∃ (a : Addr) (xs : List V), v = .ref a ∧ SqL K H a xs ∧ xs.length = n ∧ ∀ (i : Nat) x, xs[i]? = some x → R i x
def IsRow (K : PySem.W.Frag) (H : Hp) (v : V) (n : Nat) (f : Nat → Rat) : Prop := IsL K H v n fun i x => IsP K H x (f i)
def IsTab (K : PySem.W.Frag) (H : Hp) (v : V) (n : Nat) (wd : Nat → Nat) (W : Nat → Nat → Rat) : Prop := IsL K H v n fun i x => IsRow K H x (wd i) (W i)
section
variable {K : PySem.W.Frag} {m : Option Flw} {H H' : Hp} {v : V} {q : Rat} {n : Nat} {f : Nat → Rat} {wd : Nat → Nat} {W : Nat → Nat → Rat}
theorem IsP.go (g : Go K m H H') (h : IsP K H v q) : IsP K H' v q := by
  obtain ⟨a, e, h⟩ := h
  exact ⟨a, e, g.tup h⟩
theorem IsP.ref (h : IsP K H v q) : ∃ p, v = V.ref p := by
  obtain ⟨a, e, _⟩ := h
  exact ⟨a, e⟩
theorem IsP.new {p : Addr} (q : Rat) : IsP K (upd H p (.tup [.int q.num, .int (q.den : Int)])) (.ref p) q := ⟨p, rfl, SqT.of upd_same⟩
theorem IsP.eq {r : Rat} (h : IsP K H v q) (e : q = r) : IsP K H v r := by
  rw [← e]
  exact h
theorem IsL.go {R R' : Nat → V → Prop} (g : Go K m H H') (h : IsL K H v n R) (hr : ∀ i x, R i x → ∃ p, x = V.ref p) (hm : ∀ i x, R i x → R' i x) : IsL K H' v n R' := by
  obtain ⟨a, xs, e, h1, h2, h3⟩ := h
  exact ⟨a, xs, e, g.refs h1 (fun i x q => hr i x (h3 i x q)), h2, fun i x q => hm i x (h3 i x q)⟩
theorem IsL.ref {R : Nat → V → Prop} (h : IsL K H v n R) : ∃ p, v = V.ref p := by
  obtain ⟨a, _, e, _⟩ := h
  exact ⟨a, e⟩
theorem IsRow.go (g : Go K m H H') (h : IsRow K H v n f) : IsRow K H' v n f := IsL.go g h (fun _ _ z => z.ref) fun _ _ z => z.go g
theorem IsTab.go (g : Go K m H H') (h : IsTab K H v n wd W) : IsTab K H' v n wd W := IsL.go g h (fun _ _ z => IsL.ref z) fun _ _ z => IsRow.go g z
theorem go_same (e : Same H H') : Go K none H H' := Go.same Fl.none e
theorem IsP.same (e : Same H H') (h : IsP K H v q) : IsP K H' v q := h.go (go_same e)
theorem IsRow.same (e : Same H H') (h : IsRow K H v n f) : IsRow K H' v n f := h.go (go_same e)
theorem IsTab.same (e : Same H H') (h : IsTab K H v n wd W) : IsTab K H' v n wd W := h.go (go_same e)
theorem IsL.mono {R R' : Nat → V → Prop} (h : IsL K H v n R) (hm : ∀ i x, i < n → R i x → R' i x) : IsL K H v n R' := by
  obtain ⟨a, xs, e, h1, h2, h3⟩ := h
  refine ⟨a, xs, e, h1, h2, fun i x q => hm i x ?_ (h3 i x q)⟩
  rw [← h2]
  exact (List.getElem?_eq_some_iff.mp q).1
theorem IsRow.fn {g : Nat → Rat} (h : IsRow K H v n f) (e : ∀ i, i < n → f i = g i) : IsRow K H v n g := IsL.mono h fun i x hi z => z.eq (e i hi)
theorem IsTab.fn {U : Nat → Nat → Rat} (h : IsTab K H v n wd W) (e : ∀ i j, i < n → j < wd i → W i j = U i j) : IsTab K H v n wd U := IsL.mono h fun i x hi z => IsRow.fn z fun j hj => e i j hi hj
/-- a list's change leaves the fractions, and the rows that stand elsewhere -/
theorem mut_t {a D : Addr} {xs ys zs : List V} (hD : H D = some (.lst xs)) (h : SqT K H a zs) : SqT K (upd H D (.lst ys)) a zs := by
  rcases h with (h | ⟨u, h⟩) | h
  · exact .inl (.inl (by rw [upd_ne (ne_of h hD (by intro z; cases z))]; exact h))
  · exact .inl (.inr ⟨u, by rw [upd_ne (ne_of h hD (by intro z; cases z))]; exact h⟩)
  · exact .inr h
theorem mut_l {a D : Addr} {o : HO} {zs : List V} (n : a ≠ D) (h : SqL K H a zs) : SqL K (upd H D o) a zs := by
  rcases h with (h | ⟨u, h⟩) | h
  · exact .inl (.inl (by rw [upd_ne n]; exact h))
  · exact .inl (.inr ⟨u, by rw [upd_ne n]; exact h⟩)
  · exact .inr h
theorem IsP.mutL {D : Addr} {xs ys : List V} (hD : H D = some (.lst xs)) (h : IsP K H v q) : IsP K (upd H D (.lst ys)) v q := by
  obtain ⟨a, e, h⟩ := h
  exact ⟨a, e, mut_t hD h⟩
theorem IsRow.mutL {D : Addr} {xs ys : List V} (hD : H D = some (.lst xs)) (n0 : v ≠ V.ref D) (h : IsRow K H v n f) : IsRow K (upd H D (.lst ys)) v n f := by
  obtain ⟨a, zs, e, h1, h2, h3⟩ := h
  refine ⟨a, zs, e, mut_l (fun z => n0 (by rw [e, z])) h1, h2, fun i x q => (h3 i x q).mutL hD⟩
theorem ty_l {a : Addr} {xs : List V} (h : SqL K H a xs) : TyX K H (.ref a) (.type "list") := by
  rcases h with (h | ⟨u, h⟩) | ⟨o, its, k, h1, h2, _⟩
  · exact .base (.lst h)
  · exact .base (.frz h)
  · exact .kList h1 h2
theorem ty_t {a : Addr} {xs : List V} (h : SqT K H a xs) : TyX K H (.ref a) (.type "tuple") := by
  rcases h with (h | ⟨u, h⟩) | ⟨o, its, k, h1, h2, _⟩
  · exact .base (.tup h)
  · exact .fTuple h
  · exact .kTuple h1 h2
end
/-! ### operators -/
/-- // by any divisor but 0, below 2 ^ 9000 in size -/
def CDivX (_ j : Int) : Prop := j ≠ 0 ∧ j.natAbs.log2 < 9000
theorem op_fdivX {X : Cx} : OpR X (binaryOp .FloorDiv) (rI CDivX fun i j => .int (i.fdiv j)) := opI fun _ _ _ _ _ _ _ hc q => floordiv_int hc.1 q (.inl (PyProof.noPylong_of_log2 hc.2))
theorem divX {i j : Int} {b : Nat} (h : j ≠ 0) (hb : j.natAbs < 2 ^ b) (h0 : 0 < b) (h9 : b ≤ 9000) : CDivX i j := ⟨h, Nat.lt_of_lt_of_le (PySem.Flt.log2_lt_of h0 hb) h9⟩
theorem mulX {i j : Int} {a b : Nat} (ha : i.natAbs < 2 ^ a) (hb : j.natAbs < 2 ^ b) (h0 : 0 < a) (h1 : 0 < b) (h : a + b ≤ 1000000) : CMulW i j := wide_mul ha hb h0 h1 h
/-! ### rules with the written part named (inside a comprehension's block it must not hang on the block) -/
def rListK (K : PySem.W.Frag) : List V → Hp → VK → Prop := fun xs H Q => ∃ p ys, xs = [.ref p] ∧ (SqL K H p ys ∨ SqT K H p ys) ∧ ∀ l, H l = none → Q (.ref l) (upd H l (.lst ys))
def rLenK (K : PySem.W.Frag) : List V → Hp → VK → Prop := fun xs H Q => ∃ p ys, xs = [.ref p] ∧ (SqL K H p ys ∨ SqT K H p ys) ∧ Q (.int ys.length) H
section
variable {X : Cx} {K : PySem.W.Frag} {tg l : Expr} {tl : TE}
theorem call_listK (e : X.K = K) : CallR X (.type "list") (rListK K) := by
  subst e
  exact call_list_of
theorem call_lenK (e : X.K = K) : CallR X (.builtin "len") (rLenK K) := by
  subst e
  exact call_len_seq
theorem call_isiK2 (e : X.K = K) : CallR X (.builtin "isinstance") (rIsi K) := by
  subst e
  exact call_isi
theorem call_allK (e : X.K = K) (hc : X.calm = true) : CallR X (.builtin "all") (rAll K) := by
  subst e
  exact cr_all hc
theorem ix_listK (e : X.K = K) : IxR X (rIxL K) := by
  subst e
  exact ix_list
theorem ix_tupK (e : X.K = K) : IxR X (rIxT K) := by
  subst e
  exact ix_tup
theorem pi_listK (e : X.K = K) (hl : PE X l tl) : PI X tg l (iList K tl) := by
  subst e
  exact pi_list hl
end
section
variable {X : Cx} {K : PySem.W.Frag} {es : List Expr} {k : Nat} {pos : Pos} {t : TGs} {n : Nat}
theorem pg_tupK (e : X.K = K) (hc : X.calm = true) (h : PGs X es t) (hn : (assignEach es X.env).length = n := by rfl) (hst : (assignEach es X.env).findIdx? (·.1) = none := by rfl) : PG X (.Tuple es k pos) (gTup K n t) := by
  subst e
  exact pg_tup hc h hn hst
/-- an expression that the proof never comes to -/
theorem pe_not_here {e : Expr} : PE X e (fun _ _ _ => False) := ⟨fun _ _ _ _ _ _ h => h.elim⟩
end
/-! ### a word between a statement and the rest -/
def tMid (t u : TS) : TS := fun D σ H => ∃ M : L2.St → Hp → Prop, t { D with nx := M } σ H ∧ ∀ σ' H', M σ' H' → u D σ' H'
theorem pss_mid {X : Cx} {st : Stmt} {rest : List Stmt} {t u : TS} (a : PS X st t) (b : PSs X rest u) : PSs X (st :: rest) (tMid t u) := ⟨fun pins s σ H D I ⟨M, hm, hu⟩ => wpAny_execs_cons (thn (a.run pins s σ H { D with nx := M } I hm) fun f s1 q => by
  cases f with
  | next =>
    obtain ⟨σ', H', I', q⟩ := q
    exact b.run pins s1 σ' H' D I' (hu σ' H' q)
  | ret v => exact q
  | brk => exact q
  | cont => exact q)⟩
/-! ### calls -/
/-- the def that the module's name x holds keeps its promise -/
def CallOk (P : Program) (w : World) (K : PySem.W.Frag) (mg : Str → Option Value) (base : Heap) (k : Nat) (x : Str) (ps : List Str) (dvs : List V) (sp : Sp) : Prop :=
  ∃ (f : Addr) (fd : FuncData) (ds : List Value), mg x = some (.ref f) ∧ PySem.W.keepIn K (.ref f) = true ∧ FnOk P w K mg base CX0 k f fd ps sp ∧ Binds K fd ps ds ∧ Vals dvs ds
section
variable {X : Cx} {k : Nat} {x : Str} {ps : List Str} {dvs : List V} {sp : Sp} {e : Expr} {es : List Expr} {t : TA} {p pos : Pos}
theorem pe_c (C : CallOk X.prog X.w X.K X.mg X.base k x ps dvs sp) (hr : Room k X.A) (hg : Gl X x) (ha : PA X (e :: es) t) (hdb : (x == ("__debug__" : Str)) = false := by decide)
    (he : starEach (e :: es) X.env = (false, eval e X.env) :: starEach es X.env := by rfl) (hpl : (backTo pos (starEach es X.env)).any (·.1) = false := by rfl) : PE X (.Call (.Name x p) (e :: es) [] pos) (tCall sp dvs E0 t) := by
  obtain ⟨f, fd, ds, h1, h2, h3, h4, h5⟩ := C
  exact pe_call h3 hr hg h1 h2 h4 h5 pass0 ha hdb he hpl
end
/-- .. called with keywords behind n values -/
def KCallOk (P : Program) (w : World) (K : PySem.W.Frag) (mg : Str → Option Value) (base : Heap) (k : Nat) (x : Str) (ps : List Str) (n : Nat) (ks : List Str) (sp : Sp) : Prop :=
  ∃ (f : Addr) (fd : FuncData), mg x = some (.ref f) ∧ PySem.W.keepIn K (.ref f) = true ∧ FnOk P w K mg base CX0 k f fd ps sp ∧ KBn K fd ps n ks (fun us ws => us ++ ws) (fun vs zs => vs ++ zs)
theorem pe_k {X : Cx} {k n : Nat} {x : Str} {ps ks : List Str} {sp : Sp} {e : Expr} {es : List Expr} {kws : List Keyword} {t tk : TA} {p pos : Pos} (C : KCallOk X.prog X.w X.K X.mg X.base k x ps n ks sp) (hr : Room k X.A) (hg : Gl X x) (ha : PA X (e :: es) t) (hkw : PK X kws tk)
    (hall : (backToKw pos (keywordEach kws X.env)).all (·.1.isSome) = true := by rfl) (hks : (backToKw pos (keywordEach kws X.env)).filterMap (·.1) = ks := by rfl)
    (hdb : (x == ("__debug__" : Str)) = false := by decide) (he : starEach (e :: es) X.env = (false, eval e X.env) :: starEach es X.env := by rfl)
    (hpl : ((backTo pos (starEach (e :: es) X.env)).any (·.1) || (backToKw pos (keywordEach kws X.env)).any (·.1.isNone)) = false := by rfl) : PE X (.Call (.Name x p) (e :: es) kws pos) (tCallN n ks.length sp (fun vs zs => vs ++ zs) E0 t tk) := by
  obtain ⟨f, fd, h1, h2, h3, h4⟩ := C
  exact pe_callN h3 hr hg h1 h2 h4 pass0 ha hkw hall hks hdb he hpl
theorem kbn1 {K : PySem.W.Frag} {x qual : Str} {params : Arguments} {body : List Stmt} {scope : Scope} {kws : List (Str × V)} {f : Addr} {fd : FuncData} {p q : Str} (F : FunD K x qual params body scope [] kws f fd)
    (h : ∀ (kV doc pm : Value) (an : Option Addr) (cdv ct u w : Value), bindArgs (PySem.W.fnOf x qual params body scope .none kV doc pm an cdv ct) ⟨[u], [q].zip [w]⟩ = pure ([p, q].zip [u, w])) : KBn K fd [p, q] 1 [q] (fun us ws => us ++ ws) (fun vs zs => vs ++ zs) := by
  obtain ⟨oc, od, dV, kV, doc, pm, an, cdv, ct, osl, rfl, lk, hcd, hD, hK⟩ := F.ex
  rcases hD with ⟨_, rfl⟩ | ⟨e, _⟩
  · exact ⟨fun s us ws _ l1 l2 => match us, ws, l1, l2 with | [u], [w], _, _ => .of_eq (h kV doc pm an cdv ct u w), fun r1 r2 => r1.append r2⟩
  · exact absurd rfl e
/-- a method -/
def MethOk (P : Program) (w : World) (K : PySem.W.Frag) (mg : Str → Option Value) (base : Heap) (k : Nat) (C : Addr) (x : Str) (ps : List Str) (sp : Sp) : Prop :=
  ∃ (f : Addr) (fd : FuncData), Meth K C x f ∧ FnOk P w K mg base CX0 k f fd ps sp ∧ Binds K fd ps []
section
variable {X : Cx} {k : Nat} {x : Str} {ps : List Str} {sp : Sp} {o e : Expr} {es : List Expr} {t : TA} {ta : TE} {apos pos : Pos} {C : Addr}
theorem pe_m {pl : Sem Bool} (he : PE X o ta) (c : Cls X.K C) (M : MethOk X.prog X.w X.K X.mg X.base k C x ps sp) (hr : Room k X.A) (ha : PA X (e :: es) t)
    (hst : starEach (e :: es) X.env = (false, eval e X.env) :: starEach es X.env := by rfl) (hpl : (backTo pos (starEach es X.env)).any (·.1) = false := by rfl)
    (ht : eval (.Call (.Attribute o x apos) (e :: es) [] pos) X.env = (do
      let ov ← eval o X.env
      standAt apos.atName
      let (f, first) ← holding [ov] (getMethod ov x pl)
      callWith pos f first (backTo pos (starEach (e :: es) X.env)) (backToKw pos (keywordEach [] X.env))) := by rfl) :
    PE X (.Call (.Attribute o x apos) (e :: es) [] pos) (tMeth C x sp [] E0 ta t) := by
  obtain ⟨f, fd, h1, h2, h3⟩ := M
  exact pe_meth (pl := pl) he c h1 h2 hr h3 .nil pass0 ha hst hpl ht
theorem pe_m0 {pl : Sem Bool} (he : PE X o ta) (c : Cls X.K C) (M : MethOk X.prog X.w X.K X.mg X.base k C x ps sp) (hr : Room k X.A)
    (ht : eval (.Call (.Attribute o x apos) [] [] pos) X.env = (do
      let ov ← eval o X.env
      standAt apos.atName
      let (f, first) ← holding [ov] (getMethod ov x pl)
      callWith pos f first (backTo pos (starEach [] X.env)) (backToKw pos (keywordEach [] X.env))) := by rfl) :
    PE X (.Call (.Attribute o x apos) [] [] pos) (tMeth C x sp [] E0 ta tNil) := by
  obtain ⟨f, fd, h1, h2, h3⟩ := M
  exact pe_meth0 (pl := pl) he c h1 h2 hr h3 .nil pass0 ht
end
/-- a class's making by its __init__ -/
def MakeOk (P : Program) (w : World) (K : PySem.W.Frag) (mg : Str → Option Value) (base : Heap) (k : Nat) (C : Addr) (ps : List Str) (sp : Sp) : Prop :=
  ∃ (f : Addr) (fd : FuncData), Mk K C f ∧ FnOk P w K mg base CX0 k f fd ps sp ∧ Binds K fd ps []
theorem pe_mk {X : Cx} {k : Nat} {x : Str} {ps : List Str} {sp : Sp} {e : Expr} {es : List Expr} {t : TA} {p pos : Pos} {C : Addr} (M : MakeOk X.prog X.w X.K X.mg X.base k C ps sp) (hr : Room (k + 1) X.A) (hg : Gl X x) (hm : X.mg x = some (.ref C)) (ha : PA X (e :: es) t)
    (hdb : (x == ("__debug__" : Str)) = false := by decide) (he : starEach (e :: es) X.env = (false, eval e X.env) :: starEach es X.env := by rfl) (hpl : (backTo pos (starEach es X.env)).any (·.1) = false := by rfl) :
    PE X (.Call (.Name x p) (e :: es) [] pos) (tMake C sp [] E0 t) := by
  obtain ⟨f, fd, h1, h2, h3⟩ := M
  exact pe_make h1 h2 hr hg hm h3 .nil pass0 ha hdb he hpl
/-! ### comprehensions without tests, loops: over what walks -/
section
variable {K : PySem.W.Frag} {m : Option Flw} {J : It} {n : Nat} {G : Hp → Prop} {Y : Nat → Hp → V → Hp → Prop} {g : TG} {te : TE} {vs : List Nat} {σ : L2.St} {H1 : Hp} {D : Addr} {Qd : Hp → Prop}
/-- each turn makes one thing that R tells; all else goes as Go tells -/
theorem lc_go2 (w : Walk J n G Y) (hD : H1 D = none) (fl : Fl K m H1) (hn : n ≤ 1000) (hY : ∀ i H x H', Y i H x H' → Same H H') (R : Nat → V → Hp → Prop) (hR : ∀ i y H H', Go K m H H' → R i y H → R i y H')
    (hU : ∀ i y H xs ys, H D = some (.lst xs) → R i y H → R i y (upd H D (.lst ys))) (hG : ∀ H, Go K m H1 H → G H)
    (hs : ∀ i x H H' xs, i < n → Go K m H1 H → Y i H x H' → H' D = some (.lst xs) → ∀ Qe : VK, (∀ y H4, Go K m H' H4 → R i y H4 → Qe y H4) → g x (wipe σ vs) H' fun σ2 H2 => wipe σ2 vs = wipe σ vs ∧ te σ2 H2 Qe)
    (hd : ∀ H ys, Go K m H1 H → H D = some (.lst ys) → ys.length = n → (∀ (i : Nat) y, ys[i]? = some y → R i y H) → Qd H) :
    ∃ W : Nat → Nat → Hp → Prop, (∃ m, W 0 m (upd H1 D (.lst []))) ∧ ∀ i m H, W i m H →
      (J.stop i H ∧ Qd H) ∨ (J.go i H ∧ ∃ Nx : Hp → Prop, (∀ H', Nx H' → ∃ m', m' < m ∧ W (i + 1) m' H') ∧ ∀ x H', J.yld i H x H' → g x (wipe σ vs) H' fun σ2 H2 => wipe σ2 vs = wipe σ vs ∧ tYes σ2 H2 fun b H3 =>
        if b = true then te σ2 H3 fun y H4 => ∃ acc, H4 D = some (.lst acc) ∧ acc.length < sizeLine ∧ Nx (upd H4 D (.lst (acc ++ [y]))) else Nx H3) := by
  have dn : ∀ F, m = some F → D ≠ F.f := fun F q e => by
    obtain ⟨a, b, c, h1, _⟩ := fl F q
    rw [e, h1] at hD
    cases hD
  refine lc_it w (tt := tYes) (fun i H => Go K m H1 H ∧ ∃ ys, H D = some (.lst ys) ∧ ys.length = i ∧ ∀ (j : Nat) y, ys[j]? = some y → R j y H)
    ⟨(Go.refl fl).mut hD, [], upd_same, rfl, fun j y e => by cases e⟩ (fun i H _ p => hG H p.1) (fun i x H H' hi p yy => ?_) (fun H p => ?_)
  · obtain ⟨p1, ys, p2, p3, p4⟩ := p
    have hx := hs i x H H' ys hi p1 yy (hY i H x H' yy D _ p2) (fun y H4 => ∃ acc, H4 D = some (.lst acc) ∧ acc.length < sizeLine ∧ Go K m H1 (upd H4 D (.lst (acc ++ [y]))) ∧ ∃ zs, upd H4 D (.lst (acc ++ [y])) D = some (.lst zs) ∧ zs.length = i + 1 ∧ ∀ (j : Nat) z, zs[j]? = some z → R j z (upd H4 D (.lst (acc ++ [y]))))
      (fun y H4 g4 r4 => by
        have d4 : H4 D = some (.lst ys) := g4.kp D _ dn (hY i H x H' yy D _ p2)
        have gm : Go K m H1 (upd H4 D (.lst (ys ++ [y]))) := ((p1.to (hY i H x H' yy)).trans g4).mut hD
        refine ⟨ys, d4, ?_, gm, ys ++ [y], upd_same, by rw [List.length_append, p3]; rfl, fun j z hz => ?_⟩
        · rw [p3]
          exact Nat.lt_of_lt_of_le (show i < 1001 by omega) (by decide)
        · refine hU j z H4 ys _ d4 ?_
          rcases Nat.lt_or_ge j ys.length with hj | hj
          · rw [List.getElem?_append_left hj] at hz
            exact hR j z H H4 ((Go.same p1.fl1 (hY i H x H' yy)).trans g4) (p4 j z hz)
          · rw [List.getElem?_append_right hj] at hz
            have ej : j - ys.length = 0 := by
              rcases Nat.eq_zero_or_pos (j - ys.length) with e | e
              · exact e
              · rw [List.getElem?_eq_none (show ([y] : List V).length ≤ j - ys.length from e)] at hz
                cases hz
            rw [ej] at hz
            have ez : y = z := Option.some.inj hz
            have ej2 : j = i := by omega
            rw [← ez, ej2]
            exact r4)
    exact hx
  · obtain ⟨p1, ys, p2, p3, p4⟩ := p
    exact hd H ys p1 p2 p3 p4
theorem lc_go (w : Walk J n G Y) (hD : H1 D = none) (fl : Fl K m H1) (hn : n ≤ 1000) (hY : ∀ i H x H', Y i H x H' → Same H H') (R : Nat → V → Hp → Prop) (hR : ∀ i y H H', Go K m H H' → R i y H → R i y H')
    (hU : ∀ i y H xs ys, H D = some (.lst xs) → R i y H → R i y (upd H D (.lst ys))) (hG : ∀ H, Go K m H1 H → G H)
    (hs : ∀ i x H H', i < n → Go K m H1 H → Y i H x H' → ∀ Qe : VK, (∀ y H4, Go K m H' H4 → R i y H4 → Qe y H4) → g x (wipe σ vs) H' fun σ2 H2 => wipe σ2 vs = wipe σ vs ∧ te σ2 H2 Qe)
    (hd : ∀ H ys, Go K m H1 H → H D = some (.lst ys) → ys.length = n → (∀ (i : Nat) y, ys[i]? = some y → R i y H) → Qd H) :
    ∃ W : Nat → Nat → Hp → Prop, (∃ m, W 0 m (upd H1 D (.lst []))) ∧ ∀ i m H, W i m H →
      (J.stop i H ∧ Qd H) ∨ (J.go i H ∧ ∃ Nx : Hp → Prop, (∀ H', Nx H' → ∃ m', m' < m ∧ W (i + 1) m' H') ∧ ∀ x H', J.yld i H x H' → g x (wipe σ vs) H' fun σ2 H2 => wipe σ2 vs = wipe σ vs ∧ tYes σ2 H2 fun b H3 =>
        if b = true then te σ2 H3 fun y H4 => ∃ acc, H4 D = some (.lst acc) ∧ acc.length < sizeLine ∧ Nx (upd H4 D (.lst (acc ++ [y]))) else Nx H3) :=
  lc_go2 w hD fl hn hY R hR hU hG (fun i x H H' _ h1 h2 h3 _ Qe h4 => hs i x H H' h1 h2 h3 Qe h4) hd
/-- a list grown by one -/
theorem app_all {R : Nat → V → Prop} {ys : List V} {z : V} {i : Nat} (hl : ys.length = i) (h : ∀ (j : Nat) y, ys[j]? = some y → R j y) (hz : R i z) : ∀ (j : Nat) y, (ys ++ [z])[j]? = some y → R j y := fun j y e => by
  rcases Nat.lt_or_ge j ys.length with hj | hj
  · rw [List.getElem?_append_left hj] at e
    exact h j y e
  · rw [List.getElem?_append_right hj] at e
    rcases Nat.eq_zero_or_pos (j - ys.length) with q | q
    · rw [q] at e
      have ez : z = y := Option.some.inj e
      rw [← ez, show j = i by omega]
      exact hz
    · rw [List.getElem?_eq_none (show ([z] : List V).length ≤ j - ys.length from q)] at e
      cases e
/-- a new list of fractions -/
theorem lcP (w : Walk J n G Y) (hD : H1 D = none) (fl : Fl K m H1) (hn : n ≤ 1000) (hY : ∀ i H x H', Y i H x H' → Same H H') (f : Nat → Rat) (hG : ∀ H, Go K m H1 H → G H)
    (hs : ∀ i x H H', i < n → Go K m H1 H → Y i H x H' → ∀ Qe : VK, (∀ y H4, Go K m H' H4 → IsP K H4 y (f i) → Qe y H4) → g x (wipe σ vs) H' fun σ2 H2 => wipe σ2 vs = wipe σ vs ∧ te σ2 H2 Qe)
    (hd : ∀ H, Go K m H1 H → IsRow K H (.ref D) n f → Qd H) :
    ∃ W : Nat → Nat → Hp → Prop, (∃ m, W 0 m (upd H1 D (.lst []))) ∧ ∀ i m H, W i m H →
      (J.stop i H ∧ Qd H) ∨ (J.go i H ∧ ∃ Nx : Hp → Prop, (∀ H', Nx H' → ∃ m', m' < m ∧ W (i + 1) m' H') ∧ ∀ x H', J.yld i H x H' → g x (wipe σ vs) H' fun σ2 H2 => wipe σ2 vs = wipe σ vs ∧ tYes σ2 H2 fun b H3 =>
        if b = true then te σ2 H3 fun y H4 => ∃ acc, H4 D = some (.lst acc) ∧ acc.length < sizeLine ∧ Nx (upd H4 D (.lst (acc ++ [y]))) else Nx H3) :=
  lc_go w hD fl hn hY (fun i y H => IsP K H y (f i)) (fun _ _ _ _ g0 r => r.go g0) (fun _ _ _ _ _ e r => r.mutL e) hG hs fun H ys g0 e l r => hd H g0 ⟨D, ys, rfl, SqL.of e, l, r⟩
/-- a new list of new rows -/
theorem lcT (w : Walk J n G Y) (hD : H1 D = none) (fl : Fl K m H1) (hn : n ≤ 1000) (hY : ∀ i H x H', Y i H x H' → Same H H') (wi : Nat → Nat) (F : Nat → Nat → Rat) (hG : ∀ H, Go K m H1 H → G H)
    (hs : ∀ i x H H' xs, i < n → Go K m H1 H → Y i H x H' → H' D = some (.lst xs) → ∀ Qe : VK, (∀ y H4, Go K m H' H4 → y ≠ V.ref D → IsRow K H4 y (wi i) (F i) → Qe y H4) → g x (wipe σ vs) H' fun σ2 H2 => wipe σ2 vs = wipe σ vs ∧ te σ2 H2 Qe)
    (hd : ∀ H, Go K m H1 H → IsTab K H (.ref D) n wi F → Qd H) :
    ∃ W : Nat → Nat → Hp → Prop, (∃ m, W 0 m (upd H1 D (.lst []))) ∧ ∀ i m H, W i m H →
      (J.stop i H ∧ Qd H) ∨ (J.go i H ∧ ∃ Nx : Hp → Prop, (∀ H', Nx H' → ∃ m', m' < m ∧ W (i + 1) m' H') ∧ ∀ x H', J.yld i H x H' → g x (wipe σ vs) H' fun σ2 H2 => wipe σ2 vs = wipe σ vs ∧ tYes σ2 H2 fun b H3 =>
        if b = true then te σ2 H3 fun y H4 => ∃ acc, H4 D = some (.lst acc) ∧ acc.length < sizeLine ∧ Nx (upd H4 D (.lst (acc ++ [y]))) else Nx H3) :=
  lc_go2 w hD fl hn hY (fun i y H => y ≠ V.ref D ∧ IsRow K H y (wi i) (F i)) (fun _ _ _ _ g0 r => ⟨r.1, r.2.go g0⟩) (fun _ _ _ _ _ e r => ⟨r.1, r.2.mutL e r.1⟩) hG (fun i x H H' xs h1 h2 h3 h4 Qe h5 => hs i x H H' xs h1 h2 h3 h4 Qe fun y H4 g0 z r => h5 y H4 g0 ⟨z, r⟩) fun H ys g0 e l r => hd H g0 ⟨D, ys, rfl, SqL.of e, l, fun i y q => (r i y q).2⟩
end
end K29
set_option Elab.async false
set_option linter.all false
set_option maxRecDepth 100000
set_option maxHeartbeats 4000000
/-! zip(xs, ys, strict=True) of two lists of one length, walked with a target of two names: the library has zip without strict; this is the same machine's other arm. -/
namespace K29
open PySem PySem.Spec PyProof.Rows
open PySem.Sem (wp)
/-- a strict zip object at z: its iterators' tuple at TI, the tuple that it owns at TO -/
abbrev IsZipS (h : Heap) (z TI TO : Addr) (f0 : Value) : Prop :=
  h.get? z = some { cls := .type "zip", dict := none, data := .fields #[f0, .bool false, .bool true, .ref TI, .ref TO], slots := #[] }
section
variable {prog : Program} {w : World} {A : Around} {E : Value → Shared → Prop} {s : Shared}
/-- a list's iterator, asked with its end as an answer -/
theorem orEnd_item {it l : Addr} {i : Nat} {xs : Array Value} {x : Value} {Q : Option Value → Shared → Prop} (a : s.heap.IsListIter it l i) (b : s.heap.IsList l xs) (c : xs[i]? = some x)
    (q : ∀ g, g.IsListIter it l (i + 1) → Heap.SameBut it s.heap g → Q (some x) { s with heap := g }) : wpAny (model prog w) A (Builtin.SmallTypes.nextOrEnd (.ref it)) Q E s := by
  unfold Builtin.SmallTypes.nextOrEnd
  exact wpAny_bind (wpAny_attempt (wpAny_nextOf_list_item a b c fun g u v => wpAny_pure (q g u v)))
theorem orEnd_none {it l : Addr} {i : Nat} {xs : Array Value} {Q : Option Value → Shared → Prop} (hh : A.handled = none) (a : s.heap.IsListIter it l i) (b : s.heap.IsList l xs) (c : xs[i]? = none)
    (q : ∀ g, Heap.ExtBut it s.heap g → Q none { s with heap := g }) : wpAny (model prog w) A (Builtin.SmallTypes.nextOrEnd (.ref it)) Q E s := by
  unfold Builtin.SmallTypes.nextOrEnd
  refine wpAny_bind (wpAny_attempt (wpAny_nextOf_list_end hh a b c fun g e u ⟨o, h1, h2⟩ => ?_))
  exact wpAny_bind (wpAny_isInstance (T := "StopIteration") (b := true) ⟨o, h1, h2⟩ isSubtype_stop (wpAny_pure (q g u)))
theorem stop_raises {Q : PySem.Fin → Shared → Prop} (hh : A.handled = none) (q : ∀ g e, (∀ c o, s.heap.get? c = some o → g.get? c = some o) ∧ (∃ o, g.get? e = some o ∧ o.cls = .type "StopIteration") → E (.ref e) { s with heap := g }) :
    wpAny (model prog w) A (Builtin.SmallTypes.stopIteration : Sem PySem.Fin) Q E s := by
  unfold Builtin.SmallTypes.stopIteration
  show wpAny _ _ (newExc (.type "StopIteration") [] >>= _) _ _ _
  refine wpAny_bind ?_
  simp only [newExc, newTuple]
  refine wpAny_bind (wpAny_newObj_type ?_ (by size_fits))
  refine wpAny_bind (m := firstArgMember _ _) (wpAny_of_eq (a := Value.none) (by first | rfl | (simp only [firstArgMember]; rfl)) ?_)
  refine wpAny_newObj_type ?_ (by size_fits)
  simp only [raiseNew]
  refine wpAny_bind (wpAny_handled ?_)
  rw [hh]
  refine wpAny_bind (wpAny_pure (wpAny_throw ?_))
  exact q _ _ ⟨fun c o z => Heap.get?_push_of_some _ (Heap.get?_push_of_some _ z), _, Heap.get?_push_size _ rfl, rfl⟩
/-- one turn of a strict zip -/
theorem zipS_item {z TI TO i1 i2 l1 l2 : Addr} {k1 k2 : Nat} {xs ys : Array Value} {x y a b : Value} {Q : Value → Shared → Prop} (D : ZipApart z TI TO i1 i2 l1 l2)
    (hz : IsZipS s.heap z TI TO .none) (hTI : IsPair s.heap TI (.ref i1) (.ref i2)) (hTO : IsPair s.heap TO a b)
    (h1 : s.heap.IsListIter i1 l1 k1) (h2 : s.heap.IsListIter i2 l2 k2) (hl1 : s.heap.IsList l1 xs) (hl2 : s.heap.IsList l2 ys) (hx : xs[k1]? = some x) (hy : ys[k2]? = some y)
    (hQ : ∀ g, IsZipS g z TI TO (rawInt s.heap.objs.size) → IsPair g TO x y → g.IsListIter i1 l1 (k1 + 1) → g.IsListIter i2 l2 (k2 + 1) → IsPair g s.heap.objs.size x y →
      (∀ c o, c ≠ z → c ≠ TO → c ≠ i1 → c ≠ i2 → s.heap.get? c = some o → g.get? c = some o) → Q (.ref s.heap.objs.size) { s with heap := g }) :
    wpAny (model prog w) A (Builtin.«zip.__next__» ⟨[.ref z], []⟩) (fun fin s' => ∃ v, fin = .done (.ret v) ∧ Q v s') E s := by
  show wpAny _ _ (field (.ref z) 2 >>= _) _ _ _
  refine wpAny_bind (wpAny_field (x := .bool true) hz rfl rfl ?_)
  show wpAny _ _ (field (.ref z) 3 >>= _) _ _ _
  refine wpAny_bind (wpAny_field (x := .ref TI) hz rfl rfl ?_)
  refine wpAny_bind (wpAny_seqItems hTI rfl ?_)
  show wpAny _ _ (Builtin.SmallTypes.ownedTupleIsFree (.ref z) >>= _) _ _ _
  refine wpAny_bind ?_
  unfold Builtin.SmallTypes.ownedTupleIsFree
  refine wpAny_bind (wpAny_field (x := .none) hz rfl rfl (wpAny_pure ?_))
  simp only [if_true]
  refine wpAny_bind (wpAny_rule ?_)
  refine wpAny_bind (wpAny_field (x := .ref TO) hz rfl rfl ?_)
  refine wpAny_bind (wpAny_setField_rec hz (by simp) fun g1 z1 e1 => ?_)
  have z1 : IsZipS g1 z TI TO .ellipsis := z1
  refine wpAny_bind ?_
  simp only [List.zipIdx_cons, List.zipIdx_nil, List.forIn_cons, List.forIn_nil]
  -- the first list's item
  refine wpAny_bind (wpAny_bind (wpAny_onRaise ?_))
  show wpAny _ _ (Builtin.SmallTypes.nextOrEnd (.ref i1)) _ _ _
  refine orEnd_item (h1.extBut e1.extBut D.i1z) (hl1.extBut e1.extBut D.l1z) hx fun g2 a2 e2 => ?_
  have t2 : IsPair g2 TO a b := e2.extBut _ _ D.TOi1 (e1.extBut _ _ D.TOz hTO)
  refine wpAny_bind (wpAny_seqItems t2 rfl ?_)
  refine wpAny_bind (wpAny_updateSeq_pair t2 fun g3 t3 e3 => ?_)
  have t3 : IsPair g3 TO x b := t3
  refine wpAny_bind (wpAny_letGo (wpAny_pure ?_))
  -- the second list's
  refine wpAny_bind (wpAny_bind (wpAny_onRaise ?_))
  show wpAny _ _ (Builtin.SmallTypes.nextOrEnd (.ref i2)) _ _ _
  have b2 := ((h2.extBut e1.extBut D.i2z).extBut e2.extBut D.i12.symm).extBut e3.extBut D.TOi2.symm
  have c2 := ((hl2.extBut e1.extBut D.l2z).extBut e2.extBut D.l2i1).extBut e3.extBut D.l2TO
  refine orEnd_item b2 c2 hy fun g4 a4 e4 => ?_
  have t4 : IsPair g4 TO x b := e4.extBut _ _ D.TOi2 t3
  refine wpAny_bind (wpAny_seqItems t4 rfl ?_)
  refine wpAny_bind (wpAny_updateSeq_pair t4 fun g5 t5 e5 => ?_)
  have t5 : IsPair g5 TO x y := t5
  refine wpAny_bind (wpAny_letGo (wpAny_pure (wpAny_pure ?_)))
  -- the pair, handed out
  refine wpAny_bind (wpAny_seqItems t5 rfl ?_)
  refine wpAny_bind (wpAny_newTuple ?_)
  have size5 : g5.objs.size = s.heap.objs.size := by rw [e5.1, e4.1, e3.1, e2.1, e1.1]
  have z5 : IsZipS g5 z TI TO .ellipsis := e5.extBut _ _ D.TOz.symm (e4.extBut _ _ D.i2z.symm (e3.extBut _ _ D.TOz.symm (e2.extBut _ _ D.i1z.symm z1)))
  have old5 : ∀ c o, c ≠ z → c ≠ TO → c ≠ i1 → c ≠ i2 → s.heap.get? c = some o → g5.get? c = some o := fun c o n1 n2 n3 n4 q =>
    e5.extBut _ _ n2 (e4.extBut _ _ n4 (e3.extBut _ _ n2 (e2.extBut _ _ n3 (e1.extBut _ _ n1 q))))
  have p5 : g5.IsListIter i1 l1 (k1 + 1) := ((a2.extBut e3.extBut D.TOi1.symm).extBut e4.extBut D.i12).extBut e5.extBut D.TOi1.symm
  have r5 : g5.IsListIter i2 l2 (k2 + 1) := a4.extBut e5.extBut D.TOi2.symm
  have lz : z < g5.objs.size := Heap.lt_size z5
  show wpAny _ _ (Builtin.SmallTypes.ownedTupleHandOut (.ref z) (.ref g5.objs.size) >>= _) _ _ _
  refine wpAny_bind ?_
  unfold Builtin.SmallTypes.ownedTupleHandOut
  have z6 : IsZipS (g5.push { cls := .type "tuple", data := .seq #[x, y] }) z TI TO .ellipsis := Heap.get?_push_of_some _ z5
  refine wpAny_bind (wpAny_setField_rec z6 (by simp) fun g7 z7 e7 => ?_)
  have z7 : IsZipS g7 z TI TO (rawInt g5.objs.size) := z7
  refine wpAny_setField_rec z7 (by simp) fun g8 z8 e8 => ?_
  have z8 : IsZipS g8 z TI TO (rawInt g5.objs.size) := z8
  have up : ∀ c o, c ≠ z → g5.get? c = some o → g8.get? c = some o := fun c o n q => e8.extBut _ _ n (e7.extBut _ _ n (Heap.get?_push_of_some _ q))
  have new8 : IsPair g8 g5.objs.size x y := e8.extBut _ _ (Nat.ne_of_gt lz) (e7.extBut _ _ (Nat.ne_of_gt lz) (Heap.get?_push_size _ rfl))
  rw [size5] at z8 new8
  refine wpAny_pure ⟨_, rfl, ?_⟩
  show Q (.ref g5.objs.size) _
  rw [size5]
  exact hQ g8 z8 (up _ _ D.TOz t5) (p5.at fun o q => up _ o D.i1z q) (r5.at fun o q => up _ o D.i2z q) new8 fun c o n1 n2 n3 n4 q => up c o n1 (old5 c o n1 n2 n3 n4 q)
/-- its end: both lists are through -/
theorem zipS_end {z TI TO i1 i2 l1 l2 : Addr} {k1 k2 : Nat} {xs ys : Array Value} {a b : Value} {Q : Fin → Shared → Prop} (hh : A.handled = none) (D : ZipApart z TI TO i1 i2 l1 l2)
    (hz : IsZipS s.heap z TI TO .none) (hTI : IsPair s.heap TI (.ref i1) (.ref i2)) (hTO : IsPair s.heap TO a b)
    (h1 : s.heap.IsListIter i1 l1 k1) (h2 : s.heap.IsListIter i2 l2 k2) (hl1 : s.heap.IsList l1 xs) (hl2 : s.heap.IsList l2 ys) (hx : xs[k1]? = none) (hy : ys[k2]? = none)
    (hE : ∀ g e, (∀ c o, c ≠ z → c ≠ TO → c ≠ i1 → c ≠ i2 → s.heap.get? c = some o → g.get? c = some o) → (∃ o, g.get? e = some o ∧ o.cls = .type "StopIteration") → E (.ref e) { s with heap := g }) :
    wpAny (model prog w) A (Builtin.«zip.__next__» ⟨[.ref z], []⟩) Q E s := by
  show wpAny _ _ (field (.ref z) 2 >>= _) _ _ _
  refine wpAny_bind (wpAny_field (x := .bool true) hz rfl rfl ?_)
  show wpAny _ _ (field (.ref z) 3 >>= _) _ _ _
  refine wpAny_bind (wpAny_field (x := .ref TI) hz rfl rfl ?_)
  refine wpAny_bind (wpAny_seqItems hTI rfl ?_)
  show wpAny _ _ (Builtin.SmallTypes.ownedTupleIsFree (.ref z) >>= _) _ _ _
  refine wpAny_bind ?_
  unfold Builtin.SmallTypes.ownedTupleIsFree
  refine wpAny_bind (wpAny_field (x := .none) hz rfl rfl (wpAny_pure ?_))
  simp only [if_true]
  refine wpAny_bind (wpAny_rule ?_)
  refine wpAny_bind (wpAny_field (x := .ref TO) hz rfl rfl ?_)
  refine wpAny_bind (wpAny_setField_rec hz (by simp) fun g1 z1 e1 => ?_)
  have z1 : IsZipS g1 z TI TO .ellipsis := z1
  refine wpAny_bind ?_
  simp only [List.zipIdx_cons, List.zipIdx_nil, List.forIn_cons, List.forIn_nil]
  refine wpAny_bind (wpAny_bind (wpAny_onRaise ?_))
  show wpAny _ _ (Builtin.SmallTypes.nextOrEnd (.ref i1)) _ _ _
  refine orEnd_none hh (h1.extBut e1.extBut D.i1z) (hl1.extBut e1.extBut D.l1z) hx fun g2 e2 => ?_
  have z2 : IsZipS g2 z TI TO .ellipsis := e2 _ _ D.i1z.symm z1
  refine wpAny_bind (wpAny_setField_rec z2 (by simp) fun g3 z3 e3 => ?_)
  have z3 : IsZipS g3 z TI TO .none := z3
  have b3 : g3.IsListIter i2 l2 k2 := ((h2.extBut e1.extBut D.i2z).extBut e2 D.i12.symm).extBut e3.extBut D.i2z
  have c3 : g3.IsList l2 ys := ((hl2.extBut e1.extBut D.l2z).extBut e2 D.l2i1).extBut e3.extBut D.l2z
  have old3 : ∀ c o, c ≠ z → c ≠ i1 → s.heap.get? c = some o → g3.get? c = some o := fun c o n1 n2 q => e3.extBut _ _ n1 (e2 _ _ n2 (e1.extBut _ _ n1 q))
  refine wpAny_bind ?_
  show wpAny _ _ ((forIn [((Value.ref i2), 1)] PUnit.unit _) >>= _) _ _ _
  simp only [List.forIn_cons, List.forIn_nil]
  refine wpAny_bind (wpAny_bind (wpAny_bind (orEnd_none hh b3 c3 hy fun g4 e4 => ?_)))
  show wpAny _ _ (pure (ForInStep.yield PUnit.unit)) _ _ _
  refine wpAny_pure ?_
  show wpAny _ _ (pure PUnit.unit) _ _ _
  refine wpAny_pure ?_
  refine wpAny_bind (wpAny_rule ?_)
  refine stop_raises (s := { s with heap := g4 }) hh fun g5 e5 q => ?_
  refine hE g5 _ (fun c o n1 n2 n3 n4 w1 => q.1 c o (e4 _ _ n4 (old3 c o n1 n3 w1))) q.2
theorem zipS_ty {z TI TO : Addr} {f0 : Value} (hz : IsZipS s.heap z TI TO f0) : s.TypeIs (.ref z) "zip" := ⟨_, hz, rfl⟩
theorem nextS_item {z TI TO i1 i2 l1 l2 : Addr} {k1 k2 : Nat} {xs ys : Array Value} {x y a b : Value} {Q : Option Value → Shared → Prop} (D : ZipApart z TI TO i1 i2 l1 l2)
    (hz : IsZipS s.heap z TI TO .none) (hTI : IsPair s.heap TI (.ref i1) (.ref i2)) (hTO : IsPair s.heap TO a b)
    (h1 : s.heap.IsListIter i1 l1 k1) (h2 : s.heap.IsListIter i2 l2 k2) (hl1 : s.heap.IsList l1 xs) (hl2 : s.heap.IsList l2 ys) (hx : xs[k1]? = some x) (hy : ys[k2]? = some y)
    (hQ : ∀ g, IsZipS g z TI TO (rawInt s.heap.objs.size) → IsPair g TO x y → g.IsListIter i1 l1 (k1 + 1) → g.IsListIter i2 l2 (k2 + 1) → IsPair g s.heap.objs.size x y →
      (∀ c o, c ≠ z → c ≠ TO → c ≠ i1 → c ≠ i2 → s.heap.get? c = some o → g.get? c = some o) → Q (some (.ref s.heap.objs.size)) { s with heap := g }) :
    wpAny (model prog w) A (pyNext (.ref z)) Q E s := by
  unfold pyNext
  refine wpAny_bind (wpAny_attempt (wpAny_callSpecial?_slot (name := Str.ofString "__next__") (zipS_ty hz) F.slot_zip_next (wpAny_call_entry F.slot_zip_next (zipS_ty hz) F.entry_zip_next ?_ (F.args_zip_next_1 _))))
  exact zipS_item D hz hTI hTO h1 h2 hl1 hl2 hx hy fun g q1 q2 q3 q4 q5 q6 => wpAny_pure (hQ g q1 q2 q3 q4 q5 q6)
theorem nextS_end {z TI TO i1 i2 l1 l2 : Addr} {k1 k2 : Nat} {xs ys : Array Value} {a b : Value} {Q : Option Value → Shared → Prop} (hh : A.handled = none) (D : ZipApart z TI TO i1 i2 l1 l2)
    (hz : IsZipS s.heap z TI TO .none) (hTI : IsPair s.heap TI (.ref i1) (.ref i2)) (hTO : IsPair s.heap TO a b)
    (h1 : s.heap.IsListIter i1 l1 k1) (h2 : s.heap.IsListIter i2 l2 k2) (hl1 : s.heap.IsList l1 xs) (hl2 : s.heap.IsList l2 ys) (hx : xs[k1]? = none) (hy : ys[k2]? = none)
    (hQ : ∀ g, (∀ c o, c ≠ z → c ≠ TO → c ≠ i1 → c ≠ i2 → s.heap.get? c = some o → g.get? c = some o) → Q none { s with heap := g }) : wpAny (model prog w) A (pyNext (.ref z)) Q E s := by
  unfold pyNext
  refine wpAny_bind (wpAny_attempt (wpAny_callSpecial?_slot (name := Str.ofString "__next__") (zipS_ty hz) F.slot_zip_next (wpAny_call_entry F.slot_zip_next (zipS_ty hz) F.entry_zip_next ?_ (F.args_zip_next_1 _))))
  refine zipS_end hh D hz hTI hTO h1 h2 hl1 hl2 hx hy fun g e hk ⟨o, q1, q2⟩ => ?_
  exact wpAny_bind (wpAny_isInstance (T := "StopIteration") (b := true) ⟨o, q1, q2⟩ isSubtype_stop (wpAny_pure (hQ g hk)))
theorem goS {elts : List Expr} {n} {pos : Pos} {z TI TO T : Addr} {Q : Unit → Shared → Prop} (hz : IsZipS s.heap z TI TO (rawInt T)) (hQ : ∀ g, IsZipS g z TI TO .none → Heap.SameBut z s.heap g → Q () { s with heap := g }) :
    wpAny (model prog w) A (letOwnedTupleGo (.Tuple elts n pos) (.ref z) (.ref T)) Q E s := by
  unfold letOwnedTupleGo
  refine wpAny_bind (wpAny_load hz ?_)
  show wpAny _ _ (if (["enumerate", "zip", "dict_itemiterator", "dict_reverseitemiterator", "odict_iterator", "itertools.zip_longest", "itertools.pairwise"].contains "zip" && (#[rawInt T, .bool false, .bool true, .ref TI, .ref TO] : Array Value)[0]? == some (rawInt T)) = true then _ else _) Q E s
  rw [if_pos (by simp)]
  refine wpAny_bind (wpAny_rule ?_)
  show wpAny _ _ (setField (.ref z) 0 .none) Q E s
  exact wpAny_setField_rec hz (by simp) fun g q1 q2 => hQ g q1 q2
theorem iterS {z TI TO : Addr} {f0 : Value} {Q : Value → Shared → Prop} (hz : IsZipS s.heap z TI TO f0) (h : Q (.ref z) s) : wpAny (model prog w) A (pyIter (.ref z)) Q E s := by
  refine wpAny_pyIter_slot (zipS_ty hz) F.slot_zip_iter (wpAny_call_entry F.slot_zip_iter (zipS_ty hz) F.entry_zip_iter ?_ (F.args_zip_iter_1 _))
  show wpAny _ _ (ret (.ref z)) _ _ s
  exact wpAny_pure ⟨_, rfl, "zip", _, zipS_ty hz, F.slot_zip_next.lookup, h⟩
end
/-! ### zip(a, b, strict=True) is made -/
abbrev hS5 (h : Heap) (l1 l2 : Addr) : Heap := (zipH4 h l1 l2).push { cls := .type "zip", data := .fields #[.none, .bool false, .bool true, .ref (zipH2 h l1 l2).objs.size, .ref (zipH3 h l1 l2).objs.size] }
theorem new_zipS (l1 l2 : Addr) (xs ys : Array Value) :
    Meets (Builtin.«zip.__new__» ⟨[.type "zip", .ref l1, .ref l2], [(Str.ofString "strict", .bool true)]⟩) (fun _ R s => s.heap.IsList l1 xs ∧ s.heap.IsList l2 ys ∧ R (.ok (.ret (.ref (zipH4 s.heap l1 l2).objs.size))) { s with heap := hS5 s.heap l1 l2 }) :=
  .of_wp fun prog w A R s h => by
    obtain ⟨hp, g, d, tk, os⟩ := s
    obtain ⟨q1, q2, h⟩ := h
    have hsub := sub_zip
    have a1 : Heap.IsList (Shared.heap ⟨hp, g, d, tk, os⟩) l1 xs := q1
    have a2 : Heap.IsList (Shared.heap ⟨zipH1 hp l1, g, d, tk, os⟩) l2 ys := Heap.IsList.push q2 _
    have e2 : (Str.ofString "strict" != ("strict" : Str)) = false := by decide +kernel
    wp_walk using wpAny_pyIter_list a1, wpAny_pyIter_list a2
    exact ⟨_, rfl, h⟩
theorem typeCallS (a b : Value) : checkTypeCall "zip" ⟨[a, b], [(Str.ofString "strict", .bool true)]⟩ = pure () := by kernel_rfl
theorem newCallS (a b : Value) : checkBuiltinCall "zip.__new__" ⟨[.type "zip", a, b], [(Str.ofString "strict", .bool true)]⟩ = pure () := by kernel_rfl
theorem argsS (obj a b : Value) : argsOk "object.__init__" ⟨[obj, a, b], [(Str.ofString "strict", .bool true)]⟩ := by unfold argsOk; kernel_rfl
section
variable {prog : Program} {w : World} {A : Around} {E : Value → Shared → Prop} {s : Shared}
theorem call_zipS {l1 l2 : Addr} {xs ys : Array Value} {Q : Value → Shared → Prop} (q1 : s.heap.IsList l1 xs) (q2 : s.heap.IsList l2 ys)
    (h : ∀ g, IsZipS g (s.heap.objs.size + 4) (s.heap.objs.size + 2) (s.heap.objs.size + 3) .none → IsPair g (s.heap.objs.size + 2) (.ref s.heap.objs.size) (.ref (s.heap.objs.size + 1)) →
      IsPair g (s.heap.objs.size + 3) .none .none → g.IsListIter s.heap.objs.size l1 0 → g.IsListIter (s.heap.objs.size + 1) l2 0 → (∀ c o, s.heap.get? c = some o → g.get? c = some o) → Q (.ref (s.heap.objs.size + 4)) { s with heap := g }) :
    wpAny (model prog w) A (call (.type "zip") [.ref l1, .ref l2] [(Str.ofString "strict", .bool true)]) Q E s := by
  refine callType_newKw F.called_zip (by decide) (typeCallS _ _) (newCallS _ _) (fun obj => argsS obj _ _) F.entry_zip_new (new_zipS l1 l2 xs ys) ⟨q1, q2, ?_⟩
  have n1 : (zipH1 s.heap l1).objs.size = s.heap.objs.size + 1 := Heap.size_push ..
  have n2 : (zipH2 s.heap l1 l2).objs.size = s.heap.objs.size + 2 := (Heap.size_push ..).trans (by rw [n1])
  have n3 : (zipH3 s.heap l1 l2).objs.size = s.heap.objs.size + 3 := (Heap.size_push ..).trans (by rw [n2])
  have n4 : (zipH4 s.heap l1 l2).objs.size = s.heap.objs.size + 4 := (Heap.size_push ..).trans (by rw [n3])
  have g5 : (hS5 s.heap l1 l2).get? (zipH4 s.heap l1 l2).objs.size = some _ := Heap.get?_push_size _ rfl
  have g4 : (hS5 s.heap l1 l2).get? (zipH3 s.heap l1 l2).objs.size = some _ := Heap.get?_push_of_some _ (Heap.get?_push_size _ rfl)
  have g3 : (hS5 s.heap l1 l2).get? (zipH2 s.heap l1 l2).objs.size = some _ := Heap.get?_push_of_some _ (Heap.get?_push_of_some _ (Heap.get?_push_size _ rfl))
  have g2 : (hS5 s.heap l1 l2).get? (zipH1 s.heap l1).objs.size = some _ := Heap.get?_push_of_some _ (Heap.get?_push_of_some _ (Heap.get?_push_of_some _ (Heap.get?_push_size _ rfl)))
  have g1 : (hS5 s.heap l1 l2).get? s.heap.objs.size = some _ := Heap.get?_push_of_some _ (Heap.get?_push_of_some _ (Heap.get?_push_of_some _ (Heap.get?_push_of_some _ (Heap.get?_push_size _ rfl))))
  show _ ∧ _
  rw [n2, n3, n4] at g5
  rw [n1, n2] at g3
  rw [n3] at g4
  rw [n1] at g2
  rw [n4]
  exact ⟨⟨_, g5, rfl⟩, h _ g5 g3 g4 ⟨_, g1, rfl, rfl⟩ ⟨_, g2, rfl, rfl⟩ fun c o z =>
    Heap.get?_push_of_some _ (Heap.get?_push_of_some _ (Heap.get?_push_of_some _ (Heap.get?_push_of_some _ (Heap.get?_push_of_some _ z))))⟩
end
/-! ### what walks: the items in new pairs; the lists end together -/
open L2
def ItS (K : PySem.W.Frag) (a b : Addr) : It where
  go := fun i H => ∃ (xs ys : List V) (x y : V), SqL K H a xs ∧ SqL K H b ys ∧ xs[i]? = some x ∧ ys[i]? = some y
  yld := fun i H v H' => ∃ T x y, v = .ref T ∧ H T = none ∧ H' = upd H T (.tup [x, y]) ∧ (∀ xs, SqL K H a xs → xs[i]? = some x) ∧ ∀ ys, SqL K H b ys → ys[i]? = some y
  stop := fun i H => ∃ xs ys : List V, SqL K H a xs ∧ SqL K H b ys ∧ xs.length ≤ i ∧ ys.length ≤ i
theorem turnS {P : Program} {w : World} {K : PySem.W.Frag} {elts : List Expr} {n : Nat} {tpos : Pos} {a b z TI TO i1 i2 : Addr} (D : ZipApart z TI TO i1 i2 a b) :
    Turn P w K (.Tuple elts n tpos) (ItS K a b) [z, TI, TO, i1, i2] z (fun i h => IsZipS h z TI TO .none ∧ IsPair h TI (.ref i1) (.ref i2) ∧ (∃ x y, IsPair h TO x y) ∧ h.IsListIter i1 a i ∧ h.IsListIter i2 b i) where
  mem := by simp
  obj := fun i h ⟨q1, q2, ⟨x, y, q3⟩, ⟨o1, e1, _, d1⟩, ⟨o2, e2, _, d2⟩⟩ c hc => by
    simp only [List.mem_cons, List.not_mem_nil, or_false] at hc
    rcases hc with rfl | rfl | rfl | rfl | rfl
    · exact ⟨_, q1, fun v q => nomatch q⟩
    · exact ⟨_, q2, fun v q => nomatch q⟩
    · exact ⟨_, q3, fun v q => nomatch q⟩
    · exact ⟨o1, e1, fun v q => by rw [d1] at q; cases q⟩
    · exact ⟨o2, e2, fun v q => by rw [d2] at q; cases q⟩
  keep := fun i h h' ⟨q1, q2, ⟨x, y, q3⟩, q4, q5⟩ k => ⟨k z (by simp) _ q1, k TI (by simp) _ q2, ⟨x, y, k TO (by simp) _ q3⟩, q4.at fun o q => k i1 (by simp) o q, q5.at fun o q => k i2 (by simp) o q⟩
  item := by
    intro X hP hw hK hc i pins s σ H E I hf ⟨q1, q2, ⟨x0, y0, q3⟩, q4, q5⟩ ⟨xs, ys, x, y, sx, sy, gx, gy⟩
    subst hP hw hK
    obtain ⟨us, rx, px, _⟩ := I.list sx
    obtain ⟨ws, ry, py, _⟩ := I.list sy
    obtain ⟨u, hu, ru⟩ := rx.get gx
    obtain ⟨v, hv, rv⟩ := ry.get gy
    have lz : z < s.heap.objs.size := Heap.lt_size q1
    refine nextS_item D q1 q2 q3 q4 q5 px.isList py.isList (x := u) (y := v) (by simpa using hu) (by simpa using hv) fun g z1 t1 m1 m2 hT hk => ?_
    refine ⟨_, rfl, goS (s := { s with heap := g }) z1 fun g2 z2 sb => ?_⟩
    have T2 : g2.get? s.heap.objs.size = some { cls := .type "tuple", data := .seq #[u, v] } := (sb.2 _ (Nat.ne_of_gt lz)).trans hT
    have new : ObjOk X.prog X.w (upd H s.heap.objs.size (.tup [x, y])) g2 s.heap.objs.size (.tup [x, y]) := ⟨by show 2 ≤ sizeLine; decide, [u, v], .cons ru (.cons rv .nil), ⟨_, T2, rfl, _, rfl⟩⟩
    have all : ∀ c o, c ∉ [z, TI, TO, i1, i2] → s.heap.get? c = some o → g2.get? c = some o := fun c o n q => by
      have n' : c ≠ z ∧ c ≠ TI ∧ c ≠ TO ∧ c ≠ i1 ∧ c ≠ i2 := by simpa using n
      exact (sb.2 c n'.1).trans (hk c o n'.1 n'.2.2.1 n'.2.2.2.1 n'.2.2.2.2 q)
    have I1 : Inv X pins σ (upd H s.heap.objs.size (.tup [x, y])) { s with heap := g2 } := I.turnedNew (t' := s.toks) all hf (Nat.le_refl _) new
    refine ⟨.ref s.heap.objs.size, _, I1, rfl, ⟨_, x, y, rfl, I.hok.fresh (Nat.le_refl _), rfl, fun l hl => by rw [I.list_inj hl sx]; exact gx, fun l hl => by rw [I.list_inj hl sy]; exact gy⟩, ⟨z2, (sb.2 _ D.TIz).trans (hk _ _ D.TIz D.TITO D.TIi1 D.TIi2 q2), ⟨u, v, (sb.2 _ D.TOz).trans t1⟩, m1.at fun o q => (sb.2 _ D.i1z).trans q, m2.at fun o q => (sb.2 _ D.i2z).trans q⟩, fun c hc => ?_⟩
    have lt : c < s.heap.objs.size := by
      simp only [List.mem_cons, List.not_mem_nil, or_false] at hc
      rcases hc with rfl | rfl | rfl | rfl | rfl
      · exact lz
      · exact Heap.lt_size q2
      · exact Heap.lt_size q3
      · obtain ⟨_, e, _⟩ := q4
        exact Heap.lt_size e
      · obtain ⟨_, e, _⟩ := q5
        exact Heap.lt_size e
    rw [upd_ne (Nat.ne_of_lt lt)]
    exact (hf c hc).1
  done := by
    intro X hP hw hK hc i pins s σ H E I hf ⟨q1, q2, ⟨x0, y0, q3⟩, q4, q5⟩ ⟨xs, ys, sx, sy, ex, ey⟩
    subst hP hw hK
    obtain ⟨us, rx, px, _⟩ := I.list sx
    obtain ⟨ws, ry, py, _⟩ := I.list sy
    have n1 := rx.length
    have n2 := ry.length
    refine nextS_end (I.ok.hd hc) D q1 q2 q3 q4 q5 px.isList py.isList (by simp; omega) (by simp; omega) fun g hk => ⟨rfl, I.turnedL (t' := s.toks) (ch := [z, TI, TO, i1, i2]) (fun c o n q => ?_) hf⟩
    have n' : c ≠ z ∧ c ≠ TI ∧ c ≠ TO ∧ c ≠ i1 ∧ c ≠ i2 := by simpa using n
    exact hk c o n'.1 n'.2.2.1 n'.2.2.2.1 n'.2.2.2.2 q
  self := fun A i s Q E st h => iterS st.1 h
def iZipS (K : PySem.W.Frag) (ta : TA) : TI := fun σ H R => ta σ H fun vs H1 => ∃ a b xs ys, vs = [.ref a, .ref b] ∧ SqL K H1 a xs ∧ SqL K H1 b ys ∧ R (ItS K a b) H1
/-- zip(e, e2, strict=True) -/
theorem pi_zipS {X : Cx} {K : PySem.W.Frag} {e e2 : Expr} {ta : TA} {p pos tpos cpos kpos : Pos} {elts : List Expr} {n j : Nat} (eK : X.K = K) (hg : Gl X "zip") (hm : X.mg "zip" = none) (ha : PA X [e, e2] ta)
    (hs : starEach [e, e2] X.env = (false, eval e X.env) :: starEach [e2] X.env := by rfl)
    (hall : (backToKw pos (keywordEach [⟨some "strict", .Constant (.bool true) j cpos, kpos⟩] X.env)).all (·.1.isSome) = true := by rfl)
    (hpl : ((backTo pos (starEach [e, e2] X.env)).any (·.1) || (backToKw pos (keywordEach [⟨some "strict", .Constant (.bool true) j cpos, kpos⟩] X.env)).any (·.1.isNone)) = false := by rfl)
    (hks : (backToKw pos (keywordEach [⟨some "strict", .Constant (.bool true) j cpos, kpos⟩] X.env)).filterMap (·.1) = [Str.ofString "strict"] := by rfl) :
    PI X (.Tuple elts n tpos) (.Call (.Name "zip" p) [e, e2] [⟨some "strict", .Constant (.bool true) j cpos, kpos⟩] pos) (iZipS K ta) := by
  subst eK
  refine ⟨fun pins s σ H R I h => ?_⟩
  refine wpAny_Call_Name_kw (ld_blt I hg hm PyProof.Rows.boot_zip ?_)
  refine PySem.W.callWith_of (P := fun _ => True) hpl (fun _ _ => ⟨.machine, .inr (.inl rfl), .of_pure rfl⟩) (evalArgs_kw2 hall (thn (ha.run pos pins s σ H _ I h) fun us s1 ⟨vs, H1, I1, r1, q1⟩ => ?_) hs)
  refine kwAll_cons (Constant_bool (kwAll_nil ⟨trivial, ?_⟩))
  rw [hks]
  obtain ⟨a, b, xs, ys, rfl, sx, sy, q⟩ := q1
  obtain ⟨u, v, rfl, ru, rv⟩ := vals2 r1
  obtain rfl : u = Value.ref a := ru
  obtain rfl : v = Value.ref b := rv
  obtain ⟨ws, rx, px, _⟩ := I1.list sx
  obtain ⟨zs, ry, py, _⟩ := I1.list sy
  show wpAny _ _ (call (.type "zip") [.ref a, .ref b] [(Str.ofString "strict", .bool true)]) _ _ _
  refine call_zipS px.isList py.isList fun g g1 g2 g3 g4 g5 hk => iterS g1 ?_
  have I2 : Inv X pins σ H1 { s1 with heap := g } := I1.kept (t' := s1.toks) hk
  refine ⟨s1.heap.objs.size + 4, [s1.heap.objs.size + 4, s1.heap.objs.size + 2, s1.heap.objs.size + 3, s1.heap.objs.size, s1.heap.objs.size + 1], _, _, H1, rfl, I2, turnS (PySem.W.ktu_apart s1.heap.objs.size a b px.lt py.lt), ⟨g1, g2, ⟨_, _, g3⟩, g4, g5⟩, fun c hc => ?_, q⟩
  have le : s1.heap.objs.size ≤ c := by
    simp only [List.mem_cons, List.not_mem_nil, or_false] at hc
    rcases hc with rfl | rfl | rfl | rfl | rfl
    · exact Nat.le_add_right _ _
    · exact Nat.le_add_right _ _
    · exact Nat.le_add_right _ _
    · exact Nat.le_refl _
    · exact Nat.le_add_right _ _
  exact I1.fpOk le (I1.hok.fresh le)
theorem walk_zipS {K : PySem.W.Frag} {a b : Addr} {xs ys : List V} (e : xs.length = ys.length) : Walk (ItS K a b) xs.length (fun H => SqL K H a xs ∧ SqL K H b ys) (YPair (fun i => xs[i]?) (fun i => ys[i]?)) := by
  refine ⟨fun i H hi q => ?_, fun H q => ⟨xs, ys, q.1, q.2, Nat.le_refl _, by omega⟩, fun i H v H' _ q y => ?_⟩
  · have hy : i < ys.length := by omega
    exact ⟨xs, ys, xs[i], ys[i], q.1, q.2, List.getElem?_eq_getElem hi, List.getElem?_eq_getElem hy⟩
  · obtain ⟨T, x, z, h1, h2, h3, h4, h5⟩ := y
    exact ⟨T, x, z, h1, h2, h3, h4 xs q.1, h5 ys q.2⟩
end K29
set_option Elab.async false
set_option linter.all false
set_option maxRecDepth 100000
set_option maxHeartbeats 4000000
/-! What the walks take from the head: facts and defs by their numbers. -/
namespace K29
open PySem PySem.Spec PyProof.Rows L2
structure Ctx (K : PySem.W.Frag) (mg : Str → Option Value) : Prop where
  says : He.SaysD fa fn K
  exs : ex K = true
  hp : ∃ h : Heap, K.In h ∧ h.Ns mainGlobals mg
section
variable {P : Program} {w : World} {K : PySem.W.Frag} {mg : Str → Option Value} {base : Heap}
theorem Ctx.glo (c : Ctx K mg) (i : Nat) {x : Str} (h : fa[i]? = some (.glo x) := by rfl) : mg x = some (.ref (He.ga K x)) := by
  obtain ⟨h0, X, G⟩ := c.hp
  exact He.glo_ok X G (c.says.fact i h)
theorem Ctx.free (c : Ctx K mg) (i : Nat) {x : Str} (h : fa[i]? = some (.free x) := by rfl) : mg x = none := by
  obtain ⟨h0, X, G⟩ := c.hp
  exact He.free_ok X G (c.says.fact i h)
theorem Ctx.int (c : Ctx K mg) (i : Nat) {x : Str} {z : Int} (h : fa[i]? = some (.int x z) := by rfl) : ∃ t, mg x = some (.int z t) := by
  obtain ⟨h0, X, G⟩ := c.hp
  exact He.int_ok X G (c.says.fact i h)
theorem Ctx.cls (c : Ctx K mg) (i : Nat) {x : Str} (h : fa[i]? = some (.cls x) := by rfl) : Cls K (He.ga K x) := He.cls_ok (c.says.fact i h)
theorem Ctx.noat (c : Ctx K mg) (i : Nat) {x f : Str} (h : fa[i]? = some (.noat x f) := by rfl) : NoAttr K (He.ga K x) f := He.noat_ok (c.says.fact i h)
theorem Ctx.meth (c : Ctx K mg) (i : Nat) {x f : Str} (h : fa[i]? = some (.meth x f) := by rfl) : Meth K (He.ga K x) f (He.ma K (He.ga K x) f) := He.meth_ok (c.says.fact i h)
theorem Ctx.mkr (c : Ctx K mg) (i : Nat) {x : Str} (h : fa[i]? = some (.mkr x) := by rfl) : Mk K (He.ga K x) (He.ma K (He.ga K x) "__init__") := He.mkr_ok (c.says.fact i h)
/-- a module's whole number -/
theorem Ctx.num {X : Cx} {x : Str} {z : Int} {pos : Pos} (c : Ctx X.K X.mg) (i : Nat) (hg : Gl X x) (h : fa[i]? = some (.int x z) := by rfl) (hd : (x == ("__debug__" : Str)) = false := by decide) : PE X (.Name x pos) (tC (.int z)) := by
  obtain ⟨t, e⟩ := c.int i h
  exact pe_glob hg e ⟨t, rfl⟩ hd
theorem Ctx.nought (c : Ctx K mg) (H : Hp) : IsP K H (.ref (He.ga K "NOUGHT")) 0 := ⟨_, rfl, He.tupB_ok (vs := [.int 0, .int 1]) (He.ba c.exs).1 H⟩
theorem Ctx.one (c : Ctx K mg) (H : Hp) : IsP K H (.ref (He.ga K "ONE")) 1 := ⟨_, rfl, He.tupB_ok (vs := [.int 1, .int 1]) (He.ba c.exs).2 H⟩
/-- THE RULE for a def -/
theorem okN {x qual : Str} {params : Arguments} {body : List Stmt} {scope : Scope} {dvs : List V} {kws : List (Str × V)} {f : Addr} {fd : FuncData} {N ps : List Str} {k : Nat} {sp : Sp} (F : FunD K x qual params body scope dvs kws f fd) (S : FnScope N ps scope) (len : ∀ vs H Q E, sp vs H Q E → vs.length = ps.length)
    (hbody : ∀ (cdv : Value) (A : Around) (outer : List Env) (s : Shared) (H : Hp) (vs : List V) (Q : VK) (E : XK), Room k (A.deeper (envOfC qual scope s.heap.objs.size f cdv)) → sp vs H Q E →
      ∃ t, PSs (cxOf CX0 P w K mg base N qual scope f cdv A outer s H E).nox body t ∧ t { nx := fun _ H' => Q .non H', rt := Q } (start N vs) H) : FnOk P w K mg base CX0 (k + 1) f fd ps sp := by
  refine F.ok S len fun cdv A outer s H vs Q E hr hsp => ?_
  obtain ⟨t, h, q⟩ := hbody cdv A outer s H vs Q E hr hsp
  exact ⟨t, h.nox, q⟩
/-- a def of the module: i its number among the defs, j its name's among the facts -/
theorem Ctx.mk1 (c : Ctx K mg) (i j : Nat) {d : He.DefD} {k : Nat} {x : Str} {ps : List Str} {dvs : List V} {sp : Sp} (hx : d.at_ = (x, none)) (hi : fn[i]? = some d) (hj : fa[j]? = some (.glo x))
    (body : ∀ fd, FunD K d.name d.qual d.params d.body d.scope (d.dvs K) (d.kws K) (He.fAd K d.at_) fd → (∃ ds, Vals dvs ds ∧ Binds K fd ps ds) ∧ FnOk P w K mg base CX0 k (He.fAd K d.at_) fd ps sp) : CallOk P w K mg base k x ps dvs sp := by
  obtain ⟨fd, F⟩ := c.says.def_ i hi
  obtain ⟨⟨ds, b1, b2⟩, b3⟩ := body fd F
  have e : He.fAd K d.at_ = He.ga K x := by rw [hx]; rfl
  rw [e] at b3
  have F2 := F.kp
  rw [e] at F2
  exact ⟨_, fd, ds, c.glo j hj, F2, b3, b2, b1⟩
theorem Ctx.mk1k (c : Ctx K mg) (i j : Nat) {d : He.DefD} {k n : Nat} {x : Str} {ps ks : List Str} {sp : Sp} (hx : d.at_ = (x, none)) (hi : fn[i]? = some d) (hj : fa[j]? = some (.glo x))
    (body : ∀ fd, FunD K d.name d.qual d.params d.body d.scope (d.dvs K) (d.kws K) (He.fAd K d.at_) fd → KBn K fd ps n ks (fun us ws => us ++ ws) (fun vs zs => vs ++ zs) ∧ FnOk P w K mg base CX0 k (He.fAd K d.at_) fd ps sp) : KCallOk P w K mg base k x ps n ks sp := by
  obtain ⟨fd, F⟩ := c.says.def_ i hi
  obtain ⟨b1, b3⟩ := body fd F
  have e : He.fAd K d.at_ = He.ga K x := by rw [hx]; rfl
  rw [e] at b3
  have F2 := F.kp
  rw [e] at F2
  exact ⟨_, fd, c.glo j hj, F2, b3, b1⟩
/-- a method -/
theorem Ctx.mk2 (c : Ctx K mg) (i j : Nat) {d : He.DefD} {k : Nat} {C x : Str} {ps : List Str} {sp : Sp} (hx : d.at_ = (C, some x)) (hi : fn[i]? = some d) (hj : fa[j]? = some (.meth C x))
    (body : ∀ fd, FunD K d.name d.qual d.params d.body d.scope (d.dvs K) (d.kws K) (He.fAd K d.at_) fd → Binds K fd ps [] ∧ FnOk P w K mg base CX0 k (He.fAd K d.at_) fd ps sp) : MethOk P w K mg base k (He.ga K C) x ps sp := by
  obtain ⟨fd, F⟩ := c.says.def_ i hi
  obtain ⟨b2, b3⟩ := body fd F
  have e : He.fAd K d.at_ = He.ma K (He.ga K C) x := by rw [hx]; rfl
  rw [e] at b3
  exact ⟨_, fd, c.meth j hj, b3, b2⟩
/-- a class's __init__ -/
theorem Ctx.mk3 (c : Ctx K mg) (i j : Nat) {d : He.DefD} {k : Nat} {C : Str} {ps : List Str} {sp : Sp} (hx : d.at_ = (C, some ("__init__" : Str))) (hi : fn[i]? = some d) (hj : fa[j]? = some (.mkr C))
    (body : ∀ fd, FunD K d.name d.qual d.params d.body d.scope (d.dvs K) (d.kws K) (He.fAd K d.at_) fd → Binds K fd ps [] ∧ FnOk P w K mg base CX0 k (He.fAd K d.at_) fd ps sp) : MakeOk P w K mg base k (He.ga K C) ps sp := by
  obtain ⟨fd, F⟩ := c.says.def_ i hi
  obtain ⟨b2, b3⟩ := body fd F
  have e : He.fAd K d.at_ = He.ma K (He.ga K C) "__init__" := by rw [hx]; rfl
  rw [e] at b3
  exact ⟨_, fd, c.mkr j hj, b3, b2⟩
end
end K29
set_option Elab.async false
set_option linter.all false
set_option maxRecDepth 100000
set_option maxHeartbeats 4000000
namespace K29
open PySem PySem.Spec PyProof.Rows L2
section
variable {P : Program} {w : World} {K : PySem.W.Frag} {mg : Str → Option Value} {base : Heap}
/-! ### is_whole -/
def spWhole : Sp := fun vs H Q _ => ∃ i : Int, vs = [.int i] ∧ Q (.bl true) H
theorem sc_is_whole : FnScope ["thing"] ["thing"] (defScope s_is_whole) := ⟨rfl, rfl, rfl, by decide +kernel, rfl, by decide +kernel, by decide +kernel⟩
theorem c_is_whole (c : Ctx K mg) : CallOk P w K mg base 1 "is_whole" ["thing"] [] spWhole := by
  refine c.mk1 0 0 (d := d_is_whole) rfl rfl rfl fun fd F => ⟨⟨[], .nil, F.bindsN fun _ _ _ _ _ _ us hl => match us, hl with | [_], _ => rfl⟩, okN F sc_is_whole (fun vs H Q E h => ?_) (fun cdv A outer s H vs Q E hr h => ?_)⟩
  · obtain ⟨i, rfl, _⟩ := h
    rfl
  · obtain ⟨i, rfl, k⟩ := h
    refine ⟨_, (pss_one (ps_ret (pe_and (pe_callB (id := "isinstance") (call_isiK2 (K := K) rfl) (by rfl) (c.free 49) (by decide +kernel) (pa_cons (pv 0) (pa_cons (pe_bltn (v := .ty "int") (by rfl) (c.free 50) (by decide +kernel) rfl) pa_nil))) (pe_one (pe_not (pe_callB (id := "isinstance") (call_isiK2 (K := K) rfl) (by rfl) (c.free 49) (by decide +kernel) (pa_cons (pv 0) (pa_cons (pe_bltn (v := .ty "bool") (by rfl) (c.free 51) (by decide +kernel) rfl) pa_nil)))))))), ?_⟩
    refine ⟨_, rfl, .int i, .ty "int", .type "int", .type "int", true, rfl, .ty "int", .base (.int i), kit_ty (by decide +kernel), true, rfl, ?_⟩
    refine iteT ?_
    exact ⟨_, rfl, .int i, .ty "bool", .type "int", .type "bool", false, rfl, .ty "bool", .base (.int i), kit_ty (by decide +kernel), false, rfl, k⟩
/-! ### common -/
def spCommon : Sp := fun vs H Q _ => ∃ a b : Int, vs = [.int a, .int b] ∧ Q (.int (Int.gcd a b : Int)) H
theorem abs_is (i : Int) : (if i < 0 then -i else i) = (i.natAbs : Int) := by
  split <;> omega
theorem sc_common : FnScope ["one", "other"] ["one", "other"] (defScope s_common) := ⟨rfl, rfl, rfl, by decide +kernel, rfl, by decide +kernel, by decide +kernel⟩
theorem c_common (c : Ctx K mg) : CallOk P w K mg base 1 "common" ["one", "other"] [] spCommon := by
  refine c.mk1 1 1 (d := d_common) rfl rfl rfl fun fd F => ⟨⟨[], .nil, F.bindsN fun _ _ _ _ _ _ us hl => match us, hl with | [_, _], _ => rfl⟩, okN F sc_common (fun vs H Q E h => ?_) (fun cdv A outer s H vs Q E hr h => ?_)⟩
  · obtain ⟨a, b, rfl, _⟩ := h
    rfl
  · obtain ⟨a, b, rfl, k⟩ := h
    refine ⟨_, (pss_cons (ps_par (i := 0) (j := 1) (by rfl) sc_common.nd rfl rfl (by decide) rfl rfl (pa_cons (pe_callB (id := "abs") call_abs (by rfl) (c.free 52) (by decide +kernel) (pa_cons (pv 0) pa_nil)) (pa_cons (pe_callB (id := "abs") call_abs (by rfl) (c.free 52) (by decide +kernel) (pa_cons (pv 1) pa_nil)) pa_nil)) (by rfl))
      (pss_cons (ps_while PassesOwn.never (pt_truth (pv 1) (by intro _; rfl)) (pss_one (ps_par (i := 0) (j := 1) (by rfl) sc_common.nd rfl rfl (by decide) rfl rfl (pa_cons (pv 1) (pa_cons (pe_op op_modN (pv 0) (pv 1)) pa_nil)) (by rfl))))
      (pss_one (ps_ret (pv 0))))), ?_⟩
    refine ⟨_, rfl, a, rfl, _, rfl, b, rfl, _, _, rfl, ?_⟩
    rw [abs_is, abs_is]
    refine ⟨fun n σ H' => ∃ x y : Nat, n = y ∧ σ = [some (.int x), some (.int y)] ∧ H' = H ∧ Nat.gcd x y = Int.gcd a b, ⟨_, a.natAbs, b.natAbs, rfl, rfl, rfl, rfl⟩, ?_⟩
    rintro n σ H' ⟨x, y, rfl, rfl, rfl, e⟩
    by_cases hy : n = 0
    · subst hy
      refine ⟨_, rfl, false, rfl, iteF ?_⟩
      refine ⟨_, rfl, ?_⟩
      have ex : x = Int.gcd a b := by rw [← e, Nat.gcd_zero_right]
      rw [ex]
      exact k
    · refine ⟨_, rfl, true, ?_, iteT ?_⟩
      · show true = ((n : Int) != 0)
        simp [hy]
      · refine ⟨fun σ' H2 => σ' = [some (.int n), some (.int ((x % n : Nat) : Int))] ∧ H2 = H', ?_, ?_⟩
        · rintro σ' H2 ⟨rfl, rfl⟩
          refine ⟨x % n, Nat.mod_lt _ (by omega), n, x % n, rfl, rfl, rfl, ?_⟩
          rw [← e, Nat.gcd_comm n, ← Nat.gcd_rec, Nat.gcd_comm]
        · refine ⟨_, rfl, _, rfl, _, rfl, _, _, rfl, rfl, (by omega), _, _, rfl, ?_⟩
          refine ⟨?_, rfl⟩
          have em : (x : Int).fmod (n : Int) = ((x % n : Nat) : Int) := by rw [Int.fmod_eq_emod_of_nonneg _ (by omega)]; rfl
          rw [← em]
          rfl
/-! ### part -/
theorem ite_no {c A B : Prop} [Decidable c] (hc : ¬ c) (h : B) : if decide c = true then A else B := by
  rw [decide_eq_false hc]
  exact iteF h
theorem ite_yes {c A B : Prop} [Decidable c] (hc : c) (h : A) : if decide c = true then A else B := by
  rw [decide_eq_true hc]
  exact iteT h
def spPart (K : PySem.W.Frag) : Sp := fun vs H Q _ => ∃ t b : Int, vs = [.int t, .int b] ∧ b ≠ 0 ∧ b.natAbs < 2 ^ 9000 ∧ ∀ v H', Same H H' → IsP K H' v (Rat.divInt t b) → Q v H'
theorem byOf_div {t b x : Int} (hb : b ≠ 0) (h9 : b.natAbs < 2 ^ 9000) : CDivX x (byOf t b) := divX (b := 9000) (byOf_ne hb) (Nat.lt_of_le_of_lt (byOf_le hb) h9) (by decide) (Nat.le_refl _)
theorem tup2 {K : PySem.W.Frag} {H : Hp} {t b : Int} (hb : b ≠ 0) {Q : VK} (k : ∀ v H', Same H H' → IsP K H' v (Rat.divInt t b) → Q v H') (p : Addr) (hp : H p = none) {z y : Int} (ez : z = t.fdiv (byOf t b)) (ey : y = b.fdiv (byOf t b)) :
    Q (.ref p) (upd H p (.tup [.int z, .int y])) := by
  obtain ⟨e1, e2⟩ := part_is (t := t) hb
  rw [ez, ey, e1, e2]
  exact k _ _ (same_new hp) (IsP.new _)
theorem sc_part : FnScope ["top", "bottom", "by"] ["top", "bottom"] (defScope s_part) := ⟨rfl, rfl, rfl, by decide +kernel, rfl, by decide +kernel, by decide +kernel⟩
theorem c_part (c : Ctx K mg) : CallOk P w K mg base 2 "part" ["top", "bottom"] [] (spPart K) := by
  refine c.mk1 2 2 (d := d_part) rfl rfl rfl fun fd F => ⟨⟨[], .nil, by obtain ⟨ds, h1, h2⟩ := F.binds1 (ps := ["top", "bottom"]) 2 1 (fun e => nomatch e) rfl (fun T kV doc pm an cdv ct us its hu hi => match us, its, hu, hi with | [_, _], [_], _, _ => ⟨_, rfl, by kernel_rfl⟩); cases h1; exact h2⟩, okN F sc_part (fun vs H Q E h => ?_) (fun cdv A outer s H vs Q E hr h => ?_)⟩
  · obtain ⟨t, b, rfl, _⟩ := h
    rfl
  · obtain ⟨t, b, rfl, hb, h9, k⟩ := h
    refine ⟨_, (pss_cons (ps_if (PW.pt (pw_or (pt_not (pt_val (pe_c (c_is_whole c) (hr.mono (by decide)) rfl (pa_cons (pv 0) pa_nil)))) (pw_or (pt_not (pt_val (pe_c (c_is_whole c) (hr.mono (by decide)) rfl (pa_cons (pv 1) pa_nil)))) (pw_or1 (pt_cmpR op_eq (pv 1) pe_int (nomark _)))))) (pss_one ps_never) pss_nil)
      (pss_cons (ps_set (i := 2) sc_part.nd rfl (by first | exact Or.inl rfl | exact Or.inr rfl) (pe_c (c_common c) (hr.mono (by decide)) rfl (pa_cons (pv 0) (pa_cons (pv 1) pa_nil))))
      (pss_cons (ps_if (pt_cmpR op_lt (pv 1) pe_int (nomark _)) (pss_one (ps_set (i := 2) sc_part.nd rfl (by first | exact Or.inl rfl | exact Or.inr rfl) (pe_un un_neg (pv 2)))) pss_nil)
      (pss_one (ps_ret (pe_tup (pa_cons (pe_op op_fdivX (pv 0) (pv 2)) (pa_cons (pe_op op_fdivX (pv 1) (pv 2)) pa_nil)))))))), ?_⟩
    refine ⟨_, rfl, t, rfl, true, rfl, iteF ?_⟩
    refine ⟨_, rfl, b, rfl, true, rfl, iteF ?_⟩
    refine ⟨_, rfl, rfl, _, rfl, ite_no (fun e => hb (by cases e; rfl)) ?_⟩
    refine ⟨_, rfl, _, rfl, t, b, rfl, ?_⟩
    refine ⟨_, rfl, _, _, rfl, rfl, _, rfl, ite2 (fun hn => ?_) (fun hn => ?_)⟩
    · have hn : b < 0 := of_decide_eq_true hn
      have eb : byOf t b = -(Int.gcd t b : Int) := by unfold byOf; rw [if_pos hn]
      refine ⟨_, rfl, _, rfl, ?_⟩
      refine ⟨_, rfl, _, rfl, _, _, rfl, rfl, ?_, ?_⟩
      · rw [← eb]; exact byOf_div hb h9
      · refine ⟨_, rfl, _, rfl, _, _, rfl, rfl, ?_, (by show 2 ≤ sizeLine; decide), fun p hp => ?_⟩
        · rw [← eb]; exact byOf_div hb h9
        · exact tup2 hb k p hp (by rw [eb]) (by rw [eb])
    · have hn : ¬ b < 0 := fun q => hn (decide_eq_true q)
      have eb : byOf t b = (Int.gcd t b : Int) := by unfold byOf; rw [if_neg hn]
      refine ⟨_, rfl, _, rfl, _, _, rfl, rfl, ?_, ?_⟩
      · rw [← eb]; exact byOf_div hb h9
      · refine ⟨_, rfl, _, rfl, _, _, rfl, rfl, ?_, (by show 2 ≤ sizeLine; decide), fun p hp => ?_⟩
        · rw [← eb]; exact byOf_div hb h9
        · exact tup2 hb k p hp (by rw [eb]) (by rw [eb])
end
end K29
set_option Elab.async false
set_option linter.all false
set_option maxRecDepth 100000
set_option maxHeartbeats 4000000
namespace K29
open PySem PySem.Spec PyProof.Rows L2
section
variable {P : Program} {w : World} {K : PySem.W.Frag} {mg : Str → Option Value} {base : Heap}
/-! ### sizes -/
theorem sz_nn {q r : Rat} (h : Sz 4000 q) (k : Sz 4000 r) : CMulW q.num r.num := mulX h.1 k.1 (by decide) (by decide) (by decide)
theorem sz_nd {q r : Rat} (h : Sz 4000 q) (k : Sz 4000 r) : CMulW q.num (r.den : Int) := mulX h.1 (by rw [Int.natAbs_natCast]; exact k.2) (by decide) (by decide) (by decide)
theorem sz_dn {q r : Rat} (h : Sz 4000 q) (k : Sz 4000 r) : CMulW (q.den : Int) r.num := mulX (by rw [Int.natAbs_natCast]; exact h.2) k.1 (by decide) (by decide) (by decide)
theorem sz_dd {q r : Rat} (h : Sz 4000 q) (k : Sz 4000 r) : CMulW (q.den : Int) (r.den : Int) := mulX (by rw [Int.natAbs_natCast]; exact h.2) (by rw [Int.natAbs_natCast]; exact k.2) (by decide) (by decide) (by decide)
theorem b9_dd {q r : Rat} (h : Sz 4000 q) (k : Sz 4000 r) : ((q.den : Int) * r.den).natAbs < 2 ^ 9000 := by
  rw [Int.natAbs_mul, Int.natAbs_natCast, Int.natAbs_natCast]
  exact Nat.lt_of_lt_of_le (mul_lt_pow h.2 k.2) (Nat.pow_le_pow_right (by decide) (by decide))
theorem b9_dn {q r : Rat} (h : Sz 4000 q) (k : Sz 4000 r) : ((q.den : Int) * r.num).natAbs < 2 ^ 9000 := by
  rw [Int.natAbs_mul, Int.natAbs_natCast]
  exact Nat.lt_of_lt_of_le (mul_lt_pow h.2 k.1) (Nat.pow_le_pow_right (by decide) (by decide))
theorem nz_dd (q r : Rat) : (q.den : Int) * r.den ≠ 0 := Int.mul_ne_zero (den_ne q) (den_ne r)
theorem nz_dn {q r : Rat} (h : r ≠ 0) : (q.den : Int) * r.num ≠ 0 := Int.mul_ne_zero (den_ne q) (fun e => h (Rat.num_eq_zero.mp e))
theorem num_pos_den (q : Rat) : (0 : Int) < (q.den : Int) := by
  have := q.den_pos
  omega
/-! ### is_part -/
def spIsPart (K : PySem.W.Frag) : Sp := fun vs H Q _ => ∃ (v : V) (q : Rat), vs = [v] ∧ IsP K H v q ∧ Q (.bl true) H
theorem sc_is_part : FnScope ["thing", "top", "bottom"] ["thing"] (defScope s_is_part) := ⟨rfl, rfl, rfl, by decide +kernel, rfl, by decide +kernel, by decide +kernel⟩
theorem c_is_part (c : Ctx K mg) : CallOk P w K mg base 2 "is_part" ["thing"] [] (spIsPart K) := by
  refine c.mk1 3 3 (d := d_is_part) rfl rfl rfl fun fd F => ⟨⟨[], .nil, F.bindsN fun _ _ _ _ _ _ us hl => match us, hl with | [_], _ => rfl⟩, okN F sc_is_part (fun vs H Q E h => ?_) (fun cdv A outer s H vs Q E hr h => ?_)⟩
  · obtain ⟨v, q, rfl, _⟩ := h
    rfl
  · obtain ⟨v, q, rfl, ⟨a, rfl, ht⟩, k⟩ := h
    refine ⟨_, (pss_cons (ps_if (PW.pt (pw_or (pt_not (pt_val (pe_callB (id := "isinstance") (call_isiK2 (K := K) rfl) (by rfl) (c.free 49) (by decide +kernel) (pa_cons (pv 0) (pa_cons (pe_bltn (v := .ty "tuple") (by rfl) (c.free 53) (by decide +kernel) rfl) pa_nil))))) (pw_or1 (pt_cmpR op_ne (pe_callB (id := "len") (call_lenK (K := K) rfl) (by rfl) (c.free 56) (by decide +kernel) (pa_cons (pv 0) pa_nil)) pe_int (nomark _))))) (pss_one (ps_ret pe_bl)) pss_nil)
      (pss_cons (ps_asg (pv 0) (pg_tupK (K := K) (n := 2) rfl rfl (pgs_cons (pg_name (i := 1) sc_is_part.nd rfl (by first | exact Or.inl rfl | exact Or.inr rfl)) (pgs_cons (pg_name (i := 2) sc_is_part.nd rfl (by first | exact Or.inl rfl | exact Or.inr rfl)) pgs_nil))))
      (pss_cons (ps_if (PW.pt (pw_or (pt_not (pt_val (pe_c (c_is_whole c) (hr.mono (by decide)) rfl (pa_cons (pv 1) pa_nil)))) (pw_or1 (pt_not (pt_val (pe_c (c_is_whole c) (hr.mono (by decide)) rfl (pa_cons (pv 2) pa_nil))))))) (pss_one (ps_ret pe_bl)) pss_nil)
      (pss_one (ps_ret (pe_and (pe_cmpR op_gt (pv 2) pe_int (nomark _)) (pe_one (pe_cmpR op_eq (pe_c (c_common c) (hr.mono (by decide)) rfl (pa_cons (pv 1) (pa_cons (pv 2) pa_nil))) pe_int (nomark _))))))))), ?_⟩
    refine ⟨_, rfl, .ref a, .ty "tuple", .type "tuple", .type "tuple", true, rfl, .ty _, ty_t ht, kit_ty (by decide +kernel), true, rfl, iteF ?_⟩
    refine ⟨_, rfl, a, _, rfl, .inr ht, rfl, _, rfl, iteNS rfl ?_⟩
    refine ⟨_, rfl, a, _, rfl, ht, rfl, _, _, rfl, _, _, rfl, rfl, ?_⟩
    refine ⟨_, rfl, _, rfl, true, rfl, iteF ?_⟩
    refine ⟨_, rfl, _, rfl, true, rfl, iteF ?_⟩
    refine ⟨_, rfl, _, _, rfl, rfl, _, rfl, ite_yes (num_pos_den q) ?_⟩
    refine ⟨_, rfl, _, rfl, _, _, rfl, rfl, ?_⟩
    have e : decide (V.int (Int.gcd q.num (q.den : Int) : Int) = V.int 1) = true := decide_eq_true (by rw [gcd_one]; rfl)
    show Q (.bl (decide (V.int (Int.gcd q.num (q.den : Int) : Int) = V.int 1))) H
    rw [e]
    exact k
/-! ### plus, times, over -/
/-- two fractions at v and u: what f tells, where C stands -/
def spBin (K : PySem.W.Frag) (C : Rat → Rat → Prop) (f : Rat → Rat → Rat) : Sp := fun vs H Q _ => ∃ (v u : V) (q r : Rat), vs = [v, u] ∧ IsP K H v q ∧ IsP K H u r ∧ Sz 4000 q ∧ Sz 4000 r ∧ C q r ∧ ∀ z H', Same H H' → IsP K H' z (f q r) → Q z H'
theorem sc_plus : FnScope ["one", "other"] ["one", "other"] (defScope s_plus) := ⟨rfl, rfl, rfl, by decide +kernel, rfl, by decide +kernel, by decide +kernel⟩
theorem c_plus (c : Ctx K mg) : CallOk P w K mg base 3 "plus" ["one", "other"] [] (spBin K (fun _ _ => True) (fun q r => q + r)) := by
  refine c.mk1 4 4 (d := d_plus) rfl rfl rfl fun fd F => ⟨⟨[], .nil, F.bindsN fun _ _ _ _ _ _ us hl => match us, hl with | [_, _], _ => rfl⟩, okN F sc_plus (fun vs H Q E h => ?_) (fun cdv A outer s H vs Q E hr h => ?_)⟩
  · obtain ⟨v, u, q, r, rfl, _⟩ := h
    rfl
  · obtain ⟨v, u, q, r, rfl, ⟨a, rfl, ha⟩, ⟨b, rfl, hb⟩, hq, hr2, _, k⟩ := h
    refine ⟨_, (pss_one (ps_ret (pe_c (c_part c) (hr.mono (by decide)) rfl (pa_cons (pe_op op_add (pe_op op_mulW (pe_ix (ix_tupK (K := K) rfl) (pv 0) pe_int (fun _ _ => rfl)) (pe_ix (ix_tupK (K := K) rfl) (pv 1) pe_int (fun _ _ => rfl))) (pe_op op_mulW (pe_ix (ix_tupK (K := K) rfl) (pv 1) pe_int (fun _ _ => rfl)) (pe_ix (ix_tupK (K := K) rfl) (pv 0) pe_int (fun _ _ => rfl)))) (pa_cons (pe_op op_mulW (pe_ix (ix_tupK (K := K) rfl) (pv 0) pe_int (fun _ _ => rfl)) (pe_ix (ix_tupK (K := K) rfl) (pv 1) pe_int (fun _ _ => rfl))) pa_nil))))), ?_⟩
    refine ⟨_, rfl, a, _, _, _, rfl, rfl, ha, rfl, _, rfl, b, _, _, _, rfl, rfl, hb, rfl, _, _, rfl, rfl, sz_nd hq hr2, _, rfl, b, _, _, _, rfl, rfl, hb, rfl, _, rfl, a, _, _, _, rfl, rfl, ha, rfl, _, _, rfl, rfl, sz_nd hr2 hq, _, _, rfl, rfl, ?_⟩
    refine ⟨_, rfl, a, _, _, _, rfl, rfl, ha, rfl, _, rfl, b, _, _, _, rfl, rfl, hb, rfl, _, _, rfl, rfl, sz_dd hq hr2, _, _, rfl, nz_dd q r, b9_dd hq hr2, fun z H' e hz => k z H' e (hz.eq (add_eq q r).symm)⟩
theorem sc_times : FnScope ["one", "other"] ["one", "other"] (defScope s_times) := ⟨rfl, rfl, rfl, by decide +kernel, rfl, by decide +kernel, by decide +kernel⟩
theorem c_times (c : Ctx K mg) : CallOk P w K mg base 3 "times" ["one", "other"] [] (spBin K (fun _ _ => True) (fun q r => q * r)) := by
  refine c.mk1 5 5 (d := d_times) rfl rfl rfl fun fd F => ⟨⟨[], .nil, F.bindsN fun _ _ _ _ _ _ us hl => match us, hl with | [_, _], _ => rfl⟩, okN F sc_times (fun vs H Q E h => ?_) (fun cdv A outer s H vs Q E hr h => ?_)⟩
  · obtain ⟨v, u, q, r, rfl, _⟩ := h
    rfl
  · obtain ⟨v, u, q, r, rfl, ⟨a, rfl, ha⟩, ⟨b, rfl, hb⟩, hq, hr2, _, k⟩ := h
    refine ⟨_, (pss_one (ps_ret (pe_c (c_part c) (hr.mono (by decide)) rfl (pa_cons (pe_op op_mulW (pe_ix (ix_tupK (K := K) rfl) (pv 0) pe_int (fun _ _ => rfl)) (pe_ix (ix_tupK (K := K) rfl) (pv 1) pe_int (fun _ _ => rfl))) (pa_cons (pe_op op_mulW (pe_ix (ix_tupK (K := K) rfl) (pv 0) pe_int (fun _ _ => rfl)) (pe_ix (ix_tupK (K := K) rfl) (pv 1) pe_int (fun _ _ => rfl))) pa_nil))))), ?_⟩
    refine ⟨_, rfl, a, _, _, _, rfl, rfl, ha, rfl, _, rfl, b, _, _, _, rfl, rfl, hb, rfl, _, _, rfl, rfl, sz_nn hq hr2, _, rfl, a, _, _, _, rfl, rfl, ha, rfl, _, rfl, b, _, _, _, rfl, rfl, hb, rfl, _, _, rfl, rfl, sz_dd hq hr2, _, _, rfl, nz_dd q r, b9_dd hq hr2, fun z H' e hz => k z H' e (hz.eq (mul_eq q r).symm)⟩
theorem sc_over : FnScope ["one", "other"] ["one", "other"] (defScope s_over) := ⟨rfl, rfl, rfl, by decide +kernel, rfl, by decide +kernel, by decide +kernel⟩
theorem c_over (c : Ctx K mg) : CallOk P w K mg base 3 "over" ["one", "other"] [] (spBin K (fun _ r => r ≠ 0) (fun q r => q / r)) := by
  refine c.mk1 6 6 (d := d_over) rfl rfl rfl fun fd F => ⟨⟨[], .nil, F.bindsN fun _ _ _ _ _ _ us hl => match us, hl with | [_, _], _ => rfl⟩, okN F sc_over (fun vs H Q E h => ?_) (fun cdv A outer s H vs Q E hr h => ?_)⟩
  · obtain ⟨v, u, q, r, rfl, _⟩ := h
    rfl
  · obtain ⟨v, u, q, r, rfl, ⟨a, rfl, ha⟩, ⟨b, rfl, hb⟩, hq, hr2, hn, k⟩ := h
    refine ⟨_, (pss_cons (ps_if (pt_cmpR op_eq (pe_ix (ix_tupK (K := K) rfl) (pv 1) pe_int (fun _ _ => rfl)) pe_int (nomark _)) (pss_one ps_never) pss_nil)
      (pss_one (ps_ret (pe_c (c_part c) (hr.mono (by decide)) rfl (pa_cons (pe_op op_mulW (pe_ix (ix_tupK (K := K) rfl) (pv 0) pe_int (fun _ _ => rfl)) (pe_ix (ix_tupK (K := K) rfl) (pv 1) pe_int (fun _ _ => rfl))) (pa_cons (pe_op op_mulW (pe_ix (ix_tupK (K := K) rfl) (pv 0) pe_int (fun _ _ => rfl)) (pe_ix (ix_tupK (K := K) rfl) (pv 1) pe_int (fun _ _ => rfl))) pa_nil)))))), ?_⟩
    refine ⟨_, rfl, b, _, _, _, rfl, rfl, hb, rfl, rfl, _, rfl, ite_no (fun e => hn (Rat.num_eq_zero.mp (V.int.inj e))) ?_⟩
    refine ⟨_, rfl, a, _, _, _, rfl, rfl, ha, rfl, _, rfl, b, _, _, _, rfl, rfl, hb, rfl, _, _, rfl, rfl, sz_nd hq hr2, _, rfl, a, _, _, _, rfl, rfl, ha, rfl, _, rfl, b, _, _, _, rfl, rfl, hb, rfl, _, _, rfl, rfl, sz_dn hq hr2, _, _, rfl, nz_dn hn, b9_dn hq hr2, fun z H' e hz => k z H' e (hz.eq (div_eq q r).symm)⟩
end
end K29
set_option Elab.async false
set_option linter.all false
set_option maxRecDepth 100000
set_option maxHeartbeats 4000000
namespace K29
open PySem PySem.Spec PyProof.Rows L2
section
variable {P : Program} {w : World} {K : PySem.W.Frag} {mg : Str → Option Value} {base : Heap}
/-! ### width, in_bounds -/
theorem min_is (n d i : Nat) (h : i < n) : (if ((n : Int) - 1 - (i : Int)) < (d : Int) then ((n : Int) - 1 - (i : Int)) else (d : Int)) + 1 = (wd n d i : Int) := by
  unfold wd
  split <;> omega
def spWidth : Sp := fun vs H Q _ => ∃ n d i : Nat, vs = [.int n, .int d, .int i] ∧ i < n ∧ Q (.int (wd n d i : Int)) H
theorem sc_width : FnScope ["count", "depth", "place"] ["count", "depth", "place"] (defScope s_width) := ⟨rfl, rfl, rfl, by decide +kernel, rfl, by decide +kernel, by decide +kernel⟩
theorem c_width (c : Ctx K mg) : CallOk P w K mg base 1 "width" ["count", "depth", "place"] [] spWidth := by
  refine c.mk1 15 15 (d := d_width) rfl rfl rfl fun fd F => ⟨⟨[], .nil, F.bindsN fun _ _ _ _ _ _ us hl => match us, hl with | [_, _, _], _ => rfl⟩, okN F sc_width (fun vs H Q E h => ?_) (fun cdv A outer s H vs Q E hr h => ?_)⟩
  · obtain ⟨n, d, i, rfl, _⟩ := h
    rfl
  · obtain ⟨n, d, i, rfl, hi, k⟩ := h
    refine ⟨_, (pss_one (ps_ret (pe_op op_add (pe_callB (id := "min") (call_min2 rfl) (by rfl) (c.free 61) (by decide +kernel) (pa_cons (pv 1) (pa_cons (pe_op op_sub (pe_op op_sub (pv 0) pe_int) (pv 2)) pa_nil))) pe_int))), ?_⟩
    refine ⟨_, rfl, _, rfl, _, _, rfl, rfl, _, rfl, _, _, rfl, rfl, _, _, rfl, _, _, rfl, rfl, ?_⟩
    show Q (.int ((if ((n : Int) - 1 - (i : Int)) < (d : Int) then ((n : Int) - 1 - (i : Int)) else (d : Int)) + 1)) H
    rw [min_is n d i hi]
    exact k
theorem sc_l_wide : FnScope ["_law_count", "_law_deep", "_law_place"] ["_law_count", "_law_deep", "_law_place"] (defScope s_l_wide) := ⟨rfl, rfl, rfl, by decide +kernel, rfl, by decide +kernel, by decide +kernel⟩
theorem c_l_wide (c : Ctx K mg) : CallOk P w K mg base 1 "_law_wide" ["_law_count", "_law_deep", "_law_place"] [] spWidth := by
  refine c.mk1 27 27 (d := d_l_wide) rfl rfl rfl fun fd F => ⟨⟨[], .nil, F.bindsN fun _ _ _ _ _ _ us hl => match us, hl with | [_, _, _], _ => rfl⟩, okN F sc_l_wide (fun vs H Q E h => ?_) (fun cdv A outer s H vs Q E hr h => ?_)⟩
  · obtain ⟨n, d, i, rfl, _⟩ := h
    rfl
  · obtain ⟨n, d, i, rfl, hi, k⟩ := h
    refine ⟨_, (pss_one (ps_ret (pe_op op_add (pe_callB (id := "min") (call_min2 rfl) (by rfl) (c.free 61) (by decide +kernel) (pa_cons (pv 1) (pa_cons (pe_op op_sub (pe_op op_sub (pv 0) pe_int) (pv 2)) pa_nil))) pe_int))), ?_⟩
    refine ⟨_, rfl, _, rfl, _, _, rfl, rfl, _, rfl, _, _, rfl, rfl, _, _, rfl, _, _, rfl, rfl, ?_⟩
    show Q (.int ((if ((n : Int) - 1 - (i : Int)) < (d : Int) then ((n : Int) - 1 - (i : Int)) else (d : Int)) + 1)) H
    rw [min_is n d i hi]
    exact k
def spInB : Sp := fun vs H Q _ => ∃ i lo hi : Int, vs = [.int i, .int lo, .int hi] ∧ lo ≤ i ∧ i ≤ hi ∧ Q (.bl true) H
theorem sc_in_bounds : FnScope ["thing", "least", "most"] ["thing", "least", "most"] (defScope s_in_bounds) := ⟨rfl, rfl, rfl, by decide +kernel, rfl, by decide +kernel, by decide +kernel⟩
theorem c_in_bounds (c : Ctx K mg) : CallOk P w K mg base 2 "in_bounds" ["thing", "least", "most"] [] spInB := by
  refine c.mk1 16 16 (d := d_in_bounds) rfl rfl rfl fun fd F => ⟨⟨[], .nil, F.bindsN fun _ _ _ _ _ _ us hl => match us, hl with | [_, _, _], _ => rfl⟩, okN F sc_in_bounds (fun vs H Q E h => ?_) (fun cdv A outer s H vs Q E hr h => ?_)⟩
  · obtain ⟨i, lo, hi, rfl, _⟩ := h
    rfl
  · obtain ⟨i, lo, hi, rfl, h1, h2, k⟩ := h
    refine ⟨_, (pss_one (ps_ret (pe_and (pe_c (c_is_whole c) (hr.mono (by decide)) rfl (pa_cons (pv 0) pa_nil)) (pe_one (pe_chain op_le op_le (pv 1) (pv 0) (pv 2)))))), ?_⟩
    refine ⟨_, rfl, _, rfl, _, rfl, iteT ?_⟩
    refine ⟨_, rfl, _, rfl, _, _, rfl, rfl, _, rfl, ite_yes h1 ?_⟩
    refine ⟨_, rfl, _, _, rfl, rfl, ?_⟩
    show Q (.bl (decide (i ≤ hi))) H
    rw [decide_eq_true h2]
    exact k
/-! ### the law's own fractions -/
theorem sc_l_low : FnScope ["_law_top", "_law_bottom", "_law_one", "_law_two"] ["_law_top", "_law_bottom"] (defScope s_l_low) := ⟨rfl, rfl, rfl, by decide +kernel, rfl, by decide +kernel, by decide +kernel⟩
theorem c_l_low (c : Ctx K mg) : CallOk P w K mg base 1 "_law_low" ["_law_top", "_law_bottom"] [] (spPart K) := by
  refine c.mk1 23 23 (d := d_l_low) rfl rfl rfl fun fd F => ⟨⟨[], .nil, F.bindsN fun _ _ _ _ _ _ us hl => match us, hl with | [_, _], _ => rfl⟩, okN F sc_l_low (fun vs H Q E h => ?_) (fun cdv A outer s H vs Q E hr h => ?_)⟩
  · obtain ⟨t, b, rfl, _⟩ := h
    rfl
  · obtain ⟨t, b, rfl, hb, h9, k⟩ := h
    refine ⟨_, (pss_cons (ps_set (i := 2) sc_l_low.nd rfl (by first | exact Or.inl rfl | exact Or.inr rfl) (pe_callB (id := "abs") call_abs (by rfl) (c.free 52) (by decide +kernel) (pa_cons (pv 0) pa_nil)))
      (pss_cons (ps_set (i := 3) sc_l_low.nd rfl (by first | exact Or.inl rfl | exact Or.inr rfl) (pe_callB (id := "abs") call_abs (by rfl) (c.free 52) (by decide +kernel) (pa_cons (pv 1) pa_nil)))
      (pss_cons (ps_while PassesOwn.never (pt_truth (pv 3) (by intro _; rfl)) (pss_one (ps_par (i := 2) (j := 3) (by rfl) sc_l_low.nd rfl rfl (by decide) rfl rfl (pa_cons (pv 3) (pa_cons (pe_op op_modN (pv 2) (pv 3)) pa_nil)) (by rfl))))
      (pss_cons (ps_if (pt_cmpR op_lt (pv 1) pe_int (nomark _)) (pss_one (ps_set (i := 2) sc_l_low.nd rfl (by first | exact Or.inl rfl | exact Or.inr rfl) (pe_un un_neg (pv 2)))) pss_nil)
      (pss_one (ps_ret (pe_tup (pa_cons (pe_op op_fdivX (pv 0) (pv 2)) (pa_cons (pe_op op_fdivX (pv 1) (pv 2)) pa_nil))))))))), ?_⟩
    refine ⟨_, rfl, _, rfl, _, rfl, _, rfl, ?_⟩
    rw [abs_is, abs_is]
    refine ⟨fun n σ H' => ∃ x y : Nat, n = y ∧ σ = [some (.int t), some (.int b), some (.int x), some (.int y)] ∧ H' = H ∧ Nat.gcd x y = Int.gcd t b, ⟨_, t.natAbs, b.natAbs, rfl, rfl, rfl, rfl⟩, ?_⟩
    rintro n σ H' ⟨x, y, rfl, rfl, rfl, e⟩
    by_cases hy : n = 0
    · subst hy
      refine ⟨_, rfl, false, rfl, iteF ?_⟩
      have ex : x = Int.gcd t b := by rw [← e, Nat.gcd_zero_right]
      subst ex
      refine ⟨_, rfl, _, _, rfl, rfl, _, rfl, ite2 (fun hn => ?_) (fun hn => ?_)⟩
      · have hn : b < 0 := of_decide_eq_true hn
        have eb : byOf t b = -(Int.gcd t b : Int) := by unfold byOf; rw [if_pos hn]
        refine ⟨_, rfl, _, rfl, ?_⟩
        refine ⟨_, rfl, _, rfl, _, _, rfl, rfl, ?_, ?_⟩
        · rw [← eb]; exact byOf_div hb h9
        · refine ⟨_, rfl, _, rfl, _, _, rfl, rfl, ?_, (by show 2 ≤ sizeLine; decide), fun p hp => ?_⟩
          · rw [← eb]; exact byOf_div hb h9
          · exact tup2 hb k p hp (by rw [eb]) (by rw [eb])
      · have hn : ¬ b < 0 := fun q => hn (decide_eq_true q)
        have eb : byOf t b = (Int.gcd t b : Int) := by unfold byOf; rw [if_neg hn]
        refine ⟨_, rfl, _, rfl, _, _, rfl, rfl, ?_, ?_⟩
        · rw [← eb]; exact byOf_div hb h9
        · refine ⟨_, rfl, _, rfl, _, _, rfl, rfl, ?_, (by show 2 ≤ sizeLine; decide), fun p hp => ?_⟩
          · rw [← eb]; exact byOf_div hb h9
          · exact tup2 hb k p hp (by rw [eb]) (by rw [eb])
    · refine ⟨_, rfl, true, ?_, iteT ?_⟩
      · show true = ((n : Int) != 0)
        simp [hy]
      · refine ⟨fun σ' H2 => σ' = [some (.int t), some (.int b), some (.int n), some (.int ((x % n : Nat) : Int))] ∧ H2 = H', ?_, ?_⟩
        · rintro σ' H2 ⟨rfl, rfl⟩
          refine ⟨x % n, Nat.mod_lt _ (by omega), n, x % n, rfl, rfl, rfl, ?_⟩
          rw [← e, Nat.gcd_comm n, ← Nat.gcd_rec, Nat.gcd_comm]
        · refine ⟨_, rfl, _, rfl, _, rfl, _, _, rfl, rfl, (by omega), _, _, rfl, ?_⟩
          refine ⟨?_, rfl⟩
          have em : (x : Int).fmod (n : Int) = ((x % n : Nat) : Int) := by rw [Int.fmod_eq_emod_of_nonneg _ (by omega)]; rfl
          rw [← em]
          rfl
theorem sc_l_less : FnScope ["_law_a", "_law_b"] ["_law_a", "_law_b"] (defScope s_l_less) := ⟨rfl, rfl, rfl, by decide +kernel, rfl, by decide +kernel, by decide +kernel⟩
theorem c_l_less (c : Ctx K mg) : CallOk P w K mg base 2 "_law_less" ["_law_a", "_law_b"] [] (spBin K (fun _ _ => True) (fun q r => q - r)) := by
  refine c.mk1 24 24 (d := d_l_less) rfl rfl rfl fun fd F => ⟨⟨[], .nil, F.bindsN fun _ _ _ _ _ _ us hl => match us, hl with | [_, _], _ => rfl⟩, okN F sc_l_less (fun vs H Q E h => ?_) (fun cdv A outer s H vs Q E hr h => ?_)⟩
  · obtain ⟨v, u, q, r, rfl, _⟩ := h
    rfl
  · obtain ⟨v, u, q, r, rfl, ⟨a, rfl, ha⟩, ⟨b, rfl, hb⟩, hq, hr2, _, k⟩ := h
    refine ⟨_, (pss_one (ps_ret (pe_c (c_l_low c) (hr.mono (by decide)) rfl (pa_cons (pe_op op_sub (pe_op op_mulW (pe_ix (ix_tupK (K := K) rfl) (pv 0) pe_int (fun _ _ => rfl)) (pe_ix (ix_tupK (K := K) rfl) (pv 1) pe_int (fun _ _ => rfl))) (pe_op op_mulW (pe_ix (ix_tupK (K := K) rfl) (pv 1) pe_int (fun _ _ => rfl)) (pe_ix (ix_tupK (K := K) rfl) (pv 0) pe_int (fun _ _ => rfl)))) (pa_cons (pe_op op_mulW (pe_ix (ix_tupK (K := K) rfl) (pv 0) pe_int (fun _ _ => rfl)) (pe_ix (ix_tupK (K := K) rfl) (pv 1) pe_int (fun _ _ => rfl))) pa_nil))))), ?_⟩
    refine ⟨_, rfl, a, _, _, _, rfl, rfl, ha, rfl, _, rfl, b, _, _, _, rfl, rfl, hb, rfl, _, _, rfl, rfl, sz_nd hq hr2, _, rfl, b, _, _, _, rfl, rfl, hb, rfl, _, rfl, a, _, _, _, rfl, rfl, ha, rfl, _, _, rfl, rfl, sz_nd hr2 hq, _, _, rfl, rfl, ?_⟩
    refine ⟨_, rfl, a, _, _, _, rfl, rfl, ha, rfl, _, rfl, b, _, _, _, rfl, rfl, hb, rfl, _, _, rfl, rfl, sz_dd hq hr2, _, _, rfl, nz_dd q r, b9_dd hq hr2, fun z H' e hz => k z H' e (hz.eq (sub_eq q r).symm)⟩
theorem sc_l_add : FnScope ["_law_a", "_law_b"] ["_law_a", "_law_b"] (defScope s_l_add) := ⟨rfl, rfl, rfl, by decide +kernel, rfl, by decide +kernel, by decide +kernel⟩
theorem c_l_add (c : Ctx K mg) : CallOk P w K mg base 2 "_law_add" ["_law_a", "_law_b"] [] (spBin K (fun _ _ => True) (fun q r => q + r)) := by
  refine c.mk1 31 31 (d := d_l_add) rfl rfl rfl fun fd F => ⟨⟨[], .nil, F.bindsN fun _ _ _ _ _ _ us hl => match us, hl with | [_, _], _ => rfl⟩, okN F sc_l_add (fun vs H Q E h => ?_) (fun cdv A outer s H vs Q E hr h => ?_)⟩
  · obtain ⟨v, u, q, r, rfl, _⟩ := h
    rfl
  · obtain ⟨v, u, q, r, rfl, ⟨a, rfl, ha⟩, ⟨b, rfl, hb⟩, hq, hr2, _, k⟩ := h
    refine ⟨_, (pss_one (ps_ret (pe_c (c_l_low c) (hr.mono (by decide)) rfl (pa_cons (pe_op op_add (pe_op op_mulW (pe_ix (ix_tupK (K := K) rfl) (pv 0) pe_int (fun _ _ => rfl)) (pe_ix (ix_tupK (K := K) rfl) (pv 1) pe_int (fun _ _ => rfl))) (pe_op op_mulW (pe_ix (ix_tupK (K := K) rfl) (pv 1) pe_int (fun _ _ => rfl)) (pe_ix (ix_tupK (K := K) rfl) (pv 0) pe_int (fun _ _ => rfl)))) (pa_cons (pe_op op_mulW (pe_ix (ix_tupK (K := K) rfl) (pv 0) pe_int (fun _ _ => rfl)) (pe_ix (ix_tupK (K := K) rfl) (pv 1) pe_int (fun _ _ => rfl))) pa_nil))))), ?_⟩
    refine ⟨_, rfl, a, _, _, _, rfl, rfl, ha, rfl, _, rfl, b, _, _, _, rfl, rfl, hb, rfl, _, _, rfl, rfl, sz_nd hq hr2, _, rfl, b, _, _, _, rfl, rfl, hb, rfl, _, rfl, a, _, _, _, rfl, rfl, ha, rfl, _, _, rfl, rfl, sz_nd hr2 hq, _, _, rfl, rfl, ?_⟩
    refine ⟨_, rfl, a, _, _, _, rfl, rfl, ha, rfl, _, rfl, b, _, _, _, rfl, rfl, hb, rfl, _, _, rfl, rfl, sz_dd hq hr2, _, _, rfl, nz_dd q r, b9_dd hq hr2, fun z H' e hz => k z H' e (hz.eq (add_eq q r).symm)⟩
theorem sc_l_mul : FnScope ["_law_a", "_law_b"] ["_law_a", "_law_b"] (defScope s_l_mul) := ⟨rfl, rfl, rfl, by decide +kernel, rfl, by decide +kernel, by decide +kernel⟩
theorem c_l_mul (c : Ctx K mg) : CallOk P w K mg base 2 "_law_mul" ["_law_a", "_law_b"] [] (spBin K (fun _ _ => True) (fun q r => q * r)) := by
  refine c.mk1 43 43 (d := d_l_mul) rfl rfl rfl fun fd F => ⟨⟨[], .nil, F.bindsN fun _ _ _ _ _ _ us hl => match us, hl with | [_, _], _ => rfl⟩, okN F sc_l_mul (fun vs H Q E h => ?_) (fun cdv A outer s H vs Q E hr h => ?_)⟩
  · obtain ⟨v, u, q, r, rfl, _⟩ := h
    rfl
  · obtain ⟨v, u, q, r, rfl, ⟨a, rfl, ha⟩, ⟨b, rfl, hb⟩, hq, hr2, _, k⟩ := h
    refine ⟨_, (pss_one (ps_ret (pe_c (c_l_low c) (hr.mono (by decide)) rfl (pa_cons (pe_op op_mulW (pe_ix (ix_tupK (K := K) rfl) (pv 0) pe_int (fun _ _ => rfl)) (pe_ix (ix_tupK (K := K) rfl) (pv 1) pe_int (fun _ _ => rfl))) (pa_cons (pe_op op_mulW (pe_ix (ix_tupK (K := K) rfl) (pv 0) pe_int (fun _ _ => rfl)) (pe_ix (ix_tupK (K := K) rfl) (pv 1) pe_int (fun _ _ => rfl))) pa_nil))))), ?_⟩
    refine ⟨_, rfl, a, _, _, _, rfl, rfl, ha, rfl, _, rfl, b, _, _, _, rfl, rfl, hb, rfl, _, _, rfl, rfl, sz_nn hq hr2, _, rfl, a, _, _, _, rfl, rfl, ha, rfl, _, rfl, b, _, _, _, rfl, rfl, hb, rfl, _, _, rfl, rfl, sz_dd hq hr2, _, _, rfl, nz_dd q r, b9_dd hq hr2, fun z H' e hz => k z H' e (hz.eq (mul_eq q r).symm)⟩
theorem sc_l_div : FnScope ["_law_a", "_law_b"] ["_law_a", "_law_b"] (defScope s_l_div) := ⟨rfl, rfl, rfl, by decide +kernel, rfl, by decide +kernel, by decide +kernel⟩
theorem c_l_div (c : Ctx K mg) : CallOk P w K mg base 2 "_law_div" ["_law_a", "_law_b"] [] (spBin K (fun _ r => r ≠ 0) (fun q r => q / r)) := by
  refine c.mk1 35 35 (d := d_l_div) rfl rfl rfl fun fd F => ⟨⟨[], .nil, F.bindsN fun _ _ _ _ _ _ us hl => match us, hl with | [_, _], _ => rfl⟩, okN F sc_l_div (fun vs H Q E h => ?_) (fun cdv A outer s H vs Q E hr h => ?_)⟩
  · obtain ⟨v, u, q, r, rfl, _⟩ := h
    rfl
  · obtain ⟨v, u, q, r, rfl, ⟨a, rfl, ha⟩, ⟨b, rfl, hb⟩, hq, hr2, hn, k⟩ := h
    refine ⟨_, (pss_one (ps_ret (pe_c (c_l_low c) (hr.mono (by decide)) rfl (pa_cons (pe_op op_mulW (pe_ix (ix_tupK (K := K) rfl) (pv 0) pe_int (fun _ _ => rfl)) (pe_ix (ix_tupK (K := K) rfl) (pv 1) pe_int (fun _ _ => rfl))) (pa_cons (pe_op op_mulW (pe_ix (ix_tupK (K := K) rfl) (pv 0) pe_int (fun _ _ => rfl)) (pe_ix (ix_tupK (K := K) rfl) (pv 1) pe_int (fun _ _ => rfl))) pa_nil))))), ?_⟩
    refine ⟨_, rfl, a, _, _, _, rfl, rfl, ha, rfl, _, rfl, b, _, _, _, rfl, rfl, hb, rfl, _, _, rfl, rfl, sz_nd hq hr2, _, rfl, a, _, _, _, rfl, rfl, ha, rfl, _, rfl, b, _, _, _, rfl, rfl, hb, rfl, _, _, rfl, rfl, sz_dn hq hr2, _, _, rfl, nz_dn hn, b9_dn hq hr2, fun z H' e hz => k z H' e (hz.eq (div_eq q r).symm)⟩
end
end K29
set_option Elab.async false
set_option linter.all false
set_option maxRecDepth 100000
set_option maxHeartbeats 4000000
namespace K29
open PySem PySem.Spec PyProof.Rows L2
section
variable {P : Program} {w : World} {K : PySem.W.Frag} {mg : Str → Option Value} {base : Heap}
/-! ### what the walks over lists want -/
theorem at_neg {xs : List V} {v : V} (h : xs[xs.length - 1]? = some v) : atI xs (-1) = some v := by
  have hp : 0 < xs.length := by
    rcases Nat.eq_zero_or_pos xs.length with z | z
    · rw [List.getElem?_eq_none (by omega)] at h
      cases h
    · exact z
  unfold atI ixN
  rw [if_neg (by decide), if_pos (by omega)]
  show xs[(-1 + (xs.length : Int)).toNat]? = some v
  rw [show (-1 + (xs.length : Int)).toNat = xs.length - 1 by omega]
  exact h
theorem lt_of_get {xs : List V} {i n : Nat} {x : V} (h : xs[i]? = some x) (e : xs.length = n) : i < n := by
  rw [← e]
  exact (List.getElem?_eq_some_iff.mp h).1
theorem get_some {xs : List V} {i : Nat} (h : i < xs.length) : ∃ x, xs[i]? = some x := ⟨_, List.getElem?_eq_getElem h⟩
theorem line_lt {n : Nat} (h : n < 2000) : n < sizeLine := Nat.lt_of_lt_of_le h (by decide)
theorem line_le {n : Nat} (h : n ≤ 2000) : n ≤ sizeLine := Nat.le_trans h (by decide)
theorem yat {xs : List V} : ∀ i H x H', YAt xs i H x H' → Same H H' := fun i H x H' y => by
  rw [y.1]
  exact Same.refl _
theorem yfn {f : Nat → V} : ∀ i H x H', YFn f i H x H' → Same H H' := fun i H x H' y => by
  rw [y.1]
  exact Same.refl _
theorem ypair {f g : Nat → Option V} : ∀ i H x H', YPair f g i H x H' → Same H H' := fun i H x H' y => by
  obtain ⟨T, _, _, _, h1, h2, _⟩ := y
  rw [h2]
  exact same_new h1
/-! ### total, summed -/
def spTot (K : PySem.W.Frag) : Sp := fun vs H Q _ => ∃ (v u : V) (n : Nat) (f : Nat → Rat), vs = [v, u] ∧ IsRow K H v n f ∧ IsP K H u 0 ∧ (∀ i, i < n → Sz 4000 (f i)) ∧ (∀ k, k ≤ n → Sz 4000 (tot f k)) ∧ ∀ z H', Same H H' → IsP K H' z (tot f n) → Q z H'
theorem sc_total : FnScope ["parts", "start", "found", "one"] ["parts", "start"] (defScope s_total) := ⟨rfl, rfl, rfl, by decide +kernel, rfl, by decide +kernel, by decide +kernel⟩
theorem c_total (c : Ctx K mg) : CallOk P w K mg base 4 "total" ["parts", "start"] [.ref (He.ga K "NOUGHT")] (spTot K) := by
  refine c.mk1 7 7 (d := d_total) rfl rfl rfl fun fd F => ⟨F.binds0 (ps := ["parts", "start"]) 1 (fun e => nomatch e) rfl (fun D doc pm an cdv ct us ks hu hk => match us, ks, hu, hk with | [_], [_], _, _ => ⟨_, _, _, _, _, _, rfl, rfl, (show _ = _ by kernel_rfl)⟩), okN F sc_total (fun vs H Q E h => ?_) (fun cdv A outer s H vs Q E hr h => ?_)⟩
  · obtain ⟨v, u, n, f, rfl, _⟩ := h
    rfl
  · obtain ⟨v, u, n, f, rfl, ⟨a, xs, rfl, hS, hl, hx⟩, hu, s1, s2, k⟩ := h
    refine ⟨_, (pss_cons (ps_set (i := 2) sc_total.nd rfl (by first | exact Or.inl rfl | exact Or.inr rfl) (pv 1))
      (pss_cons (ps_for PassesOwn.never rfl (pi_listK (K := K) rfl (pv 0)) (pg_name (i := 3) sc_total.nd rfl (by first | exact Or.inl rfl | exact Or.inr rfl)) (pss_one (ps_set (i := 2) sc_total.nd rfl (by first | exact Or.inl rfl | exact Or.inr rfl) (pe_c (c_plus c) (hr.mono (by decide)) rfl (pa_cons (pv 2) (pa_cons (pv 3) pa_nil))))))
      (pss_one (ps_ret (pv 2))))), ?_⟩
    refine ⟨_, rfl, ?_⟩
    refine ⟨_, rfl, a, rfl, ⟨_, hS⟩, for_list (K := K) (a := a) (xs := xs) (fun i σ H' => ∃ z o, σ = [some (.ref a), some u, some z, o] ∧ Same H H' ∧ IsP K H' z (tot f i))
      ⟨u, none, rfl, Same.refl _, hu⟩ (fun i σ H' _ ⟨_, _, _, e, _⟩ => same_l e hS) ?_ ?_⟩
    · rintro i y σ H' hi ⟨z, o, rfl, e, hz⟩
      have hin : i < n := lt_of_get hi hl
      refine ⟨_, rfl, _, rfl, z, y, tot f i, f i, rfl, hz, (hx i y hi).same e, s2 i (Nat.le_of_lt hin), s1 i hin, trivial, fun z2 H2 e2 h2 => ?_⟩
      exact ⟨z2, _, rfl, e.trans e2, h2⟩
    · rintro σ H' ⟨z, o, rfl, e, hz⟩
      rw [hl] at hz
      exact ⟨_, rfl, k z H' e hz⟩
def spTot1 (K : PySem.W.Frag) : Sp := fun vs H Q _ => ∃ (v : V) (n : Nat) (f : Nat → Rat), vs = [v] ∧ IsRow K H v n f ∧ (∀ i, i < n → Sz 4000 (f i)) ∧ (∀ k, k ≤ n → Sz 4000 (tot f k)) ∧ ∀ z H', Same H H' → IsP K H' z (tot f n) → Q z H'
theorem sc_l_total : FnScope ["_law_row", "_law_found", "_law_one"] ["_law_row"] (defScope s_l_total) := ⟨rfl, rfl, rfl, by decide +kernel, rfl, by decide +kernel, by decide +kernel⟩
theorem c_l_total (c : Ctx K mg) : CallOk P w K mg base 3 "_law_total" ["_law_row"] [] (spTot1 K) := by
  refine c.mk1 33 33 (d := d_l_total) rfl rfl rfl fun fd F => ⟨⟨[], .nil, F.bindsN fun _ _ _ _ _ _ us hl => match us, hl with | [_], _ => rfl⟩, okN F sc_l_total (fun vs H Q E h => ?_) (fun cdv A outer s H vs Q E hr h => ?_)⟩
  · obtain ⟨v, n, f, rfl, _⟩ := h
    rfl
  · obtain ⟨v, n, f, rfl, ⟨a, xs, rfl, hS, hl, hx⟩, s1, s2, k⟩ := h
    refine ⟨_, (pss_cons (ps_set (i := 1) sc_l_total.nd rfl (by first | exact Or.inl rfl | exact Or.inr rfl) (pe_tup (pa_cons pe_int (pa_cons pe_int pa_nil))))
      (pss_cons (ps_for PassesOwn.never rfl (pi_listK (K := K) rfl (pv 0)) (pg_name (i := 2) sc_l_total.nd rfl (by first | exact Or.inl rfl | exact Or.inr rfl)) (pss_one (ps_set (i := 1) sc_l_total.nd rfl (by first | exact Or.inl rfl | exact Or.inr rfl) (pe_c (c_l_add c) (hr.mono (by decide)) rfl (pa_cons (pv 1) (pa_cons (pv 2) pa_nil))))))
      (pss_one (ps_ret (pv 1))))), ?_⟩
    refine ⟨(by show 2 ≤ sizeLine; decide), fun p0 hp0 => ?_⟩
    have e0 : Same H (upd H p0 (.tup [.int 0, .int 1])) := same_new hp0
    refine ⟨_, rfl, a, rfl, ⟨_, same_l e0 hS⟩, for_list (K := K) (a := a) (xs := xs) (fun i σ H' => ∃ z o, σ = [some (.ref a), some z, o] ∧ Same H H' ∧ IsP K H' z (tot f i))
      ⟨_, none, rfl, e0, IsP.new 0⟩ (fun i σ H' _ ⟨_, _, _, e, _⟩ => same_l e hS) ?_ ?_⟩
    · rintro i y σ H' hi ⟨z, o, rfl, e, hz⟩
      have hin : i < n := lt_of_get hi hl
      refine ⟨_, rfl, _, rfl, z, y, tot f i, f i, rfl, hz, (hx i y hi).same e, s2 i (Nat.le_of_lt hin), s1 i hin, trivial, fun z2 H2 e2 h2 => ?_⟩
      exact ⟨z2, _, rfl, e.trans e2, h2⟩
    · rintro σ H' ⟨z, o, rfl, e, hz⟩
      rw [hl] at hz
      exact ⟨_, rfl, k z H' e hz⟩
/-- a new list of the sums -/
def spSummed (K : PySem.W.Frag) : Sp := fun vs H Q _ => ∃ (v : V) (n : Nat) (f : Nat → Rat), vs = [v] ∧ n ≤ 1000 ∧ IsRow K H v n f ∧ (∀ i, i < n → Sz 4000 (f i)) ∧ (∀ i, i < n → Sz 4000 (psum f i)) ∧
  ∀ p H', H p = none → Same H H' → IsRow K H' (.ref p) n (psum f) → Q (.ref p) H'
theorem sc_summed : FnScope ["row", "found", "one"] ["row"] (defScope s_summed) := ⟨rfl, rfl, rfl, by decide +kernel, rfl, by decide +kernel, by decide +kernel⟩
theorem c_summed (c : Ctx K mg) : CallOk P w K mg base 4 "summed" ["row"] [] (spSummed K) := by
  refine c.mk1 18 18 (d := d_summed) rfl rfl rfl fun fd F => ⟨⟨[], .nil, F.bindsN fun _ _ _ _ _ _ us hl => match us, hl with | [_], _ => rfl⟩, okN F sc_summed (fun vs H Q E h => ?_) (fun cdv A outer s H vs Q E hr h => ?_)⟩
  · obtain ⟨v, n, f, rfl, _⟩ := h
    rfl
  · obtain ⟨v, n, f, rfl, hn, ⟨a, xs, rfl, hS, hl, hx⟩, s1, s2, k⟩ := h
    refine ⟨_, (pss_cons (ps_set (i := 1) sc_summed.nd rfl (by first | exact Or.inl rfl | exact Or.inr rfl) (pe_lst pa_nil))
      (pss_cons (ps_for PassesOwn.never rfl (pi_listK (K := K) rfl (pv 0)) (pg_name (i := 2) sc_summed.nd rfl (by first | exact Or.inl rfl | exact Or.inr rfl)) (pss_one (ps_expr (pe_bm PySem.F.plainAttrs_list PySem.F.slot_list_append PySem.F.type_list_append mt_append (pv 1) (pa_cons (pe_ifExp (pt_truth (pv 1) (by intro _; rfl)) (pe_c (c_plus c) (hr.mono (by decide)) rfl (pa_cons (pe_ix (ix_listK (K := K) rfl) (pv 1) (pe_un un_neg pe_int) (fun _ _ => rfl)) (pa_cons (pv 2) pa_nil))) (pv 2)) pa_nil)))))
      (pss_one (ps_ret (pv 1))))), ?_⟩
    refine ⟨Nat.zero_le _, fun l hl0 => ?_⟩
    have e0 : Same H (upd H l (.lst [])) := same_new hl0
    refine ⟨_, rfl, a, rfl, ⟨_, same_l e0 hS⟩, for_list (K := K) (a := a) (xs := xs) (fun i σ H' => ∃ (ys : List V) (o : Option V), σ = [some (.ref a), some (.ref l), o] ∧ Same H H' ∧ H' l = some (.lst ys) ∧ ys.length = i ∧ ∀ (j : Nat) y, ys[j]? = some y → IsP K H' y (psum f j))
      ⟨[], none, rfl, e0, upd_same, rfl, fun j y q => by cases q⟩ (fun i σ H' _ ⟨_, _, _, e, _⟩ => same_l e hS) ?_ ?_⟩
    · rintro i y σ H' hi ⟨ys, o, rfl, e, h1, h2, h3⟩
      have hin : i < n := lt_of_get hi hl
      have fin : ∀ z H3, Same H' H3 → IsP K H3 z (psum f i) → ∃ (ys' : List V) (o : Option V), [some (V.ref a), some (.ref l), some y] = [some (.ref a), some (.ref l), o] ∧ Same H (upd H3 l (.lst (ys ++ [z]))) ∧ upd H3 l (.lst (ys ++ [z])) l = some (.lst ys') ∧ ys'.length = i + 1 ∧ ∀ (j : Nat) y, ys'[j]? = some y → IsP K (upd H3 l (.lst (ys ++ [z]))) y (psum f j) := fun z H3 e3 hz => by
        have l3 := e3 l _ h1
        refine ⟨ys ++ [z], _, rfl, same_mut (e.trans e3) hl0, upd_same, by rw [List.length_append, h2]; rfl, ?_⟩
        exact app_all (R := fun j y => IsP K (upd H3 l (.lst (ys ++ [z]))) y (psum f j)) h2 (fun j y q => ((h3 j y q).same e3).mutL l3) (hz.mutL l3)
      refine ⟨_, rfl, .inl ⟨rfl, _, SqL.of h1⟩, ?_⟩
      cases i with
      | zero =>
        refine ⟨_, rfl, false, .inl ⟨ys, SqL.of h1, by rw [List.length_eq_zero_iff.mp h2]; rfl⟩, iteF ?_⟩
        refine ⟨_, rfl, l, ys, _, rfl, rfl, h1, line_lt (by omega), ?_⟩
        exact fin y H' (Same.refl _) ((hx 0 y hi).same e)
      | succ i =>
        obtain ⟨last, hlast⟩ := get_some (xs := ys) (i := ys.length - 1) (by omega)
        have eli : ys.length - 1 = i := by omega
        have hne : ys ≠ [] := fun z => by rw [z] at h2; cases h2
        refine ⟨_, rfl, true, .inl ⟨ys, SqL.of h1, by cases ys with | nil => exact absurd rfl hne | cons _ _ => rfl⟩, iteT ?_⟩
        refine ⟨_, rfl, _, rfl, l, ys, _, last, rfl, rfl, SqL.of h1, at_neg hlast, _, rfl, last, y, psum f i, f (i + 1), rfl, h3 i last (by rw [← eli]; exact hlast), (hx (i + 1) y hi).same e, s2 i (by omega), s1 (i + 1) hin, trivial, fun z H3 e3 hz => ?_⟩
        exact ⟨l, ys, _, rfl, rfl, e3 l _ h1, line_lt (by omega), fin z H3 e3 hz⟩
    · rintro σ H' ⟨ys, o, rfl, e, h1, h2, h3⟩
      refine ⟨_, rfl, k l H' hl0 e ⟨l, ys, rfl, SqL.of h1, h2.trans hl, h3⟩⟩
end
end K29
set_option Elab.async false
set_option linter.all false
set_option maxRecDepth 100000
set_option maxHeartbeats 4000000
/-! Tables whose rows may be changed by place: all their lists are known, apart, and were not there at H0. -/
namespace K29
open PySem PySem.Spec PyProof.Rows L2
/-- a row that stands at p -/
def RowAt (K : PySem.W.Frag) (H : Hp) (p : Addr) (n : Nat) (f : Nat → Rat) : Prop := ∃ xs : List V, H p = some (.lst xs) ∧ xs.length = n ∧ ∀ (j : Nat) x, xs[j]? = some x → IsP K H x (f j)
structure MTabA (K : PySem.W.Frag) (H0 H : Hp) (a : Addr) (as : List Addr) (n : Nat) (wi : Nat → Nat) (F : Nat → Nat → Rat) : Prop where
  top : H a = some (.lst (as.map V.ref))
  new : H0 a = none
  len : as.length = n
  nd : as.Nodup
  out : a ∉ as
  fresh : ∀ (i : Nat) p, as[i]? = some p → H0 p = none
  row : ∀ (i : Nat) p, as[i]? = some p → RowAt K H p (wi i) (F i)
def MTab (K : PySem.W.Frag) (H0 H : Hp) (v : V) (n : Nat) (wi : Nat → Nat) (F : Nat → Nat → Rat) : Prop := ∃ (a : Addr) (as : List Addr), v = .ref a ∧ MTabA K H0 H a as n wi F
section
variable {K : PySem.W.Frag} {m : Option Flw} {H H' H0 H1 : Hp} {v : V} {a p : Addr} {as : List Addr} {n : Nat} {wi : Nat → Nat} {F : Nat → Nat → Rat} {f : Nat → Rat}
theorem RowAt.is (h : RowAt K H p n f) : IsRow K H (.ref p) n f := by
  obtain ⟨xs, h1, h2, h3⟩ := h
  exact ⟨p, xs, rfl, SqL.of h1, h2, h3⟩
/-- what was not there at H0 is not the flow's list -/
theorem not_flow (fl : Fl K m H0) (h : H0 p = none) : ∀ F, m = some F → p ≠ F.f := fun F q e => by
  obtain ⟨x, y, z, h1, _⟩ := fl F q
  rw [e, h1] at h
  cases h
theorem RowAt.go (fl : Fl K m H0) (h0 : H0 p = none) (g : Go K m H H') (h : RowAt K H p n f) : RowAt K H' p n f := by
  obtain ⟨xs, h1, h2, h3⟩ := h
  exact ⟨xs, g.kp p _ (not_flow fl h0) h1, h2, fun j x q => (h3 j x q).go g⟩
theorem MTabA.go (fl : Fl K m H0) (g : Go K m H H') (h : MTabA K H0 H a as n wi F) : MTabA K H0 H' a as n wi F :=
  ⟨g.kp a _ (not_flow fl h.new) h.top, h.new, h.len, h.nd, h.out, h.fresh, fun i q e => (h.row i q e).go fl (h.fresh i q e) g⟩
theorem MTab.go (fl : Fl K m H0) (g : Go K m H H') (h : MTab K H0 H v n wi F) : MTab K H0 H' v n wi F := by
  obtain ⟨a, as, e, h⟩ := h
  exact ⟨a, as, e, h.go fl g⟩
theorem MTab.back (g : Go K m H0 H1) (h : MTab K H1 H v n wi F) : MTab K H0 H v n wi F := by
  obtain ⟨a, as, e, h⟩ := h
  exact ⟨a, as, e, h.top, g.free h.new, h.len, h.nd, h.out, fun i q z => g.free (h.fresh i q z), h.row⟩
theorem MTab.is (h : MTab K H0 H v n wi F) : IsTab K H v n wi F := by
  obtain ⟨a, as, e, h⟩ := h
  refine ⟨a, _, e, SqL.of h.top, by rw [List.length_map]; exact h.len, fun i x q => ?_⟩
  rw [List.getElem?_map] at q
  cases z : as[i]? with
  | none =>
    rw [z] at q
    cases q
  | some p =>
    rw [z] at q
    have e2 : V.ref p = x := Option.some.inj q
    rw [← e2]
    exact (h.row i p z).is
theorem MTab.fn {U : Nat → Nat → Rat} (h : MTab K H0 H v n wi F) (e : ∀ i j, i < n → j < wi i → F i j = U i j) : MTab K H0 H v n wi U := by
  obtain ⟨a, as, q, h⟩ := h
  refine ⟨a, as, q, h.top, h.new, h.len, h.nd, h.out, h.fresh, fun i p z => ?_⟩
  obtain ⟨xs, h1, h2, h3⟩ := h.row i p z
  have hi : i < n := by
    rw [← h.len]
    exact (List.getElem?_eq_some_iff.mp z).1
  exact ⟨xs, h1, h2, fun j x y => (h3 j x y).eq (e i j hi (lt_of_get y h2))⟩
end
section
variable {K : PySem.W.Frag} {m : Option Flw} {J : It} {n : Nat} {G : Hp → Prop} {Y : Nat → Hp → V → Hp → Prop} {g : TG} {te : TE} {vs : List Nat} {σ : L2.St} {H1 : Hp} {D : Addr} {Qd : Hp → Prop}
/-- a new list of new rows, each known -/
theorem lcM (w : Walk J n G Y) (hD : H1 D = none) (fl : Fl K m H1) (hn : n ≤ 1000) (hY : ∀ i H x H', Y i H x H' → Same H H') (wi : Nat → Nat) (F : Nat → Nat → Rat) (hG : ∀ H, Go K m H1 H → G H)
    (hs : ∀ i x H H', i < n → Go K m H1 H → Y i H x H' → ∀ Qe : VK, (∀ p H4, Go K m H' H4 → H' p = none → RowAt K H4 p (wi i) (F i) → Qe (.ref p) H4) → g x (wipe σ vs) H' fun σ2 H2 => wipe σ2 vs = wipe σ vs ∧ te σ2 H2 Qe)
    (hd : ∀ H, Go K m H1 H → MTab K H1 H (.ref D) n wi F → Qd H) :
    ∃ W : Nat → Nat → Hp → Prop, (∃ m, W 0 m (upd H1 D (.lst []))) ∧ ∀ i m H, W i m H →
      (J.stop i H ∧ Qd H) ∨ (J.go i H ∧ ∃ Nx : Hp → Prop, (∀ H', Nx H' → ∃ m', m' < m ∧ W (i + 1) m' H') ∧ ∀ x H', J.yld i H x H' → g x (wipe σ vs) H' fun σ2 H2 => wipe σ2 vs = wipe σ vs ∧ tYes σ2 H2 fun b H3 =>
        if b = true then te σ2 H3 fun y H4 => ∃ acc, H4 D = some (.lst acc) ∧ acc.length < sizeLine ∧ Nx (upd H4 D (.lst (acc ++ [y]))) else Nx H3) := by
  have dn := not_flow fl hD
  refine lc_it w (tt := tYes) (fun i H => Go K m H1 H ∧ ∃ as : List Addr, H D = some (.lst (as.map V.ref)) ∧ as.length = i ∧ as.Nodup ∧ D ∉ as ∧ ∀ (j : Nat) p, as[j]? = some p → H1 p = none ∧ RowAt K H p (wi j) (F j))
    ⟨(Go.refl fl).mut hD, [], upd_same, rfl, List.nodup_nil, by simp, fun j y e => by cases e⟩ (fun i H _ p => hG H p.1) (fun i x H H' hi p yy => ?_) (fun H p => ?_)
  · obtain ⟨p1, as, p2, p3, p4, p5, p6⟩ := p
    have sy := hY i H x H' yy
    refine hs i x H H' hi p1 yy (fun y H4 => ∃ acc, H4 D = some (.lst acc) ∧ acc.length < sizeLine ∧ Go K m H1 (upd H4 D (.lst (acc ++ [y]))) ∧ ∃ as : List Addr, upd H4 D (.lst (acc ++ [y])) D = some (.lst (as.map V.ref)) ∧ as.length = i + 1 ∧ as.Nodup ∧ D ∉ as ∧ ∀ (j : Nat) p, as[j]? = some p → H1 p = none ∧ RowAt K (upd H4 D (.lst (acc ++ [y]))) p (wi j) (F j))
      (fun p H4 g4 hp r4 => ?_)
    have gs := (p1.to sy).trans g4
    have d4 : H4 D = some (.lst (as.map V.ref)) := g4.kp D _ dn (sy D _ p2)
    have pD : p ≠ D := fun e => by
      rw [e, sy D _ p2] at hp
      cases hp
    have pa : p ∉ as := fun e => by
      obtain ⟨j, hj, ej⟩ := List.mem_iff_getElem.mp e
      obtain ⟨xs, q, _⟩ := (p6 j p (by rw [List.getElem?_eq_getElem hj, ej])).2
      rw [sy p _ q] at hp
      cases hp
    have p1n : H1 p = none := by
      have := (p1.to sy).free (p := p) hp
      exact this
    refine ⟨as.map V.ref, d4, line_lt (by rw [List.length_map]; omega), gs.mut hD, as ++ [p], ?_, by rw [List.length_append, p3]; rfl, ?_, ?_, fun j q e => ?_⟩
    · rw [upd_same, List.map_append] <;> rfl
    · exact List.nodup_append.mpr ⟨p4, List.nodup_cons.mpr ⟨by simp, List.nodup_nil⟩, fun x hx y hy e => by
        have e2 : y = p := by simpa using hy
        rw [e, e2] at hx
        exact pa hx⟩
    · intro e
      rcases List.mem_append.mp e with e | e
      · exact p5 e
      · exact pD (by simpa using e : D = p).symm
    · have step : ∀ (q : Addr) (r : RowAt K H4 q (wi j) (F j)), q ≠ D → RowAt K (upd H4 D (.lst (as.map V.ref ++ [V.ref p]))) q (wi j) (F j) := fun q r n0 => by
        obtain ⟨xs, h1, h2, h3⟩ := r
        exact ⟨xs, by rw [upd_ne n0]; exact h1, h2, fun j x z => (h3 j x z).mutL d4⟩
      rcases Nat.lt_or_ge j as.length with hj | hj
      · rw [List.getElem?_append_left hj] at e
        obtain ⟨n1, r1⟩ := p6 j q e
        have qD : q ≠ D := fun z => p5 (by rw [← z]; exact List.mem_of_getElem? e)
        exact ⟨n1, step q (r1.go fl n1 ((Go.same p1.fl1 sy).trans g4)) qD⟩
      · rw [List.getElem?_append_right hj] at e
        rcases Nat.eq_zero_or_pos (j - as.length) with z | z
        · rw [z] at e
          have ez : p = q := Option.some.inj e
          subst ez
          have ej : j = i := by omega
          subst ej
          exact ⟨p1n, step p r4 pD⟩
        · rw [List.getElem?_eq_none (show ([p] : List Addr).length ≤ j - as.length from z)] at e
          cases e
  · obtain ⟨p1, as, p2, p3, p4, p5, p6⟩ := p
    exact hd H p1 ⟨D, as, rfl, p2, hD, p3, p4, p5, fun i p e => (p6 i p e).1, fun i p e => (p6 i p e).2⟩
end
end K29
set_option Elab.async false
set_option linter.all false
set_option maxRecDepth 100000
set_option maxHeartbeats 4000000
namespace K29
open PySem PySem.Spec PyProof.Rows L2
section
variable {P : Program} {w : World} {K : PySem.W.Frag} {mg : Str → Option Value} {base : Heap}
/-! ### a wedge in memory -/
def wf (first d look : Int) (ln : V) : List (Str × V) := putF "lines" ln (putF "look" (.int look) (putF "depth" (.int d) (putF "first" (.int first) [])))
theorem wf_first (first d look : Int) (ln : V) : (wf first d look ln).lookup ("first" : Str) = some (.int first) := by
  unfold wf
  rw [lookup_putF, if_neg (by decide +kernel), lookup_putF, if_neg (by decide +kernel), lookup_putF, if_neg (by decide +kernel), lookup_putF, if_pos rfl]
theorem wf_depth (first d look : Int) (ln : V) : (wf first d look ln).lookup ("depth" : Str) = some (.int d) := by
  unfold wf
  rw [lookup_putF, if_neg (by decide +kernel), lookup_putF, if_neg (by decide +kernel), lookup_putF, if_pos rfl]
theorem wf_look (first d look : Int) (ln : V) : (wf first d look ln).lookup ("look" : Str) = some (.int look) := by
  unfold wf
  rw [lookup_putF, if_neg (by decide +kernel), lookup_putF, if_pos rfl]
theorem wf_lines (first d look : Int) (ln : V) : (wf first d look ln).lookup ("lines" : Str) = some ln := by
  unfold wf
  rw [lookup_putF, if_pos rfl]
theorem wf_no (first d look : Int) (ln : V) {m : Str} (h1 : ¬ m = "first") (h2 : ¬ m = "depth") (h3 : ¬ m = "look") (h4 : ¬ m = "lines") : (wf first d look ln).lookup m = none := by
  unfold wf
  rw [lookup_putF, if_neg h4, lookup_putF, if_neg h3, lookup_putF, if_neg h2, lookup_putF, if_neg h1]
  all_goals rfl
/-- a Wedge at v: its first year, its depth d, its n years, its cells W -/
def WdAt (K : PySem.W.Frag) (H : Hp) (v : V) (first : Int) (n d : Nat) (W : Nat → Nat → Rat) : Prop :=
  ∃ (x dx : Addr) (ln : V), v = .ref x ∧ H x = some (.ins (He.ga K "Wedge") dx (wf first d (first + n - 1) ln)) ∧ IsTab K H ln n (wd n d) W
theorem WdAt.go {m : Option Flw} {H H' : Hp} {v : V} {first : Int} {n d : Nat} {W : Nat → Nat → Rat} (g : Go K m H H') (h : WdAt K H v first n d W) : WdAt K H' v first n d W := by
  obtain ⟨x, dx, ln, e, h1, h2⟩ := h
  exact ⟨x, dx, ln, e, g.at_ h1 (fun _ z => by cases z), h2.go g⟩
theorem WdAt.same {H H' : Hp} {v : V} {first : Int} {n d : Nat} {W : Nat → Nat → Rat} (g : Same H H') (h : WdAt K H v first n d W) : WdAt K H' v first n d W := h.go (go_same g)
/-! ### rows, sums -/
def spRows (K : PySem.W.Frag) : Sp := fun vs H Q _ => ∃ (v : V) (first : Int) (n d : Nat) (W : Nat → Nat → Rat), vs = [v] ∧ n ≤ 10 ∧ WdAt K H v first n d W ∧ ∀ z H', Same H H' → IsTab K H' z n (wd n d) W → Q z H'
theorem sc_Wrows : FnScope ["self", "row"] ["self"] (defScope s_Wrows) := ⟨rfl, rfl, rfl, by decide +kernel, rfl, by decide +kernel, by decide +kernel⟩
theorem c_Wrows (c : Ctx K mg) : MethOk P w K mg base 1 (He.ga K "Wedge") "rows" ["self"] (spRows K) := by
  refine c.mk2 47 67 (d := d_Wrows) rfl rfl rfl fun fd F => ⟨F.bindsN fun _ _ _ _ _ _ us hl => match us, hl with | [_], _ => rfl, okN F sc_Wrows (fun vs H Q E h => ?_) (fun cdv A outer s H vs Q E hr h => ?_)⟩
  · obtain ⟨v, first, n, d, W, rfl, _⟩ := h
    rfl
  · obtain ⟨v, first, n, d, W, rfl, hn, ⟨x, dx, ln, rfl, hx, ⟨a, xs, rfl, hS, hl, hr0⟩⟩, k⟩ := h
    refine ⟨_, (pss_one (ps_ret (pe_lc (own := [("row", 1)]) rfl sc_Wrows.nd (pi_listK (K := K) rfl (pe_fld (pv 0) rfl)) (blkOk_by (by kernel_rfl)) (fun _ _ _ _ _ => (pg_name (i := 1) sc_Wrows.nd rfl (by first | exact Or.inl rfl | exact Or.inr rfl))) (fun _ _ _ _ _ => pts_nil) (fun _ _ _ _ _ => (pe_callTy (T := "list") (call_listK (K := K) rfl) (by rfl) (c.free 54) (by decide +kernel) (pa_cons (pv 1) pa_nil)))))), ?_⟩
    refine ⟨_, rfl, x, _, dx, _, _, rfl, hx, (c.cls 62), (c.noat 66), wf_lines _ _ _ _, a, rfl, ⟨_, hS⟩, fun D hD => ?_⟩
    refine lcT (K := K) (m := none) walk_list hD Fl.none (by omega) yat (wd n d) W (fun H' g => same_l g.toSame hS) (fun i y H2 H3 zs hi g yy hD3 Qe kq => ⟨rfl, ?_⟩) (fun H' g t => ?_)
    · obtain ⟨rfl, hy⟩ := yy
      obtain ⟨b, ys, rfl, h1, h2, h3⟩ := hr0 i y hy
      refine ⟨_, rfl, b, ys, rfl, .inl (same_l g.toSame h1), fun l hl0 => ?_⟩
      have e4 : Same H3 (upd H3 l (.lst ys)) := same_new hl0
      refine kq _ _ (go_same e4) (fun z => ?_) ⟨l, ys, rfl, SqL.of upd_same, h2, fun j u q => (h3 j u q).same (g.toSame.trans e4)⟩
      have ez : l = D := V.ref.inj z
      rw [ez, hD3] at hl0
      cases hl0
    · rw [hl] at t
      exact k _ _ g.toSame t
def spSums (K : PySem.W.Frag) : Sp := fun vs H Q _ => ∃ (v : V) (first : Int) (n d : Nat) (W : Nat → Nat → Rat), vs = [v] ∧ n ≤ 10 ∧ d ≤ 6 ∧ WdAt K H v first n d W ∧
  (∀ i j, i < n → j < wd n d i → Sz 4000 (W i j)) ∧ (∀ i j, i < n → j < wd n d i → Sz 4000 (psum (W i) j)) ∧ ∀ z H', Same H H' → IsTab K H' z n (wd n d) (fun i => psum (W i)) → Q z H'
theorem sc_Wsums : FnScope ["self", "row"] ["self"] (defScope s_Wsums) := ⟨rfl, rfl, rfl, by decide +kernel, rfl, by decide +kernel, by decide +kernel⟩
theorem c_Wsums (c : Ctx K mg) : MethOk P w K mg base 5 (He.ga K "Wedge") "sums" ["self"] (spSums K) := by
  refine c.mk2 48 68 (d := d_Wsums) rfl rfl rfl fun fd F => ⟨F.bindsN fun _ _ _ _ _ _ us hl => match us, hl with | [_], _ => rfl, okN F sc_Wsums (fun vs H Q E h => ?_) (fun cdv A outer s H vs Q E hr h => ?_)⟩
  · obtain ⟨v, first, n, d, W, rfl, _⟩ := h
    rfl
  · obtain ⟨v, first, n, d, W, rfl, hn, hd6, ⟨x, dx, ln, rfl, hx, ⟨a, xs, rfl, hS, hl, hr0⟩⟩, s1, s2, k⟩ := h
    refine ⟨_, (pss_one (ps_ret (pe_lc (own := [("row", 1)]) rfl sc_Wsums.nd (pi_listK (K := K) rfl (pe_fld (pv 0) rfl)) (blkOk_by (by kernel_rfl)) (fun _ _ _ _ _ => (pg_name (i := 1) sc_Wsums.nd rfl (by first | exact Or.inl rfl | exact Or.inr rfl))) (fun _ _ _ _ _ => pts_nil) (fun _ _ _ _ _ => (pe_c (c_summed c) (hr.mono (by decide)) rfl (pa_cons (pv 1) pa_nil)))))), ?_⟩
    refine ⟨_, rfl, x, _, dx, _, _, rfl, hx, (c.cls 62), (c.noat 66), wf_lines _ _ _ _, a, rfl, ⟨_, hS⟩, fun D hD => ?_⟩
    refine lcT (K := K) (m := none) walk_list hD Fl.none (by omega) yat (wd n d) (fun i => psum (W i)) (fun H' g => same_l g.toSame hS) (fun i y H2 H3 zs hi g yy hD3 Qe kq => ⟨rfl, ?_⟩) (fun H' g t => ?_)
    · obtain ⟨rfl, hy⟩ := yy
      have hin : i < n := lt_of_get hy hl
      refine ⟨_, rfl, y, wd n d i, W i, rfl, Nat.le_trans (wd_le n d i) (by omega), (hr0 i y hy).same g.toSame, fun j => s1 i j hin, fun j => s2 i j hin, fun p H4 hp e4 r4 => ?_⟩
      refine kq _ _ (go_same e4) (fun z => ?_) r4
      have ez : p = D := V.ref.inj z
      rw [ez, hD3] at hp
      cases hp
    · rw [hl] at t
      exact k _ _ g.toSame t
/-! ### the law's copy -/
def spCopy (K : PySem.W.Frag) : Sp := fun vs H Q _ => ∃ (v : V) (n : Nat) (wi : Nat → Nat) (F : Nat → Nat → Rat), vs = [v] ∧ n ≤ 1000 ∧ IsTab K H v n wi F ∧ ∀ z H', Same H H' → MTab K H H' z n wi F → Q z H'
theorem sc_l_copy : FnScope ["_law_rows_here", "_law_row"] ["_law_rows_here"] (defScope s_l_copy) := ⟨rfl, rfl, rfl, by decide +kernel, rfl, by decide +kernel, by decide +kernel⟩
theorem c_l_copy (c : Ctx K mg) : CallOk P w K mg base 1 "_law_copy" ["_law_rows_here"] [] (spCopy K) := by
  refine c.mk1 22 22 (d := d_l_copy) rfl rfl rfl fun fd F => ⟨⟨[], .nil, F.bindsN fun _ _ _ _ _ _ us hl => match us, hl with | [_], _ => rfl⟩, okN F sc_l_copy (fun vs H Q E h => ?_) (fun cdv A outer s H vs Q E hr h => ?_)⟩
  · obtain ⟨v, n, wi, F, rfl, _⟩ := h
    rfl
  · obtain ⟨v, n, wi, F, rfl, hn, ⟨a, xs, rfl, hS, hl, hr0⟩, k⟩ := h
    refine ⟨_, (pss_one (ps_ret (pe_lc (own := [("_law_row", 1)]) rfl sc_l_copy.nd (pi_listK (K := K) rfl (pv 0)) (blkOk_by (by kernel_rfl)) (fun _ _ _ _ _ => (pg_name (i := 1) sc_l_copy.nd rfl (by first | exact Or.inl rfl | exact Or.inr rfl))) (fun _ _ _ _ _ => pts_nil) (fun _ _ _ _ _ => (pe_callTy (T := "list") (call_listK (K := K) rfl) (by rfl) (c.free 54) (by decide +kernel) (pa_cons (pv 1) pa_nil)))))), ?_⟩
    refine ⟨_, rfl, a, rfl, ⟨_, hS⟩, fun D hD => ?_⟩
    refine lcM (K := K) (m := none) walk_list hD Fl.none (by omega) yat wi F (fun H' g => same_l g.toSame hS) (fun i y H2 H3 hi g yy Qe kq => ⟨rfl, ?_⟩) (fun H' g t => ?_)
    · obtain ⟨rfl, hy⟩ := yy
      obtain ⟨b, ys, rfl, h1, h2, h3⟩ := hr0 i y hy
      refine ⟨_, rfl, b, ys, rfl, .inl (same_l g.toSame h1), fun l hl0 => ?_⟩
      have e4 : Same H3 (upd H3 l (.lst ys)) := same_new hl0
      exact kq _ _ (go_same e4) hl0 ⟨ys, upd_same, h2, fun j u q => (h3 j u q).same (g.toSame.trans e4)⟩
    · rw [hl] at t
      exact k _ _ g.toSame t
end
end K29
set_option Elab.async false
set_option linter.all false
set_option maxRecDepth 100000
set_option maxHeartbeats 4000000
namespace K29
open PySem PySem.Spec PyProof.Rows L2
section
variable {P : Program} {w : World} {K : PySem.W.Frag} {mg : Str → Option Value} {base : Heap}
/-! ### the law's sums -/
def spLSums (K : PySem.W.Frag) : Sp := fun vs H Q _ => ∃ (v : V) (n : Nat) (wi : Nat → Nat) (F : Nat → Nat → Rat), vs = [v] ∧ n ≤ 1000 ∧ (∀ i, wi i ≤ 1000) ∧ IsTab K H v n wi F ∧ (∀ i j, i < n → j < wi i → Sz 4000 (F i j)) ∧ (∀ i j, i < n → j < wi i → Sz 4000 (psum (F i) j)) ∧
  ∀ z H', Same H H' → IsTab K H' z n wi (fun i => psum (F i)) → Q z H'
theorem sc_l_sums : FnScope ["_law_rows_here", "_law_found", "_law_row", "_law_line", "_law_one"] ["_law_rows_here"] (defScope s_l_sums) := ⟨rfl, rfl, rfl, by decide +kernel, rfl, by decide +kernel, by decide +kernel⟩
theorem c_l_sums (c : Ctx K mg) : CallOk P w K mg base 3 "_law_sums" ["_law_rows_here"] [] (spLSums K) := by
  refine c.mk1 32 32 (d := d_l_sums) rfl rfl rfl fun fd F => ⟨⟨[], .nil, F.bindsN fun _ _ _ _ _ _ us hl => match us, hl with | [_], _ => rfl⟩, okN F sc_l_sums (fun vs H Q E h => ?_) (fun cdv A outer s H vs Q E hr h => ?_)⟩
  · obtain ⟨v, n, wi, F, rfl, _⟩ := h
    rfl
  · obtain ⟨v, n, wi, F, rfl, hn, hw, ⟨a, xs, rfl, hS, hl, hx⟩, s1, s2, k⟩ := h
    refine ⟨_, (pss_cons (ps_set (i := 1) sc_l_sums.nd rfl (by first | exact Or.inl rfl | exact Or.inr rfl) (pe_lst pa_nil))
      (pss_cons (ps_for PassesOwn.never rfl (pi_listK (K := K) rfl (pv 0)) (pg_name (i := 2) sc_l_sums.nd rfl (by first | exact Or.inl rfl | exact Or.inr rfl)) (pss_cons (ps_set (i := 3) sc_l_sums.nd rfl (by first | exact Or.inl rfl | exact Or.inr rfl) (pe_lst pa_nil))
      (pss_cons (ps_for PassesOwn.never rfl (pi_listK (K := K) rfl (pv 2)) (pg_name (i := 4) sc_l_sums.nd rfl (by first | exact Or.inl rfl | exact Or.inr rfl)) (pss_one (ps_if (pt_truth (pv 3) (by intro _; rfl)) (pss_one (ps_expr (pe_bm PySem.F.plainAttrs_list PySem.F.slot_list_append PySem.F.type_list_append mt_append (pv 3) (pa_cons (pe_c (c_l_add c) (hr.mono (by decide)) rfl (pa_cons (pe_ix (ix_listK (K := K) rfl) (pv 3) (pe_un un_neg pe_int) (fun _ _ => rfl)) (pa_cons (pv 4) pa_nil))) pa_nil)))) (pss_one (ps_expr (pe_bm PySem.F.plainAttrs_list PySem.F.slot_list_append PySem.F.type_list_append mt_append (pv 3) (pa_cons (pv 4) pa_nil)))))))
      (pss_one (ps_expr (pe_bm PySem.F.plainAttrs_list PySem.F.slot_list_append PySem.F.type_list_append mt_append (pv 1) (pa_cons (pv 3) pa_nil)))))))
      (pss_one (ps_ret (pv 1))))), ?_⟩
    refine ⟨Nat.zero_le _, fun l hl0 => ?_⟩
    have e0 : Same H (upd H l (.lst [])) := same_new hl0
    refine ⟨_, rfl, a, rfl, ⟨_, same_l e0 hS⟩, for_list (K := K) (a := a) (xs := xs) (fun i σ H' => ∃ (ys : List V) (o1 o2 o3 : Option V), σ = [some (.ref a), some (.ref l), o1, o2, o3] ∧ Same H H' ∧ H' l = some (.lst ys) ∧ ys.length = i ∧ ∀ (j : Nat) y, ys[j]? = some y → y ≠ V.ref l ∧ IsRow K H' y (wi j) (psum (F j)))
      ⟨[], none, none, none, rfl, e0, upd_same, rfl, fun j y q => by cases q⟩ (fun i σ H' _ ⟨_, _, _, _, _, e, _⟩ => same_l e hS) ?_ ?_⟩
    · rintro i y σ H' hi ⟨ys, o1, o2, o3, rfl, e, h1, h2, h3⟩
      have hin : i < n := lt_of_get hi hl
      obtain ⟨b, rs, rfl, q1, q2, q3⟩ := (hx i y hi).same e
      refine ⟨Nat.zero_le _, fun m hm0 => ?_⟩
      have e1 : Same H' (upd H' m (.lst [])) := same_new hm0
      refine ⟨_, rfl, b, rfl, ⟨_, same_l e1 q1⟩, for_list (K := K) (a := b) (xs := rs) (fun j σ H2 => ∃ (zs : List V) (o : Option V), σ = [some (.ref a), some (.ref l), some (.ref b), some (.ref m), o] ∧ Same H' H2 ∧ H2 m = some (.lst zs) ∧ zs.length = j ∧ ∀ (t : Nat) z, zs[t]? = some z → IsP K H2 z (psum (F i) t))
        ⟨[], o3, rfl, e1, upd_same, rfl, fun t z q => by cases q⟩ (fun j σ H2 _ ⟨_, _, _, e, _⟩ => same_l e q1) ?_ ?_⟩
      · rintro j u σ H2 hj ⟨zs, o, rfl, e2, g1, g2, g3⟩
        have hjn : j < wi i := lt_of_get hj q2
        have fin : ∀ z H3, Same H2 H3 → IsP K H3 z (psum (F i) j) → ∃ (zs' : List V) (o : Option V), [some (V.ref a), some (.ref l), some (.ref b), some (.ref m), some u] = [some (.ref a), some (.ref l), some (.ref b), some (.ref m), o] ∧ Same H' (upd H3 m (.lst (zs ++ [z]))) ∧ upd H3 m (.lst (zs ++ [z])) m = some (.lst zs') ∧ zs'.length = j + 1 ∧ ∀ (t : Nat) z', zs'[t]? = some z' → IsP K (upd H3 m (.lst (zs ++ [z]))) z' (psum (F i) t) := fun z H3 e3 hz => by
          have l3 := e3 m _ g1
          refine ⟨zs ++ [z], _, rfl, same_mut (e2.trans e3) hm0, upd_same, by rw [List.length_append, g2]; rfl, ?_⟩
          exact app_all (R := fun t z' => IsP K (upd H3 m (.lst (zs ++ [z]))) z' (psum (F i) t)) g2 (fun t z' q => ((g3 t z' q).same e3).mutL l3) (hz.mutL l3)
        cases j with
        | zero =>
          refine ⟨_, rfl, false, .inl ⟨zs, SqL.of g1, by rw [List.length_eq_zero_iff.mp g2]; rfl⟩, iteF ?_⟩
          refine ⟨_, rfl, .inl ⟨rfl, _, SqL.of g1⟩, _, rfl, m, zs, _, rfl, rfl, g1, line_lt (by omega), ?_⟩
          exact fin u H2 (Same.refl _) ((q3 0 u hj).same e2)
        | succ j =>
          obtain ⟨last, hlast⟩ := get_some (xs := zs) (i := zs.length - 1) (by omega)
          have eli : zs.length - 1 = j := by omega
          have hne : zs ≠ [] := fun z => by rw [z] at g2; cases g2
          refine ⟨_, rfl, true, .inl ⟨zs, SqL.of g1, by cases zs with | nil => exact absurd rfl hne | cons _ _ => rfl⟩, iteT ?_⟩
          refine ⟨_, rfl, .inl ⟨rfl, _, SqL.of g1⟩, ?_⟩
          refine ⟨_, rfl, _, rfl, m, zs, _, last, rfl, rfl, SqL.of g1, at_neg hlast, _, rfl, last, u, psum (F i) j, F i (j + 1), rfl, g3 j last (by rw [← eli]; exact hlast), (q3 (j + 1) u hj).same e2, s2 i j hin (by omega), s1 i (j + 1) hin hjn, trivial, fun z H3 e3 hz => ?_⟩
          have hwi := hw i
          exact ⟨m, zs, _, rfl, rfl, e3 m _ g1, line_lt (by omega), fin z H3 e3 hz⟩
      · rintro σ H2 ⟨zs, o, rfl, e2, g1, g2, g3⟩
        have l2 := e2 l _ h1
        have ml : m ≠ l := fun z => by
          rw [z, h1] at hm0
          cases hm0
        refine ⟨_, rfl, .inl ⟨rfl, _, SqL.of l2⟩, _, rfl, l, ys, _, rfl, rfl, l2, line_lt (by omega), ?_⟩
        refine ⟨ys ++ [.ref m], _, _, _, rfl, same_mut (e.trans e2) hl0, upd_same, by rw [List.length_append, h2]; rfl, ?_⟩
        refine app_all (R := fun j y => y ≠ V.ref l ∧ IsRow K (upd H2 l (.lst (ys ++ [.ref m]))) y (wi j) (psum (F j))) h2 (fun j y q => ⟨(h3 j y q).1, ((h3 j y q).2.same e2).mutL l2 (h3 j y q).1⟩) ?_
        refine ⟨fun z => ml (V.ref.inj z), IsRow.mutL l2 (fun z => ml (V.ref.inj z)) ⟨m, zs, rfl, SqL.of g1, g2.trans q2, g3⟩⟩
    · rintro σ H' ⟨ys, o1, o2, o3, rfl, e, h1, h2, h3⟩
      exact ⟨_, rfl, k _ H' e ⟨l, ys, rfl, SqL.of h1, h2.trans hl, fun i x q => (h3 i x q).2⟩⟩
/-! ### brought -/
def spBrought (K : PySem.W.Frag) : Sp := fun vs H Q _ => ∃ (v u : V) (w1 d : Nat) (g f : Nat → Rat), vs = [v, u] ∧ 1 ≤ w1 ∧ w1 ≤ d + 1 ∧ d ≤ 100 ∧ IsRow K H v w1 g ∧ IsRow K H u d f ∧ (∀ j, j < d → Sz 4000 (f j)) ∧ (∀ j, j ≤ d → Sz 4000 (dvl w1 g f j)) ∧
  ∀ p H', H p = none → Same H H' → IsRow K H' (.ref p) (d + 1) (dvl w1 g f) → Q (.ref p) H'
theorem dvl_in {w1 : Nat} {g f : Nat → Rat} : ∀ {j : Nat}, j < w1 → dvl w1 g f j = g j
  | 0, _ => rfl
  | j + 1, h => if_pos h
theorem cut_from (xs : List V) (k : Nat) : cutV xs (some (k : Int)) none = xs.drop k := by
  unfold cutV
  rw [HT.sIx_nat, HT.sIx_none]
  rcases Nat.le_total k xs.length with h | h
  · rw [Nat.min_eq_left h, List.take_of_length_le (by rw [List.length_drop]; exact Nat.le_refl _)]
  · rw [Nat.min_eq_right h, List.drop_eq_nil_of_le h, List.drop_eq_nil_of_le (Nat.le_refl _)]
    exact List.take_nil
theorem sc_brought : FnScope ["row", "chain", "found", "factor"] ["row", "chain"] (defScope s_brought) := ⟨rfl, rfl, rfl, by decide +kernel, rfl, by decide +kernel, by decide +kernel⟩
theorem c_brought (c : Ctx K mg) : CallOk P w K mg base 4 "brought" ["row", "chain"] [] (spBrought K) := by
  refine c.mk1 13 13 (d := d_brought) rfl rfl rfl fun fd F => ⟨⟨[], .nil, F.bindsN fun _ _ _ _ _ _ us hl => match us, hl with | [_, _], _ => rfl⟩, okN F sc_brought (fun vs H Q E h => ?_) (fun cdv A outer s H vs Q E hr h => ?_)⟩
  · obtain ⟨v, u, w1, d, g, f, rfl, _⟩ := h
    rfl
  · obtain ⟨v, u, w1, d, g, f, rfl, hw0, hw1, hd, ⟨a, xs, rfl, hS, hl, hx⟩, ⟨b, fs, rfl, hF, hf, hy⟩, s1, s2, k⟩ := h
    refine ⟨_, (pss_cons (ps_set (i := 2) sc_brought.nd rfl (by first | exact Or.inl rfl | exact Or.inr rfl) (pe_callTy (T := "list") (call_listK (K := K) rfl) (by rfl) (c.free 54) (by decide +kernel) (pa_cons (pv 0) pa_nil)))
      (pss_cons (ps_for PassesOwn.never rfl (pi_listK (K := K) rfl (pe_slice sl_list (pv 1) (po_some (pe_op op_sub (pe_callB (id := "len") (call_lenK (K := K) rfl) (by rfl) (c.free 56) (by decide +kernel) (pa_cons (pv 0) pa_nil)) pe_int)) po_none)) (pg_name (i := 3) sc_brought.nd rfl (by first | exact Or.inl rfl | exact Or.inr rfl)) (pss_one (ps_expr (pe_bm PySem.F.plainAttrs_list PySem.F.slot_list_append PySem.F.type_list_append mt_append (pv 2) (pa_cons (pe_c (c_times c) (hr.mono (by decide)) rfl (pa_cons (pe_ix (ix_listK (K := K) rfl) (pv 2) (pe_un un_neg pe_int) (fun _ _ => rfl)) (pa_cons (pv 3) pa_nil))) pa_nil)))))
      (pss_one (ps_ret (pv 2))))), ?_⟩
    refine ⟨_, rfl, a, xs, rfl, .inl hS, fun l hl0 => ?_⟩
    have e0 : Same H (upd H l (.lst xs)) := same_new hl0
    have ei : (xs.length : Int) - 1 = ((w1 - 1 : Nat) : Int) := by rw [hl]; omega
    refine ⟨_, rfl, _, rfl, a, xs, rfl, .inl (same_l e0 hS), _, _, rfl, rfl, _, rfl, ?_⟩
    rw [ei]
    refine ⟨b, fs, rfl, same_l e0 hF, fun p hp => ?_⟩
    rw [cut_from]
    have pl : p ≠ l := fun z => by
      rw [z, upd_same] at hp
      cases hp
    have hp0 : H p = none := by
      rw [upd_ne pl] at hp
      exact hp
    have lcs : (fs.drop (w1 - 1)).length = d - (w1 - 1) := by rw [List.length_drop, hf]
    refine ⟨p, rfl, ⟨_, SqL.of upd_same⟩, for_list (K := K) (a := p) (xs := fs.drop (w1 - 1)) (fun i σ H' => ∃ (ys : List V) (o : Option V), σ = [some (.ref a), some (.ref b), some (.ref l), o] ∧ Same H H' ∧ H' p = some (.lst (fs.drop (w1 - 1))) ∧ H' l = some (.lst ys) ∧ ys.length = w1 + i ∧ ∀ (j : Nat) y, ys[j]? = some y → IsP K H' y (dvl w1 g f j))
      ⟨xs, none, rfl, e0.trans (same_new hp), upd_same, by rw [upd_ne pl.symm, upd_same], hl, fun j y q => ?_⟩ (fun i σ H' _ ⟨_, _, _, _, e, _⟩ => SqL.of e) ?_ ?_⟩
    · rw [dvl_in (lt_of_get q hl)]
      exact (hx j y q).same (e0.trans (same_new hp))
    · rintro i y σ H' hi ⟨ys, o, rfl, e, h0, h1, h2, h3⟩
      have hid : i < d - (w1 - 1) := lt_of_get hi lcs
      rw [List.getElem?_drop] at hi
      obtain ⟨last, hlast⟩ := get_some (xs := ys) (i := ys.length - 1) (by omega)
      have eli : ys.length - 1 = w1 - 1 + i := by omega
      refine ⟨_, rfl, .inl ⟨rfl, _, SqL.of h1⟩, ?_⟩
      refine ⟨_, rfl, _, rfl, l, ys, _, last, rfl, rfl, SqL.of h1, at_neg hlast, _, rfl, last, y, dvl w1 g f (w1 - 1 + i), f (w1 - 1 + i), rfl, h3 _ last (by rw [← eli]; exact hlast), (hy _ y hi).same e, s2 _ (by omega), s1 _ (by omega), trivial, fun z H3 e3 hz => ?_⟩
      have l3 := e3 l _ h1
      refine ⟨l, ys, _, rfl, rfl, l3, line_lt (by omega), ?_⟩
      refine ⟨ys ++ [z], _, rfl, same_mut (e.trans e3) hl0, by rw [upd_ne pl]; exact e3 p _ h0, upd_same, by rw [List.length_append, h2]; rfl, ?_⟩
      refine app_all (R := fun j y => IsP K (upd H3 l (.lst (ys ++ [z]))) y (dvl w1 g f j)) h2 (fun j y q => ((h3 j y q).same e3).mutL l3) ?_
      refine (hz.mutL l3).eq ?_
      rw [show w1 + i = (w1 - 1 + i) + 1 by omega]
      exact (if_neg (by omega)).symm
    · rintro σ H' ⟨ys, o, rfl, e, h0, h1, h2, h3⟩
      refine ⟨_, rfl, k l H' hl0 e ⟨l, ys, rfl, SqL.of h1, ?_, h3⟩⟩
      rw [h2, lcs]
      omega
end
end K29
set_option Elab.async false
set_option linter.all false
set_option maxRecDepth 100000
set_option maxHeartbeats 4000000
namespace K29
open PySem PySem.Spec PyProof.Rows L2
section
variable {P : Program} {w : World} {K : PySem.W.Frag} {mg : Str → Option Value} {base : Heap}
/-! ### fractions compared -/
theorem eqv_pair (q r : Rat) : PyData.eqv (.tuple [.int q.num, .int (q.den : Int)]) (.tuple [.int r.num, .int (r.den : Int)]) = decide (q = r) := by
  show ((q.num == r.num) && (((q.den : Int) == (r.den : Int)) && true)) = decide (q = r)
  by_cases h : q = r
  · subst h
    simp
  · rw [decide_eq_false h]
    by_cases h1 : q.num = r.num
    · have h2 : (q.den : Int) ≠ (r.den : Int) := fun e => h (Rat.ext h1 (by omega))
      simp [h2]
    · simp [h1]
theorem IsP.dp {H : Hp} {v : V} {q : Rat} (h : IsP K H v q) : Dp K H v (.tuple [.int q.num, .int (q.den : Int)]) := by
  obtain ⟨a, rfl, ht⟩ := h
  exact .tup ht (.cons (.int _) (.cons (.int _) .nil))
/-! ### counted, balance -/
def spCounted (K : PySem.W.Frag) : Sp := fun vs H Q _ => ∃ (v : V) (first : Int) (n d s : Nat) (W : Nat → Nat → Rat), vs = [v, .int s, .non] ∧ n ≤ 10 ∧ WdAt K H v first n d W ∧
  ∀ p H', Same H H' → H' p = some (.lst ((places n d s).map fun i : Nat => V.int (i : Int))) → Q (.ref p) H'
theorem sc_counted : FnScope ["wedge", "step", "plan", "found", "place", "row", "away"] ["wedge", "step", "plan"] (defScope s_counted) := ⟨rfl, rfl, rfl, by decide +kernel, rfl, by decide +kernel, by decide +kernel⟩
theorem c_counted (c : Ctx K mg) : CallOk P w K mg base 2 "counted" ["wedge", "step", "plan"] [] (spCounted K) := by
  refine c.mk1 8 8 (d := d_counted) rfl rfl rfl fun fd F => ⟨⟨[], .nil, F.bindsN fun _ _ _ _ _ _ us hl => match us, hl with | [_, _, _], _ => rfl⟩, okN F sc_counted (fun vs H Q E h => ?_) (fun cdv A outer s H vs Q E hr h => ?_)⟩
  · obtain ⟨v, first, n, d, s, W, rfl, _⟩ := h
    rfl
  · obtain ⟨v, first, n, d, s0, W, rfl, hn, hW, k⟩ := h
    obtain ⟨x, dx, ln, rfl, hx, hT⟩ := id hW
    refine ⟨_, (pss_cons (ps_setLc (i := 3) (own := [("place", 4), ("row", 5)]) rfl sc_counted.nd rfl rfl (sw_true rfl rfl rfl (by decide +kernel)) (pi_enum rfl (c.free 58) (pa_cons (pe_m0 (pv 0) (c.cls 62) (c_Wrows c) (hr.mono (by decide))) pa_nil)) (blkOk_by (by kernel_rfl)) (fun _ _ _ _ _ => (pg_tupK (K := K) (n := 2) rfl rfl (pgs_cons (pg_name (i := 4) sc_counted.nd rfl (by first | exact Or.inl rfl | exact Or.inr rfl)) (pgs_cons (pg_name (i := 5) sc_counted.nd rfl (by first | exact Or.inl rfl | exact Or.inr rfl)) pgs_nil)))) (fun _ _ _ _ _ => (pts_one (pt_cmpR op_gt (pe_callB (id := "len") (call_lenK (K := K) rfl) (by rfl) (c.free 56) (by decide +kernel) (pa_cons (pv 5) pa_nil)) (pe_op op_add (pv 1) pe_int) (nomark _)))) (fun _ _ _ _ _ => (pv 4)))
      (pss_cons (ps_if (pt_cmpR op_isN (pv 2) pe_non (nomark _)) (pss_one (ps_ret (pv 3))) pss_nil)
      pss_never)), ?_⟩
    refine ⟨_, rfl, x, dx, _, rfl, hx, wf_no _ _ _ _ (by decide +kernel) (by decide +kernel) (by decide +kernel) (by decide +kernel), _, first, n, d, W, rfl, hn, hW, fun z H1 e1 t1 => ?_⟩
    obtain ⟨a, xs, rfl, hS, hl, hr0⟩ := t1
    refine ⟨a, xs, rfl, hS, fun D hD => ?_⟩
    refine lc_it walk_enum (fun i H2 => Same H1 H2 ∧ H2 D = some (.lst (((List.range i).filter fun j => decide (s0 + 1 < wd n d j)).map fun j : Nat => V.int (j : Int)))) ⟨same_new hD, upd_same⟩ (fun i H2 _ p => same_l p.1 hS) (fun i x H2 H3 hi p y => ?_) (fun H2 p => ?_)
    · obtain ⟨T, u1, u2, rfl, hT0, rfl, h1, h2⟩ := y
      cases h1
      obtain ⟨b, rs, rfl, q1, q2, q3⟩ := hr0 i u2 h2
      have eT : Same H2 (upd H2 T (.tup [.int i, .ref b])) := same_new hT0
      have hin : i < n := lt_of_get h2 hl
      refine ⟨T, _, rfl, SqT.of upd_same, rfl, _, _, rfl, _, _, rfl, rfl, rfl, ?_⟩
      refine ⟨_, rfl, b, rs, rfl, .inl (same_l (p.1.trans eT) q1), _, rfl, _, _, rfl, rfl, _, _, rfl, rfl, _, rfl, ?_⟩
      have ed : decide ((s0 : Int) + 1 < (rs.length : Int)) = decide (s0 + 1 < wd n d i) := by
        rw [q2]
        by_cases z : s0 + 1 < wd n d i
        · rw [decide_eq_true z, decide_eq_true (by omega)]
        · rw [decide_eq_false z, decide_eq_false (by omega)]
      have lD := eT D _ p.2
      show if decide ((s0 : Int) + 1 < (rs.length : Int)) = true then _ else _
      rw [ed]
      refine ite2 (fun z => ?_) (fun z => ?_)
      · refine ⟨_, rfl, _, lD, ?_, same_mut (p.1.trans eT) hD, ?_⟩
        · refine line_lt ?_
          rw [List.length_map]
          have := List.length_filter_le (fun j => decide (s0 + 1 < wd n d j)) (List.range i)
          rw [List.length_range] at this
          omega
        · rw [upd_same, List.range_succ, List.filter_append, List.map_append, List.filter_cons, if_pos z] <;> rfl
      · refine ⟨p.1.trans eT, ?_⟩
        rw [lD, List.range_succ, List.filter_append, List.map_append, List.filter_cons, if_neg z]
        show some (HO.lst _) = some (HO.lst (_ ++ []))
        rw [List.append_nil]
    · refine ⟨_, rfl, rfl, _, rfl, iteT ?_⟩
      have e2 := p.2
      rw [hl] at e2
      exact ⟨_, rfl, k D H2 (e1.trans p.1) e2⟩
/-- the sums of a step -/
def spBalance (K : PySem.W.Frag) : Sp := fun vs H Q _ => ∃ (v : V) (first : Int) (n d s : Nat) (W : Nat → Nat → Rat), vs = [v, .int s, .non] ∧ n ≤ 10 ∧ d ≤ 6 ∧ s < d ∧ WdAt K H v first n d W ∧ Fine n d W ∧
  ∀ p H' vb va, Same H H' → H' p = some (.tup [vb, va]) → IsP K H' vb (below n d W s) → IsP K H' va (above n d W s) → Q (.ref p) H'
theorem sc_balance : FnScope ["wedge", "step", "plan", "sums", "places", "below", "place", "above"] ["wedge", "step", "plan"] (defScope s_balance) := ⟨rfl, rfl, rfl, by decide +kernel, rfl, by decide +kernel, by decide +kernel⟩
theorem c_balance (c : Ctx K mg) : CallOk P w K mg base 6 "balance" ["wedge", "step", "plan"] [] (spBalance K) := by
  refine c.mk1 9 9 (d := d_balance) rfl rfl rfl fun fd F => ⟨⟨[], .nil, F.bindsN fun _ _ _ _ _ _ us hl => match us, hl with | [_, _, _], _ => rfl⟩, okN F sc_balance (fun vs H Q E h => ?_) (fun cdv A outer s H vs Q E hr h => ?_)⟩
  · obtain ⟨v, first, n, d, s, W, rfl, _⟩ := h
    rfl
  · obtain ⟨v, first, n, d, s0, W, rfl, hn, hd6, hs, hW, fine, k⟩ := h
    obtain ⟨x, dx, ln, rfl, hx, hT⟩ := id hW
    refine ⟨_, (pss_cons (ps_set (i := 3) sc_balance.nd rfl (by first | exact Or.inl rfl | exact Or.inr rfl) (pe_m0 (pv 0) (c.cls 62) (c_Wsums c) (hr.mono (by decide))))
      (pss_cons (ps_set (i := 4) sc_balance.nd rfl (by first | exact Or.inl rfl | exact Or.inr rfl) (pe_c (c_counted c) (hr.mono (by decide)) rfl (pa_cons (pv 0) (pa_cons (pv 1) (pa_cons (pv 2) pa_nil)))))
      (pss_cons (ps_set (i := 5) sc_balance.nd rfl (by first | exact Or.inl rfl | exact Or.inr rfl) (pe_c (c_total c) (hr.mono (by decide)) rfl (pa_cons (pe_lc (own := [("place", 6)]) rfl sc_balance.nd (pi_listK (K := K) rfl (pv 4)) (blkOk_by (by kernel_rfl)) (fun _ _ _ _ _ => (pg_name (i := 6) sc_balance.nd rfl (by first | exact Or.inl rfl | exact Or.inr rfl))) (fun _ _ _ _ _ => pts_nil) (fun _ _ _ _ _ => (pe_ix (ix_listK (K := K) rfl) (pe_ix (ix_listK (K := K) rfl) (pv 3) (pv 6) (fun _ _ => rfl)) (pv 1) (fun _ _ => rfl)))) pa_nil)))
      (pss_cons (ps_set (i := 7) sc_balance.nd rfl (by first | exact Or.inl rfl | exact Or.inr rfl) (pe_c (c_total c) (hr.mono (by decide)) rfl (pa_cons (pe_lc (own := [("place", 6)]) rfl sc_balance.nd (pi_listK (K := K) rfl (pv 4)) (blkOk_by (by kernel_rfl)) (fun _ _ _ _ _ => (pg_name (i := 6) sc_balance.nd rfl (by first | exact Or.inl rfl | exact Or.inr rfl))) (fun _ _ _ _ _ => pts_nil) (fun _ _ _ _ _ => (pe_ix (ix_listK (K := K) rfl) (pe_ix (ix_listK (K := K) rfl) (pv 3) (pv 6) (fun _ _ => rfl)) (pe_op op_add (pv 1) pe_int) (fun _ _ => rfl)))) pa_nil)))
      (pss_one (ps_ret (pe_tup (pa_cons (pv 5) (pa_cons (pv 7) pa_nil))))))))), ?_⟩
    refine ⟨_, rfl, x, dx, _, rfl, hx, wf_no _ _ _ _ (by decide +kernel) (by decide +kernel) (by decide +kernel) (by decide +kernel), _, first, n, d, W, rfl, hn, hd6, hW, fine.cell, fine.sum, fun z H1 e1 t1 => ?_⟩
    refine ⟨_, rfl, _, rfl, _, rfl, _, first, n, d, s0, W, rfl, hn, hW.same e1, fun p2 H2 e2 l2 => ?_⟩
    obtain ⟨a, xs, rfl, hS, hl, hr0⟩ := t1
    have pc : ∀ (j : Nat), j ≤ s0 + 1 → ∀ H3, Same H2 H3 → ∀ (i : Nat) y, ((places n d s0).map fun i : Nat => V.int (i : Int))[i]? = some y → ∃ (b : Addr) (rs : List V) (u : V), y = .int (pl n d s0 i) ∧ xs[pl n d s0 i]? = some (.ref b) ∧ SqL K H3 b rs ∧ rs[j]? = some u ∧ IsP K H3 u (col n d s0 j W i) := fun j hj H3 e3 i y hi => by
      have hi2 : i < pn n d s0 := by
        have := (List.getElem?_eq_some_iff.mp hi).1
        rw [List.length_map] at this
        exact this
      obtain ⟨b1, b2⟩ := pl_ok hi2
      obtain ⟨w1, hw1⟩ := get_some (xs := xs) (i := pl n d s0 i) (by rw [hl]; exact b1)
      obtain ⟨b, rs, rfl, q1, q2, q3⟩ := hr0 _ w1 hw1
      obtain ⟨u, hu⟩ := get_some (xs := rs) (i := j) (by rw [q2]; omega)
      refine ⟨b, rs, u, ?_, hw1, same_l (e2.trans e3) q1, hu, (q3 j u hu).same (e2.trans e3)⟩
      rw [List.getElem?_map, List.getElem?_eq_getElem hi2] at hi
      have e : V.int (((places n d s0)[i]'hi2 : Nat) : Int) = y := Option.some.inj hi
      rw [← e]
      unfold pl
      rw [List.getD_eq_getElem?_getD, List.getElem?_eq_getElem hi2]
      rfl
    have hpl : ((places n d s0).map fun i : Nat => V.int (i : Int)).length = pn n d s0 := List.length_map ..
    have hp10 := pn_le n d s0
    refine ⟨_, rfl, p2, rfl, ⟨_, SqL.of l2⟩, fun D hD => ?_⟩
    refine lcP (K := K) (m := none) walk_list hD Fl.none (by omega) yat (col n d s0 s0 W) (fun H3 g => same_l g.toSame (SqL.of l2)) (fun i y H3 H4 hi g yy Qe kq => ⟨rfl, ?_⟩) (fun H3 g3 r3 => ?_)
    · obtain ⟨rfl, hy⟩ := yy
      obtain ⟨b, rs, u, rfl, q1, q2, q3, q4⟩ := pc s0 (by omega) _ g.toSame i y hy
      exact ⟨_, rfl, _, rfl, a, xs, _, _, rfl, rfl, same_l (e2.trans g.toSame) hS, atI_nat q1, _, rfl, b, rs, _, u, rfl, rfl, q2, atI_nat q3, kq u _ (Go.refl Fl.none) q4⟩
    rw [hpl] at r3
    refine ⟨_, _, pn n d s0, _, rfl, r3, c.nought _, fun i hi => ?_, fun i hi => fine.bel s0 i hs hi, fun vb H5 e5 p5 => ?_⟩
    · have hp := pl_ok hi
      exact fine.sum _ _ hp.1 (by omega)
    have l5 := e5 _ _ (g3.toSame _ _ l2)
    refine ⟨_, rfl, p2, rfl, ⟨_, SqL.of l5⟩, fun D2 hD2 => ?_⟩
    refine lcP (K := K) (m := none) walk_list hD2 Fl.none (by omega) yat (col n d s0 (s0 + 1) W) (fun H6 g => same_l g.toSame (SqL.of l5)) (fun i y H6 H7 hi g yy Qe kq => ⟨rfl, ?_⟩) (fun H6 g6 r6 => ?_)
    · obtain ⟨rfl, hy⟩ := yy
      have e6 : Same H2 H7 := (g3.toSame.trans e5).trans g.toSame
      obtain ⟨b, rs, u, rfl, q1, q2, q3, q4⟩ := pc (s0 + 1) (Nat.le_refl _) _ e6 i y hy
      exact ⟨_, rfl, _, rfl, a, xs, _, _, rfl, rfl, same_l (e2.trans e6) hS, atI_nat q1, _, rfl, _, _, rfl, rfl, b, rs, _, u, rfl, rfl, q2, atI_nat (j := s0 + 1) q3, kq u _ (Go.refl Fl.none) q4⟩
    rw [hpl] at r6
    refine ⟨_, _, pn n d s0, _, rfl, r6, c.nought _, fun i hi => ?_, fun i hi => fine.abv s0 i hs hi, fun va H8 e8 p8 => ?_⟩
    · have hp := pl_ok hi
      exact fine.sum _ _ hp.1 hp.2
    refine ⟨_, rfl, _, rfl, (by show 2 ≤ sizeLine; decide), fun p9 hp9 => ?_⟩
    have e9 := same_new (o := .tup [vb, va]) hp9
    refine k p9 _ vb va (((((e1.trans e2).trans g3.toSame).trans e5).trans (g6.toSame.trans e8)).trans e9) upd_same (p5.same ((g6.toSame.trans e8).trans e9)) (p8.same e9)
/-! ### told -/
def spTold (K : PySem.W.Frag) : Sp := fun vs H Q _ => ∃ (vb va vf : V) (qb qa qf : Rat), vs = [vb, va, vf] ∧ IsP K H vb qb ∧ IsP K H va qa ∧ IsP K H vf qf ∧ Sz 4000 qb ∧ Sz 4000 qa ∧ (qb = 0 → qa = 0) ∧
  ∀ p kd vx H', Same H H' → H' p = some (.tup [.str kd, vb, va, vx]) → kd ≠ ("none" : Str) → IsP K H' vx (if qb = 0 then qf else qa / qb) → Q (.ref p) H'
theorem sc_told : FnScope ["below", "above", "free"] ["below", "above", "free"] (defScope s_told) := ⟨rfl, rfl, rfl, by decide +kernel, rfl, by decide +kernel, by decide +kernel⟩
theorem c_told (c : Ctx K mg) : CallOk P w K mg base 4 "told" ["below", "above", "free"] [] (spTold K) := by
  refine c.mk1 10 10 (d := d_told) rfl rfl rfl fun fd F => ⟨⟨[], .nil, F.bindsN fun _ _ _ _ _ _ us hl => match us, hl with | [_, _, _], _ => rfl⟩, okN F sc_told (fun vs H Q E h => ?_) (fun cdv A outer s H vs Q E hr h => ?_)⟩
  · obtain ⟨vb, va, vf, qb, qa, qf, rfl, _⟩ := h
    rfl
  · obtain ⟨vb, va, vf, qb, qa, qf, rfl, hb, ha, hf, sb, sa, hc, k⟩ := h
    refine ⟨_, (pss_cons (ps_if (pt_cmpR (op_neD hr.units) (pv 0) (pe_glob (v := .ref (He.ga K "NOUGHT")) rfl (c.glo 47) rfl) (nomark _)) (pss_one (ps_ret (pe_tup (pa_cons pe_str (pa_cons (pv 0) (pa_cons (pv 1) (pa_cons (pe_c (c_over c) (hr.mono (by decide)) rfl (pa_cons (pv 1) (pa_cons (pv 0) pa_nil))) pa_nil))))))) pss_nil)
      (pss_cons (ps_if (pt_cmpR (op_neD hr.units) (pv 1) (pe_glob (v := .ref (He.ga K "NOUGHT")) rfl (c.glo 47) rfl) (nomark _)) (pss_one (ps_ret (pe_tup (pa_cons pe_str (pa_cons (pv 0) (pa_cons (pv 1) (pa_cons pe_non pa_nil))))))) pss_nil)
      (pss_one (ps_ret (pe_tup (pa_cons pe_str (pa_cons (pv 0) (pa_cons (pv 1) (pa_cons (pv 2) pa_nil))))))))), ?_⟩
    refine ⟨_, rfl, _, _, hb.dp, (c.nought H).dp, by rfl, by rfl, _, rfl, ?_⟩
    rw [eqv_pair]
    by_cases h0 : qb = 0
    · rw [decide_eq_true h0]
      refine iteF ?_
      refine ⟨_, rfl, _, _, ha.dp, (c.nought H).dp, by rfl, by rfl, _, rfl, ?_⟩
      rw [eqv_pair, decide_eq_true (hc h0)]
      refine iteF ?_
      refine ⟨_, rfl, _, rfl, _, rfl, (by show 4 ≤ sizeLine; decide), fun p hp => ?_⟩
      refine k p _ vf _ (same_new hp) upd_same (by decide +kernel) ?_
      rw [if_pos h0]
      exact hf.same (same_new hp)
    · rw [decide_eq_false h0]
      refine iteT ?_
      refine ⟨_, rfl, _, rfl, _, rfl, _, rfl, va, vb, qa, qb, rfl, ha, hb, sa, sb, h0, fun vx H1 e1 hx => ?_⟩
      refine ⟨(by show 4 ≤ sizeLine; decide), fun p hp => ?_⟩
      refine k p _ vx _ (e1.trans (same_new hp)) upd_same (by decide +kernel) ?_
      rw [if_neg h0]
      exact hx.same (same_new hp)
end
end K29
set_option Elab.async false
set_option linter.all false
set_option maxRecDepth 100000
set_option maxHeartbeats 4000000
namespace K29
open PySem PySem.Spec PyProof.Rows L2
section
variable {P : Program} {w : World} {K : PySem.W.Frag} {mg : Str → Option Value} {base : Heap}
/-! ### steps, factors -/
/-- a step's tuple at y: no step without a factor; its factor q -/
def StepAt (K : PySem.W.Frag) (H : Hp) (y : V) (q : Rat) : Prop := ∃ (p : Addr) (kd : Str) (vb va vx : V), y = .ref p ∧ SqT K H p [.str kd, vb, va, vx] ∧ kd ≠ ("none" : Str) ∧ IsP K H vx q
theorem StepAt.same {H H' : Hp} {y : V} {q : Rat} (e : Same H H') (h : StepAt K H y q) : StepAt K H' y q := by
  obtain ⟨p, kd, vb, va, vx, h1, h2, h3, h4⟩ := h
  exact ⟨p, kd, vb, va, vx, h1, same_t e h2, h3, h4.same e⟩
theorem StepAt.mutL {H : Hp} {y : V} {q : Rat} {D : Addr} {xs ys : List V} (hD : H D = some (.lst xs)) (h : StepAt K H y q) : StepAt K (upd H D (.lst ys)) y q := by
  obtain ⟨p, kd, vb, va, vx, h1, h2, h3, h4⟩ := h
  exact ⟨p, kd, vb, va, vx, h1, mut_t hD h2, h3, h4.mutL hD⟩
def spSteps (K : PySem.W.Frag) : Sp := fun vs H Q _ => ∃ (v : V) (first : Int) (n d : Nat) (W : Nat → Nat → Rat), vs = [v, .non] ∧ n ≤ 10 ∧ d ≤ 6 ∧ WdAt K H v first n d W ∧ Fine n d W ∧ Clear n d W ∧
  ∀ p H', H p = none → Same H H' → IsL K H' (.ref p) d (fun i x => StepAt K H' x (fac n d W i)) → Q (.ref p) H'
theorem sc_steps : FnScope ["wedge", "plan", "chosen", "free", "found", "step", "below", "above"] ["wedge", "plan"] (defScope s_steps) := ⟨rfl, rfl, rfl, by decide +kernel, rfl, by decide +kernel, by decide +kernel⟩
theorem c_steps (c : Ctx K mg) : KCallOk P w K mg base 7 "steps" ["wedge", "plan"] 1 ["plan"] (spSteps K) := by
  refine c.mk1k 11 11 (d := d_steps) rfl rfl rfl fun fd F => ⟨kbn1 F (fun kV doc pm an cdv ct u w => by kernel_rfl), okN F sc_steps (fun vs H Q E h => ?_) (fun cdv A outer s H vs Q E hr h => ?_)⟩
  · obtain ⟨v, first, n, d, W, rfl, _⟩ := h
    rfl
  · obtain ⟨v, first, n, d, W, rfl, hn, hd6, hW, fine, clr, k⟩ := h
    obtain ⟨x, dx, ln, rfl, hx, hT⟩ := id hW
    refine ⟨_, (pss_cons (ps_set (i := 2) sc_steps.nd rfl (by first | exact Or.inl rfl | exact Or.inr rfl) (pe_ifExp (pt_cmpR op_isN (pv 1) pe_non (nomark _)) pe_dnewK pe_not_here))
      (pss_cons (ps_set (i := 3) sc_steps.nd rfl (by first | exact Or.inl rfl | exact Or.inr rfl) (pe_ifExp (pt_cmpR op_isN (pv 1) pe_non (nomark _)) (pe_glob (v := .ref (He.ga K "ONE")) rfl (c.glo 48) rfl) pe_not_here))
      (pss_cons (ps_set (i := 4) sc_steps.nd rfl (by first | exact Or.inl rfl | exact Or.inr rfl) (pe_lst pa_nil))
      (pss_cons (ps_for PassesOwn.never rfl (pi_range1 rfl (c.free 57) (pa_cons (pe_fld (pv 0) rfl) pa_nil)) (pg_name (i := 5) sc_steps.nd rfl (by first | exact Or.inl rfl | exact Or.inr rfl)) (pss_cons (ps_asg (pe_c (c_balance c) (hr.mono (by decide)) rfl (pa_cons (pv 0) (pa_cons (pv 5) (pa_cons (pv 1) pa_nil)))) (pg_tupK (K := K) (n := 2) rfl rfl (pgs_cons (pg_name (i := 6) sc_steps.nd rfl (by first | exact Or.inl rfl | exact Or.inr rfl)) (pgs_cons (pg_name (i := 7) sc_steps.nd rfl (by first | exact Or.inl rfl | exact Or.inr rfl)) pgs_nil))))
      (pss_one (ps_if (pt_cmp (pc_din (hu_of hr) (pv 5) (pv 2))) pss_never (pss_one (ps_expr (pe_bm PySem.F.plainAttrs_list PySem.F.slot_list_append PySem.F.type_list_append mt_append (pv 4) (pa_cons (pe_c (c_told c) (hr.mono (by decide)) rfl (pa_cons (pv 6) (pa_cons (pv 7) (pa_cons (pv 3) pa_nil)))) pa_nil))))))))
      (pss_one (ps_ret (pv 4))))))), ?_⟩
    refine ⟨_, rfl, rfl, _, rfl, iteT ?_⟩
    intro dk hdk
    have e0 : Same H (upd H dk (.dK [])) := same_new hdk
    refine ⟨_, rfl, rfl, _, rfl, iteT ?_⟩
    refine ⟨Nat.zero_le _, fun l hl0 => ?_⟩
    have ld : l ≠ dk := fun z => by
      rw [z, upd_same] at hl0
      cases hl0
    have hl00 : H l = none := by
      rw [upd_ne ld] at hl0
      exact hl0
    have e1 := same_new (o := .lst []) hl0
    refine ⟨_, rfl, x, _, dx, _, _, rfl, (e0.trans e1) _ _ hx, (c.cls 62), (c.noat 64), wf_depth _ _ _ _, _, rfl, by omega, by omega, for_range (lo := 0) (n := d) (fun i σ H' => ∃ (ys : List V) (o1 o2 o3 : Option V), σ = [some (.ref x), some .non, some (.ref dk), some (.ref (He.ga K "ONE")), some (.ref l), o1, o2, o3] ∧ Same H H' ∧ H' dk = some (.dK []) ∧ H' l = some (.lst ys) ∧ ys.length = i ∧ ∀ (j : Nat) y, ys[j]? = some y → StepAt K H' y (fac n d W j))
      ⟨[], none, none, none, rfl, e0.trans e1, e1 _ _ upd_same, upd_same, rfl, fun j y q => by cases q⟩ ?_ ?_⟩
    · rintro i σ H' hi ⟨ys, o1, o2, o3, rfl, e, hd0, h1, h2, h3⟩
      have e00 : (0 : Int) + (i : Int) = (i : Int) := Int.zero_add _
      rw [e00]
      refine ⟨_, rfl, _, rfl, _, rfl, _, first, n, d, i, W, rfl, hn, hd6, hi, hW.same e, fine, fun p2 H2 vb va e2 hp2 hb ha => ?_⟩
      refine ⟨p2, _, rfl, SqT.of hp2, rfl, _, _, rfl, _, _, rfl, rfl, ?_⟩
      refine ⟨_, rfl, _, rfl, dk, _, rfl, DGet.k (k := Sum.inl (i : Int)) (e2 _ _ hd0), _, rfl, iteF ?_⟩
      have l2 := e2 _ _ h1
      refine ⟨_, rfl, .inl ⟨rfl, _, SqL.of l2⟩, _, rfl, _, rfl, _, rfl, vb, va, _, below n d W i, above n d W i, 1, rfl, hb, ha, c.one _, fine.bel i _ hi (Nat.le_refl _), fine.abv i _ hi (Nat.le_refl _), clr i hi, fun p3 kd vx H3 e3 hp3 hk hx3 => ?_⟩
      have l3 := e3 _ _ l2
      have ndk : dk ≠ l := ld.symm
      refine ⟨l, ys, _, rfl, rfl, l3, line_lt (by omega), ?_⟩
      refine ⟨ys ++ [.ref p3], _, _, _, rfl, same_mut ((e.trans e2).trans e3) hl00, by rw [upd_ne ndk]; exact e3 _ _ (e2 _ _ hd0), upd_same, by rw [List.length_append, h2]; rfl, ?_⟩
      exact app_all (R := fun j y => StepAt K (upd H3 l (.lst (ys ++ [.ref p3]))) y (fac n d W j)) h2 (fun j y q => ((h3 j y q).same (e2.trans e3)).mutL l3) (StepAt.mutL l3 ⟨p3, kd, vb, va, vx, rfl, SqT.of hp3, hk, hx3⟩)
    · rintro σ H' ⟨ys, o1, o2, o3, rfl, e, hd0, h1, h2, h3⟩
      exact ⟨_, rfl, k l H' hl00 e ⟨l, ys, rfl, SqL.of h1, h2, h3⟩⟩
def spFactors (K : PySem.W.Frag) : Sp := fun vs H Q _ => ∃ (v : V) (first : Int) (n d : Nat) (W : Nat → Nat → Rat), vs = [v, .non] ∧ n ≤ 10 ∧ d ≤ 6 ∧ WdAt K H v first n d W ∧ Fine n d W ∧ Clear n d W ∧
  ∀ p H', Same H H' → IsRow K H' (.ref p) d (fac n d W) → Q (.ref p) H'
theorem sc_factors : FnScope ["wedge", "plan", "found", "step", "kind", "below", "above", "factor"] ["wedge", "plan"] (defScope s_factors) := ⟨rfl, rfl, rfl, by decide +kernel, rfl, by decide +kernel, by decide +kernel⟩
theorem c_factors (c : Ctx K mg) : KCallOk P w K mg base 8 "factors" ["wedge", "plan"] 1 ["plan"] (spFactors K) := by
  refine c.mk1k 12 12 (d := d_factors) rfl rfl rfl fun fd F => ⟨kbn1 F (fun kV doc pm an cdv ct u w => by kernel_rfl), okN F sc_factors (fun vs H Q E h => ?_) (fun cdv A outer s H vs Q E hr h => ?_)⟩
  · obtain ⟨v, first, n, d, W, rfl, _⟩ := h
    rfl
  · obtain ⟨v, first, n, d, W, rfl, hn, hd6, hW, fine, clr, k⟩ := h
    refine ⟨_, (pss_cons (ps_set (i := 2) sc_factors.nd rfl (by first | exact Or.inl rfl | exact Or.inr rfl) (pe_lst pa_nil))
      (pss_cons (ps_for PassesOwn.never rfl (pi_enum rfl (c.free 58) (pa_cons (pe_k (c_steps c) (hr.mono (by decide)) rfl (pa_cons (pv 0) pa_nil) (pk_cons (pv 1) pk_nil)) pa_nil)) (pg_tupK (K := K) (n := 2) rfl rfl (pgs_cons (pg_name (i := 3) sc_factors.nd rfl (by first | exact Or.inl rfl | exact Or.inr rfl)) (pgs_cons (pg_tupK (K := K) (n := 4) rfl rfl (pgs_cons (pg_name (i := 4) sc_factors.nd rfl (by first | exact Or.inl rfl | exact Or.inr rfl)) (pgs_cons (pg_name (i := 5) sc_factors.nd rfl (by first | exact Or.inl rfl | exact Or.inr rfl)) (pgs_cons (pg_name (i := 6) sc_factors.nd rfl (by first | exact Or.inl rfl | exact Or.inr rfl)) (pgs_cons (pg_name (i := 7) sc_factors.nd rfl (by first | exact Or.inl rfl | exact Or.inr rfl)) pgs_nil))))) pgs_nil))) (pss_cons (ps_if (pt_cmpR op_eq (pv 4) pe_str (nomark _)) (pss_one ps_never) pss_nil)
      (pss_one (ps_expr (pe_bm PySem.F.plainAttrs_list PySem.F.slot_list_append PySem.F.type_list_append mt_append (pv 2) (pa_cons (pv 7) pa_nil))))))
      (pss_one (ps_ret (pv 2))))), ?_⟩
    refine ⟨Nat.zero_le _, fun l hl0 => ?_⟩
    have e0 : Same H (upd H l (.lst [])) := same_new hl0
    refine ⟨_, rfl, _, rfl, rfl, rfl, v, first, n, d, W, rfl, hn, hd6, hW.same e0, fine, clr, fun a H1 ha0 e1 t1 => ?_⟩
    obtain ⟨a', xs, ea, hS, hl, hst⟩ := t1
    cases ea
    refine ⟨a, xs, rfl, hS, for_it walk_enum (fun i σ H' => ∃ (ys : List V) (o1 o2 o3 o4 o5 : Option V), σ = [some v, some .non, some (.ref l), o1, o2, o3, o4, o5] ∧ Same H H' ∧ SqL K H' a xs ∧ (∀ (j : Nat) y, xs[j]? = some y → StepAt K H' y (fac n d W j)) ∧ H' l = some (.lst ys) ∧ ys.length = i ∧ ∀ (j : Nat) y, ys[j]? = some y → IsP K H' y (fac n d W j))
      ⟨[], none, none, none, none, none, rfl, e0.trans e1, hS, hst, e1 _ _ upd_same, rfl, fun j y q => by cases q⟩ (fun i σ H' _ ⟨_, _, _, _, _, _, _, _, q, _⟩ => q) ?_ ?_⟩
    · rintro i y σ H' H2 hi ⟨ys, o1, o2, o3, o4, o5, rfl, e, hS', hst', h1, h2, h3⟩ ⟨T, u1, u2, rfl, hT0, rfl, g1, g2⟩
      cases g1
      have eT : Same H' (upd H' T (.tup [.int i, u2])) := same_new hT0
      obtain ⟨p, kd, vb, va, vx, rfl, q1, q2, q3⟩ := (hst' i u2 g2).same eT
      have lT := eT _ _ h1
      have nal : a ≠ l := fun z => by
        rw [z, upd_same] at ha0
        cases ha0
      refine ⟨T, _, rfl, SqT.of upd_same, rfl, _, _, rfl, _, _, rfl, p, _, rfl, q1, rfl, _, _, rfl, _, _, rfl, _, _, rfl, _, _, rfl, rfl, rfl, ?_⟩
      refine ⟨_, rfl, rfl, _, rfl, ite_no (fun z => q2 (V.str.inj z)) ?_⟩
      refine ⟨_, rfl, .inl ⟨rfl, _, SqL.of lT⟩, _, rfl, l, ys, _, rfl, rfl, lT, line_lt (by omega), ?_⟩
      refine ⟨ys ++ [vx], _, _, _, _, _, rfl, same_mut (e.trans eT) hl0, mut_l nal (same_l eT hS'), fun j y q => ((hst' j y q).same eT).mutL lT, upd_same, by rw [List.length_append, h2]; rfl, ?_⟩
      exact app_all (R := fun j y => IsP K (upd (upd H' T (.tup [.int i, .ref p])) l (.lst (ys ++ [vx]))) y (fac n d W j)) h2 (fun j y q => ((h3 j y q).same eT).mutL lT) (q3.mutL lT)
    · rintro σ H' ⟨ys, o1, o2, o3, o4, o5, rfl, e, hS', hst', h1, h2, h3⟩
      exact ⟨_, rfl, k l H' e ⟨l, ys, rfl, SqL.of h1, h2.trans hl, h3⟩⟩
/-! ### developed -/
def spDev (K : PySem.W.Frag) : Sp := fun vs H Q _ => ∃ (v : V) (first : Int) (n d : Nat) (W : Nat → Nat → Rat), vs = [v, .non] ∧ n ≤ 10 ∧ d ≤ 6 ∧ WdAt K H v first n d W ∧ Fine n d W ∧ Clear n d W ∧
  ∀ z H', Same H H' → IsTab K H' z n (fun _ => d + 1) (dev n d W) → Q z H'
theorem sc_developed : FnScope ["wedge", "plan", "chain", "row"] ["wedge", "plan"] (defScope s_developed) := ⟨rfl, rfl, rfl, by decide +kernel, rfl, by decide +kernel, by decide +kernel⟩
theorem c_developed (c : Ctx K mg) : CallOk P w K mg base 9 "developed" ["wedge", "plan"] [.non] (spDev K) := by
  refine c.mk1 14 14 (d := d_developed) rfl rfl rfl fun fd F => ⟨F.binds0 (ps := ["wedge", "plan"]) 1 (fun e => nomatch e) rfl (fun D doc pm an cdv ct us ks hu hk => match us, ks, hu, hk with | [_], [_], _, _ => ⟨_, _, _, _, _, _, rfl, rfl, (show _ = _ by kernel_rfl)⟩), okN F sc_developed (fun vs H Q E h => ?_) (fun cdv A outer s H vs Q E hr h => ?_)⟩
  · obtain ⟨v, first, n, d, W, rfl, _⟩ := h
    rfl
  · obtain ⟨v, first, n, d, W, rfl, hn, hd6, hW, fine, clr, k⟩ := h
    obtain ⟨x, dx, ln, rfl, hx, hT⟩ := id hW
    refine ⟨_, (pss_cons (ps_set (i := 2) sc_developed.nd rfl (by first | exact Or.inl rfl | exact Or.inr rfl) (pe_k (c_factors c) (hr.mono (by decide)) rfl (pa_cons (pv 0) pa_nil) (pk_cons (pv 1) pk_nil)))
      (pss_one (ps_ret (pe_lc (own := [("row", 3)]) rfl sc_developed.nd (pi_listK (K := K) rfl (pe_m0 (pv 0) (c.cls 62) (c_Wsums c) (hr.mono (by decide)))) (blkOk_by (by kernel_rfl)) (fun _ _ _ _ _ => (pg_name (i := 3) sc_developed.nd rfl (by first | exact Or.inl rfl | exact Or.inr rfl))) (fun _ _ _ _ _ => pts_nil) (fun _ _ _ _ _ => (pe_c (c_brought c) (hr.mono (by decide)) rfl (pa_cons (pv 3) (pa_cons (pv 2) pa_nil)))))))), ?_⟩
    refine ⟨_, rfl, _, rfl, rfl, rfl, _, first, n, d, W, rfl, hn, hd6, hW, fine, clr, fun b H1 e1 f1 => ?_⟩
    refine ⟨_, rfl, x, dx, _, rfl, e1 _ _ hx, wf_no _ _ _ _ (by decide +kernel) (by decide +kernel) (by decide +kernel) (by decide +kernel), _, first, n, d, W, rfl, hn, hd6, hW.same e1, fine.cell, fine.sum, fun z H2 e2 t2 => ?_⟩
    obtain ⟨a, xs, rfl, hS, hl, hr0⟩ := t2
    refine ⟨a, rfl, ⟨_, hS⟩, fun D hD => ?_⟩
    refine lcT (K := K) (m := none) walk_list hD Fl.none (by omega) yat (fun _ => d + 1) (dev n d W) (fun H3 g => same_l g.toSame hS) (fun i y H3 H4 zs hi g yy hD3 Qe kq => ⟨rfl, ?_⟩) (fun H3 g t => ?_)
    · obtain ⟨rfl, hy⟩ := yy
      have hin : i < n := lt_of_get hy hl
      refine ⟨_, rfl, _, rfl, y, _, wd n d i, d, psum (W i), fac n d W, rfl, (by unfold wd; omega), wd_le n d i, by omega, (hr0 i y hy).same g.toSame, f1.same (e2.trans g.toSame), fun j hj => fine.fct j hj, fun j hj => fine.dvd i j hin hj, fun p H5 hp e5 r5 => ?_⟩
      refine kq _ _ (go_same e5) (fun z => ?_) r5
      have ez : p = D := V.ref.inj z
      rw [ez, hD3] at hp
      cases hp
    · rw [hl] at t
      exact k _ _ ((e1.trans e2).trans g.toSame) t
end
end K29
set_option Elab.async false
set_option linter.all false
set_option maxRecDepth 100000
set_option maxHeartbeats 4000000
namespace K29
open PySem PySem.Spec PyProof.Rows L2
section
variable {P : Program} {w : World} {K : PySem.W.Frag} {mg : Str → Option Value} {base : Heap}
/-! ### an instance's change leaves the tables -/
theorem insl {H : Hp} {x C dx a : Addr} {fs : List (Str × V)} {o : HO} {xs : List V} (hx : H x = some (.ins C dx fs)) (h : SqL K H a xs) : SqL K (upd H x o) a xs := by
  rcases h with (h | ⟨u, h⟩) | h
  · exact .inl (.inl (by rw [upd_ne (ne_of h hx (by intro z; cases z))]; exact h))
  · exact .inl (.inr ⟨u, by rw [upd_ne (ne_of h hx (by intro z; cases z))]; exact h⟩)
  · exact .inr h
theorem inst {H : Hp} {x C dx a : Addr} {fs : List (Str × V)} {o : HO} {xs : List V} (hx : H x = some (.ins C dx fs)) (h : SqT K H a xs) : SqT K (upd H x o) a xs := by
  rcases h with (h | ⟨u, h⟩) | h
  · exact .inl (.inl (by rw [upd_ne (ne_of h hx (by intro z; cases z))]; exact h))
  · exact .inl (.inr ⟨u, by rw [upd_ne (ne_of h hx (by intro z; cases z))]; exact h⟩)
  · exact .inr h
theorem IsTab.ins {H : Hp} {x C dx : Addr} {fs : List (Str × V)} {o : HO} {v : V} {n : Nat} {wi : Nat → Nat} {W : Nat → Nat → Rat} (hx : H x = some (.ins C dx fs)) (h : IsTab K H v n wi W) : IsTab K (upd H x o) v n wi W := by
  obtain ⟨a, xs, rfl, h1, h2, h3⟩ := h
  refine ⟨a, xs, rfl, insl hx h1, h2, fun i y q => ?_⟩
  obtain ⟨b, ys, rfl, g1, g2, g3⟩ := h3 i y q
  refine ⟨b, ys, rfl, insl hx g1, g2, fun j z r => ?_⟩
  obtain ⟨p, rfl, t⟩ := g3 j z r
  exact ⟨p, rfl, inst hx t⟩
/-! ### check_rows -/
def spCheck (K : PySem.W.Frag) : Sp := fun vs H Q _ => ∃ (first : Int) (n d : Nat) (v : V) (W : Nat → Nat → Rat), vs = [.int first, .int d, v] ∧ 0 ≤ first ∧ first ≤ 9999 ∧ 1 ≤ d ∧ d ≤ 6 ∧ 1 ≤ n ∧ n ≤ 10 ∧ IsTab K H v n (wd n d) W ∧ ∀ H', Same H H' → Q .non H'
theorem all_true {ys : List V} {n : Nat} (hl : ys.length = n) (h : ∀ (i : Nat) y, ys[i]? = some y → y = V.bl true) : ys = (List.replicate n true).map V.bl := by
  refine List.ext_getElem? fun i => ?_
  rw [List.getElem?_map, List.getElem?_replicate]
  by_cases hi : i < n
  · obtain ⟨y, hy⟩ := get_some (xs := ys) (i := i) (by omega)
    rw [hy, if_pos hi, h i y hy]
    rfl
  · rw [if_neg hi, List.getElem?_eq_none (by omega)]
    rfl
theorem sc_check_rows : FnScope ["first", "depth", "rows", "place", "row", "one"] ["first", "depth", "rows"] (defScope s_check_rows) := ⟨rfl, rfl, rfl, by decide +kernel, rfl, by decide +kernel, by decide +kernel⟩
theorem c_check_rows (c : Ctx K mg) : CallOk P w K mg base 3 "check_rows" ["first", "depth", "rows"] [] (spCheck K) := by
  refine c.mk1 17 17 (d := d_check_rows) rfl rfl rfl fun fd F => ⟨⟨[], .nil, F.bindsN fun _ _ _ _ _ _ us hl => match us, hl with | [_, _, _], _ => rfl⟩, okN F sc_check_rows (fun vs H Q E h => ?_) (fun cdv A outer s H vs Q E hr h => ?_)⟩
  · obtain ⟨first, n, d, v, W, rfl, _⟩ := h
    rfl
  · obtain ⟨first, n, d, v, W, rfl, f0, f1, d0, d1, n0, n1, hT, k⟩ := h
    obtain ⟨a, xs, rfl, hS, hl, hr0⟩ := id hT
    refine ⟨_, (pss_cons (ps_if (PW.pt (pw_or (pt_not (pt_val (pe_c (c_in_bounds c) (hr.mono (by decide)) rfl (pa_cons (pv 0) (pa_cons pe_int (pa_cons (c.num 74 rfl) pa_nil)))))) (pw_or1 (pt_not (pt_val (pe_c (c_in_bounds c) (hr.mono (by decide)) rfl (pa_cons (pv 1) (pa_cons pe_int (pa_cons (c.num 73 rfl) pa_nil))))))))) (pss_one ps_never) pss_nil)
      (pss_cons (ps_if (PW.pt (pw_or (pt_not (pt_val (pe_callB (id := "isinstance") (call_isiK2 (K := K) rfl) (by rfl) (c.free 49) (by decide +kernel) (pa_cons (pv 2) (pa_cons (pe_bltn (v := .ty "list") (by rfl) (c.free 54) (by decide +kernel) rfl) pa_nil))))) (pw_or1 (pt_not (pt_val (pe_c (c_in_bounds c) (hr.mono (by decide)) rfl (pa_cons (pe_callB (id := "len") (call_lenK (K := K) rfl) (by rfl) (c.free 56) (by decide +kernel) (pa_cons (pv 2) pa_nil)) (pa_cons pe_int (pa_cons (c.num 72 rfl) pa_nil))))))))) (pss_one ps_never) pss_nil)
      (pss_one (ps_for PassesOwn.never rfl (pi_enum rfl (c.free 58) (pa_cons (pv 2) pa_nil)) (pg_tupK (K := K) (n := 2) rfl rfl (pgs_cons (pg_name (i := 3) sc_check_rows.nd rfl (by first | exact Or.inl rfl | exact Or.inr rfl)) (pgs_cons (pg_name (i := 4) sc_check_rows.nd rfl (by first | exact Or.inl rfl | exact Or.inr rfl)) pgs_nil))) (pss_cons (ps_if (PW.pt (pw_or (pt_not (pt_val (pe_callB (id := "isinstance") (call_isiK2 (K := K) rfl) (by rfl) (c.free 49) (by decide +kernel) (pa_cons (pv 4) (pa_cons (pe_bltn (v := .ty "list") (by rfl) (c.free 54) (by decide +kernel) rfl) pa_nil))))) (pw_or1 (pt_cmpR op_ne (pe_callB (id := "len") (call_lenK (K := K) rfl) (by rfl) (c.free 56) (by decide +kernel) (pa_cons (pv 4) pa_nil)) (pe_c (c_width c) (hr.mono (by decide)) rfl (pa_cons (pe_callB (id := "len") (call_lenK (K := K) rfl) (by rfl) (c.free 56) (by decide +kernel) (pa_cons (pv 2) pa_nil)) (pa_cons (pv 1) (pa_cons (pv 3) pa_nil)))) (nomark _))))) (pss_one ps_never) pss_nil)
      (pss_one (ps_if (pt_not (pt_val (pe_callB (id := "all") (call_allK (K := K) rfl rfl) (by rfl) (c.free 60) (by decide +kernel) (pa_cons (pe_lc (own := [("one", 5)]) rfl sc_check_rows.nd (pi_listK (K := K) rfl (pv 4)) (blkOk_by (by kernel_rfl)) (fun _ _ _ _ _ => (pg_name (i := 5) sc_check_rows.nd rfl (by first | exact Or.inl rfl | exact Or.inr rfl))) (fun _ _ _ _ _ => pts_nil) (fun _ _ _ _ _ => (pe_c (c_is_part c) (hr.mono (by decide)) rfl (pa_cons (pv 5) pa_nil)))) pa_nil)))) (pss_one ps_never) pss_nil))))))), ?_⟩
    refine ⟨_, rfl, _, _, _, rfl, f0, f1, true, rfl, iteF ?_⟩
    refine ⟨_, rfl, _, _, _, rfl, by omega, by omega, true, rfl, iteF ?_⟩
    refine ⟨_, rfl, .ref a, .ty "list", .type "list", .type "list", true, rfl, .ty _, ty_l hS, kit_ty (by decide +kernel), true, rfl, iteF ?_⟩
    refine ⟨_, rfl, a, xs, rfl, .inl hS, _, _, _, rfl, by omega, by omega, true, rfl, iteF ?_⟩
    refine ⟨_, rfl, a, xs, rfl, hS, for_it walk_enum (fun i σ H' => ∃ (o1 o2 o3 : Option V), σ = [some (.int first), some (.int d), some (.ref a), o1, o2, o3] ∧ Same H H')
      ⟨none, none, none, rfl, Same.refl _⟩ (fun i σ H' _ ⟨_, _, _, _, e⟩ => same_l e hS) ?_ ?_⟩
    · rintro i y σ H' H2 hi ⟨o1, o2, o3, rfl, e⟩ ⟨T, u1, u2, rfl, hT0, rfl, g1, g2⟩
      cases g1
      have eT : Same H (upd H' T (.tup [.int i, u2])) := e.trans (same_new hT0)
      obtain ⟨b, rs, rfl, q1, q2, q3⟩ := (hr0 i u2 g2).same eT
      have hin : i < n := lt_of_get g2 hl
      refine ⟨T, _, rfl, SqT.of upd_same, rfl, _, _, rfl, _, _, rfl, rfl, ?_⟩
      refine ⟨_, rfl, .ref b, .ty "list", .type "list", .type "list", true, rfl, .ty _, ty_l q1, kit_ty (by decide +kernel), true, rfl, iteF ?_⟩
      refine ⟨_, rfl, b, rs, rfl, .inl q1, _, rfl, a, xs, rfl, .inl (same_l eT hS), _, rfl, _, rfl, n, d, i, by rw [hl]; rfl, hin, rfl, _, rfl, iteNS (by rw [q2]) ?_⟩
      refine ⟨_, rfl, b, rfl, ⟨_, q1⟩, fun D hD => ?_⟩
      refine lc_go (K := K) (m := none) walk_list hD Fl.none (by rw [q2]; exact Nat.le_trans (wd_le n d i) (by omega)) yat (fun _ y _ => y = V.bl true) (fun _ _ _ _ _ z => z) (fun _ _ _ _ _ _ z => z) (fun H3 g => same_l g.toSame q1) (fun j z H3 H4 hj g yy Qe kq => ⟨rfl, ?_⟩) (fun H3 ys g e3 l3 r3 => ?_)
      · obtain ⟨rfl, hz⟩ := yy
        exact ⟨_, rfl, z, _, rfl, (q3 j z hz).same g.toSame, kq _ _ (Go.refl Fl.none) rfl⟩
      · refine ⟨D, _, rfl, SqL.of (by rw [e3, ← all_true l3 r3]), true, ?_, iteF ?_⟩
        · show V.bl _ = V.bl true
          congr 1
          exact List.all_eq_true.mpr fun b hb => (List.mem_replicate.mp hb).2
        · exact ⟨_, _, _, rfl, eT.trans g.toSame⟩
    · rintro σ H' ⟨o1, o2, o3, rfl, e⟩
      exact k H' e
/-! ### Wedge -/
def spInit (K : PySem.W.Frag) : Sp := fun vs H Q _ => ∃ (x dx : Addr) (first : Int) (n d : Nat) (v : V) (W : Nat → Nat → Rat), vs = [.ref x, .int first, .int d, v] ∧ H x = some (.ins (He.ga K "Wedge") dx []) ∧ 0 ≤ first ∧ first ≤ 9999 ∧ 1 ≤ d ∧ d ≤ 6 ∧ 1 ≤ n ∧ n ≤ 10 ∧ IsTab K H v n (wd n d) W ∧
  ∀ H', (∀ b o, b ≠ x → H b = some o → H' b = some o) → WdAt K H' (.ref x) first n d W → Q .non H'
theorem sc_Winit : FnScope ["self", "first", "depth", "rows", "row"] ["self", "first", "depth", "rows"] (defScope s_Winit) := ⟨rfl, rfl, rfl, by decide +kernel, rfl, by decide +kernel, by decide +kernel⟩
theorem c_Winit (c : Ctx K mg) : MakeOk P w K mg base 4 (He.ga K "Wedge") ["self", "first", "depth", "rows"] (spInit K) := by
  refine c.mk3 46 71 (d := d_Winit) rfl rfl rfl fun fd F => ⟨F.bindsN fun _ _ _ _ _ _ us hl => match us, hl with | [_, _, _, _], _ => rfl, okN F sc_Winit (fun vs H Q E h => ?_) (fun cdv A outer s H vs Q E hr h => ?_)⟩
  · obtain ⟨x, dx, first, n, d, v, W, rfl, _⟩ := h
    rfl
  · obtain ⟨x, dx, first, n, d, v, W, rfl, hx, f0, f1, d0, d1, n0, n1, hT, k⟩ := h
    refine ⟨_, (pss_cons (ps_expr (pe_c (c_check_rows c) (hr.mono (by decide)) rfl (pa_cons (pv 1) (pa_cons (pv 2) (pa_cons (pv 3) pa_nil)))))
      (pss_cons (ps_fld (pv 0) (pv 1) rfl)
      (pss_cons (ps_fld (pv 0) (pv 2) rfl)
      (pss_cons (ps_fld (pv 0) (pe_op op_sub (pe_op op_add (pv 1) (pe_callB (id := "len") (call_lenK (K := K) rfl) (by rfl) (c.free 56) (by decide +kernel) (pa_cons (pv 3) pa_nil))) pe_int) rfl)
      (pss_one (ps_fld (pv 0) (pe_lc (own := [("row", 4)]) rfl sc_Winit.nd (pi_listK (K := K) rfl (pv 3)) (blkOk_by (by kernel_rfl)) (fun _ _ _ _ _ => (pg_name (i := 4) sc_Winit.nd rfl (by first | exact Or.inl rfl | exact Or.inr rfl))) (fun _ _ _ _ _ => pts_nil) (fun _ _ _ _ _ => (pe_callTy (T := "list") (call_listK (K := K) rfl) (by rfl) (c.free 54) (by decide +kernel) (pa_cons (pv 4) pa_nil)))) rfl)))))), ?_⟩
    refine ⟨_, rfl, _, rfl, _, rfl, first, n, d, v, W, rfl, f0, f1, d0, d1, n0, n1, hT, fun H1 e1 => ?_⟩
    have x1 := e1 _ _ hx
    refine ⟨_, rfl, _, rfl, x, _, dx, [], rfl, x1, (c.cls 62), (c.noat 63), (by show 0 < 1000; decide), ?_⟩
    refine ⟨_, rfl, _, rfl, x, _, dx, _, rfl, upd_same, (c.cls 62), (c.noat 64), (by show 1 < 1000; decide), ?_⟩
    rw [upd_upd]
    have t2 := IsTab.ins (o := .ins (He.ga K "Wedge") dx (putF "depth" (.int d) (putF "first" (.int first) []))) x1 (hT.same e1)
    obtain ⟨a, xs, rfl, hS, hl, hr0⟩ := id t2
    refine ⟨_, rfl, _, rfl, a, xs, rfl, .inl hS, _, _, rfl, rfl, _, _, rfl, rfl, _, rfl, x, _, dx, _, rfl, upd_same, (c.cls 62), (c.noat 65), (by show 2 < 1000; decide), ?_⟩
    rw [upd_upd, hl]
    have t3 := IsTab.ins (o := .ins (He.ga K "Wedge") dx (putF "look" (.int (first + n - 1)) (putF "depth" (.int d) (putF "first" (.int first) [])))) x1 (hT.same e1)
    obtain ⟨a', xs', ea, hS', hl', hr'⟩ := id t3
    cases ea
    refine ⟨_, rfl, a, rfl, ⟨_, hS'⟩, fun D hD => ?_⟩
    refine lcT (K := K) (m := none) walk_list hD Fl.none (by omega) yat (wd n d) W (fun H' g => same_l g.toSame hS') (fun i y H2 H3 zs hi g yy hD3 Qe kq => ⟨rfl, ?_⟩) (fun H' g t => ?_)
    · obtain ⟨rfl, hy⟩ := yy
      obtain ⟨b, ys, rfl, h1, h2, h3⟩ := hr' i y hy
      refine ⟨_, rfl, b, ys, rfl, .inl (same_l g.toSame h1), fun l hl0 => ?_⟩
      have e4 : Same H3 (upd H3 l (.lst ys)) := same_new hl0
      refine kq _ _ (go_same e4) (fun z => ?_) ⟨l, ys, rfl, SqL.of upd_same, h2, fun j u q => (h3 j u q).same (g.toSame.trans e4)⟩
      have ez : l = D := V.ref.inj z
      rw [ez, hD3] at hl0
      cases hl0
    · have x4 := g.toSame _ _ (upd_same (H := H1) (a := x) (o := .ins (He.ga K "Wedge") dx (putF "look" (.int (first + n - 1)) (putF "depth" (.int d) (putF "first" (.int first) [])))))
      refine ⟨_, rfl, x, _, dx, _, rfl, x4, (c.cls 62), (c.noat 66), (by show 3 < 1000; decide), ?_⟩
      rw [hl'] at t
      refine k _ (fun b o hb eb => ?_) ⟨x, dx, .ref D, rfl, upd_same, t.ins x4⟩
      rw [upd_ne hb]
      refine g.toSame _ _ ?_
      rw [upd_ne hb]
      exact e1 _ _ eb
end
end K29
set_option Elab.async false
set_option linter.all false
set_option maxRecDepth 100000
set_option maxHeartbeats 4000000
namespace K29
open PySem PySem.Spec PyProof.Rows L2
section
variable {P : Program} {w : World} {K : PySem.W.Frag} {mg : Str → Option Value} {base : Heap}
/-! ### scaled, joined -/
/-- the bounds of a wedge's shape -/
structure Shape (first : Int) (n d : Nat) : Prop where
  f0 : 0 ≤ first
  f1 : first ≤ 9999
  d0 : 1 ≤ d
  d1 : d ≤ 6
  n0 : 1 ≤ n
  n1 : n ≤ 10
theorem made_same {H H2 : Hp} {x dx C : Addr} (nx : H x = none) (nd : H dx = none) (k : ∀ b o, b ≠ x → (upd (upd H dx (.own x)) x (.ins C dx [])) b = some o → H2 b = some o) : Same H H2 := fun b o e =>
  k b o (ne_of_none e nx) (by rw [upd_ne (ne_of_none e nx), upd_ne (ne_of_none e nd)]; exact e)
/-- Wedge(first, d, v) -/
theorem make_wd {H : Hp} {first : Int} {n d : Nat} {v : V} {W : Nat → Nat → Rat} (s : Shape first n d) (hT : IsTab K H v n (wd n d) W) {Q : VK} (k : ∀ z H', Same H H' → WdAt K H' z first n d W → Q z H') :
    ∀ x dx, H x = none → H dx = none → dx ≠ x → spInit K (.ref x :: ([.int first, .int d, v] ++ [])) (upd (upd H dx (.own x)) x (.ins (He.ga K "Wedge") dx [])) (fun u H2 => u = .non ∧ Q (.ref x) H2) E0 := fun x dx nx ndx ne => by
  have s0 : Same H (upd (upd H dx (.own x)) x (.ins (He.ga K "Wedge") dx [])) := fun b o e => by
    rw [upd_ne (ne_of_none e nx), upd_ne (ne_of_none e ndx)]
    exact e
  exact ⟨x, dx, first, n, d, v, W, rfl, upd_same, s.f0, s.f1, s.d0, s.d1, s.n0, s.n1, hT.same s0, fun H' kp hW => ⟨rfl, k _ _ (made_same nx ndx kp) hW⟩⟩
def spScaled (K : PySem.W.Frag) : Sp := fun vs H Q _ => ∃ (v u : V) (first : Int) (n d : Nat) (W : Nat → Nat → Rat) (q : Rat), vs = [v, u] ∧ Shape first n d ∧ WdAt K H v first n d W ∧ IsP K H u q ∧ Sz 4000 q ∧ (∀ i j, i < n → j < wd n d i → Sz 4000 (W i j)) ∧
  ∀ z H', Same H H' → WdAt K H' z first n d (sc q W) → Q z H'
theorem sc_Wscaled : FnScope ["self", "amount", "one", "row"] ["self", "amount"] (defScope s_Wscaled) := ⟨rfl, rfl, rfl, by decide +kernel, rfl, by decide +kernel, by decide +kernel⟩
theorem c_Wscaled (c : Ctx K mg) : MethOk P w K mg base 6 (He.ga K "Wedge") "scaled" ["self", "amount"] (spScaled K) := by
  refine c.mk2 50 70 (d := d_Wscaled) rfl rfl rfl fun fd F => ⟨F.bindsN fun _ _ _ _ _ _ us hl => match us, hl with | [_, _], _ => rfl, okN F sc_Wscaled (fun vs H Q E h => ?_) (fun cdv A outer s H vs Q E hr h => ?_)⟩
  · obtain ⟨v, u, first, n, d, W, q, rfl, _⟩ := h
    rfl
  · obtain ⟨v, u, first, n, d, W, q, rfl, sh, ⟨x, dx, ln, rfl, hx, ⟨a, xs, rfl, hS, hl, hr0⟩⟩, hq, sq, s1, k⟩ := h
    refine ⟨_, (pss_one (ps_ret (pe_mk (c_Winit c) (hr.mono (by decide)) rfl (c.glo 46) (pa_cons (pe_fld (pv 0) rfl) (pa_cons (pe_fld (pv 0) rfl) (pa_cons (pe_lc (own := [("row", 3)]) rfl sc_Wscaled.nd (pi_listK (K := K) rfl (pe_fld (pv 0) rfl)) (blkOk_by (by kernel_rfl)) (fun _ _ _ _ _ => (pg_name (i := 3) sc_Wscaled.nd rfl (by first | exact Or.inl rfl | exact Or.inr rfl))) (fun _ _ _ _ _ => pts_nil) (fun _ _ _ _ _ => (pe_lc (own := [("one", 2)]) rfl sc_Wscaled.nd (pi_listK (K := K) rfl (pv 3)) (blkOk_by (by kernel_rfl)) (fun _ _ _ _ _ => (pg_name (i := 2) sc_Wscaled.nd rfl (by first | exact Or.inl rfl | exact Or.inr rfl))) (fun _ _ _ _ _ => pts_nil) (fun _ _ _ _ _ => (pe_c (c_times c) (hr.mono (by decide)) rfl (pa_cons (pv 2) (pa_cons (pv 1) pa_nil))))))) pa_nil)))))), ?_⟩
    refine ⟨_, rfl, x, _, dx, _, _, rfl, hx, (c.cls 62), (c.noat 63), wf_first _ _ _ _, _, rfl, x, _, dx, _, _, rfl, hx, (c.cls 62), (c.noat 64), wf_depth _ _ _ _, ?_⟩
    refine ⟨_, rfl, x, _, dx, _, _, rfl, hx, (c.cls 62), (c.noat 66), wf_lines _ _ _ _, a, rfl, ⟨_, hS⟩, fun D hD => ?_⟩
    refine lcT (K := K) (m := none) walk_list hD Fl.none (by have := sh.n1; omega) yat (wd n d) (sc q W) (fun H' g => same_l g.toSame hS) (fun i y H2 H3 zs hi g yy hD3 Qe kq => ⟨rfl, ?_⟩) (fun H' g t => ?_)
    · obtain ⟨rfl, hy⟩ := yy
      have hin : i < n := lt_of_get hy hl
      obtain ⟨b, ys, rfl, h1, h2, h3⟩ := (hr0 i y hy).same g.toSame
      refine ⟨_, rfl, b, rfl, ⟨_, h1⟩, fun D2 hD2 => ?_⟩
      refine lcP (K := K) (m := none) walk_list hD2 Fl.none (by have := wd_le n d i; have := sh.d1; omega) yat (sc q W i) (fun H' g => same_l g.toSame h1) (fun j z H4 H5 hj g5 zz Qe2 kq2 => ⟨rfl, ?_⟩) (fun H4 g4 r4 => ?_)
      · obtain ⟨rfl, hz⟩ := zz
        have hjn : j < wd n d i := lt_of_get hz h2
        refine ⟨_, rfl, _, rfl, z, u, W i j, q, rfl, (h3 j z hz).same g5.toSame, hq.same (g.toSame.trans g5.toSame), s1 i j hin hjn, sq, trivial, fun r H6 e6 p6 => ?_⟩
        exact kq2 r H6 (go_same e6) (p6.eq (Rat.mul_comm _ _))
      · rw [h2] at r4
        refine kq _ _ g4 (fun z => ?_) r4
        have ez : D2 = D := V.ref.inj z
        rw [ez, hD3] at hD2
        cases hD2
    · rw [hl] at t
      exact make_wd sh t fun z H2 e2 hW => k z H2 (g.toSame.trans e2) hW
theorem eqv_three (a b c : Int) : PyData.eqv (.tuple [.int a, .int b, .int c]) (.tuple [.int a, .int b, .int c]) = true := by
  show ((a == a) && ((b == b) && ((c == c) && true))) = true
  simp
def spJoined (K : PySem.W.Frag) : Sp := fun vs H Q _ => ∃ (v u : V) (first : Int) (n d : Nat) (W U : Nat → Nat → Rat), vs = [v, u] ∧ Shape first n d ∧ WdAt K H v first n d W ∧ WdAt K H u first n d U ∧ (∀ i j, i < n → j < wd n d i → Sz 4000 (W i j)) ∧ (∀ i j, i < n → j < wd n d i → Sz 4000 (U i j)) ∧
  ∀ z H', Same H H' → WdAt K H' z first n d (fun i j => W i j + U i j) → Q z H'
theorem sc_Wjoined : FnScope ["self", "other", "rows", "one", "two", "mine", "theirs"] ["self", "other"] (defScope s_Wjoined) := ⟨rfl, rfl, rfl, by decide +kernel, rfl, by decide +kernel, by decide +kernel⟩
theorem c_Wjoined (c : Ctx K mg) : MethOk P w K mg base 6 (He.ga K "Wedge") "joined" ["self", "other"] (spJoined K) := by
  refine c.mk2 49 69 (d := d_Wjoined) rfl rfl rfl fun fd F => ⟨F.bindsN fun _ _ _ _ _ _ us hl => match us, hl with | [_, _], _ => rfl, okN F sc_Wjoined (fun vs H Q E h => ?_) (fun cdv A outer s H vs Q E hr h => ?_)⟩
  · obtain ⟨v, u, first, n, d, W, U, rfl, _⟩ := h
    rfl
  · obtain ⟨v, u, first, n, d, W, U, rfl, sh, hW, hU, s1, s2, k⟩ := h
    obtain ⟨x, dx, ln, rfl, hx, hT⟩ := id hW
    obtain ⟨y, dy, lm, rfl, hy, hTy⟩ := id hU
    refine ⟨_, (pss_cons (ps_if (pt_cmpR (op_neD hr.units) (pe_tup (pa_cons (pe_fld (pv 0) rfl) (pa_cons (pe_fld (pv 0) rfl) (pa_cons (pe_fld (pv 0) rfl) pa_nil)))) (pe_tup (pa_cons (pe_fld (pv 1) rfl) (pa_cons (pe_fld (pv 1) rfl) (pa_cons (pe_fld (pv 1) rfl) pa_nil)))) (nomark _)) (pss_one ps_never) pss_nil)
      (pss_cons (ps_setLc (i := 2) (own := [("mine", 5), ("theirs", 6)]) rfl sc_Wjoined.nd rfl rfl (sw_true rfl rfl rfl (by decide +kernel)) (pi_zipS (K := K) rfl rfl (c.free 59) (pa_cons (pe_fld (pv 0) rfl) (pa_cons (pe_fld (pv 1) rfl) pa_nil))) (blkOk_by (by kernel_rfl)) (fun _ _ _ _ _ => (pg_tupK (K := K) (n := 2) rfl rfl (pgs_cons (pg_name (i := 5) sc_Wjoined.nd rfl (by first | exact Or.inl rfl | exact Or.inr rfl)) (pgs_cons (pg_name (i := 6) sc_Wjoined.nd rfl (by first | exact Or.inl rfl | exact Or.inr rfl)) pgs_nil)))) (fun _ _ _ _ _ => pts_nil) (fun _ _ _ _ _ => (pe_lc (own := [("one", 3), ("two", 4)]) rfl sc_Wjoined.nd (pi_zipS (K := K) rfl rfl (c.free 59) (pa_cons (pv 5) (pa_cons (pv 6) pa_nil))) (blkOk_by (by kernel_rfl)) (fun _ _ _ _ _ => (pg_tupK (K := K) (n := 2) rfl rfl (pgs_cons (pg_name (i := 3) sc_Wjoined.nd rfl (by first | exact Or.inl rfl | exact Or.inr rfl)) (pgs_cons (pg_name (i := 4) sc_Wjoined.nd rfl (by first | exact Or.inl rfl | exact Or.inr rfl)) pgs_nil)))) (fun _ _ _ _ _ => pts_nil) (fun _ _ _ _ _ => (pe_c (c_plus c) (hr.mono (by decide)) rfl (pa_cons (pv 3) (pa_cons (pv 4) pa_nil)))))))
      (pss_one (ps_ret (pe_mk (c_Winit c) (hr.mono (by decide)) rfl (c.glo 46) (pa_cons (pe_fld (pv 0) rfl) (pa_cons (pe_fld (pv 0) rfl) (pa_cons (pv 2) pa_nil)))))))), ?_⟩
    refine ⟨_, rfl, x, _, dx, _, _, rfl, hx, (c.cls 62), (c.noat 63), wf_first _ _ _ _, _, rfl, x, _, dx, _, _, rfl, hx, (c.cls 62), (c.noat 64), wf_depth _ _ _ _, _, rfl, x, _, dx, _, _, rfl, hx, (c.cls 62), (c.noat 65), wf_look _ _ _ _, (by show 3 ≤ sizeLine; decide), fun p1 hp1 => ?_⟩
    have e1 := same_new (o := .tup [.int first, .int d, .int (first + n - 1)]) hp1
    have y1 := e1 _ _ hy
    refine ⟨_, rfl, y, _, dy, _, _, rfl, y1, (c.cls 62), (c.noat 63), wf_first _ _ _ _, _, rfl, y, _, dy, _, _, rfl, y1, (c.cls 62), (c.noat 64), wf_depth _ _ _ _, _, rfl, y, _, dy, _, _, rfl, y1, (c.cls 62), (c.noat 65), wf_look _ _ _ _, (by show 3 ≤ sizeLine; decide), fun p2 hp2 => ?_⟩
    have e2 := same_new (o := .tup [.int first, .int d, .int (first + n - 1)]) hp2
    refine ⟨_, _, .tup (SqT.of (e2 _ _ upd_same)) (.cons (.int _) (.cons (.int _) (.cons (.int _) .nil))), .tup (SqT.of upd_same) (.cons (.int _) (.cons (.int _) (.cons (.int _) .nil))), by rfl, by rfl, _, rfl, ?_⟩
    rw [eqv_three]
    refine iteF ?_
    have e12 := e1.trans e2
    obtain ⟨a, xs, rfl, hS, hl, hr0⟩ := hT.same e12
    obtain ⟨b, ys, rfl, hS2, hl2, hr2⟩ := hTy.same e12
    have x2 := e12 _ _ hx
    have y2 := e12 _ _ hy
    refine ⟨_, rfl, x, _, dx, _, _, rfl, x2, (c.cls 62), (c.noat 66), wf_lines _ _ _ _, _, rfl, y, _, dy, _, _, rfl, y2, (c.cls 62), (c.noat 66), wf_lines _ _ _ _, a, b, xs, ys, rfl, hS, hS2, fun D hD => ?_⟩
    refine lcT (K := K) (m := none) (walk_zipS (by rw [hl, hl2])) hD Fl.none (by have := sh.n1; omega) ypair (wd n d) (fun i j => W i j + U i j) (fun H' g => ⟨same_l g.toSame hS, same_l g.toSame hS2⟩) (fun i z H2 H3 zs hi g zz hD3 Qe kq => ?_) (fun H' g t => ?_)
    · obtain ⟨T, u1, u2, rfl, hT0, rfl, g1, g2⟩ := zz
      have hin : i < n := lt_of_get g1 hl
      have eT : Same _ (upd H2 T (.tup [u1, u2])) := g.toSame.trans (same_new hT0)
      obtain ⟨c1, rs, rfl, q1, q2, q3⟩ := (hr0 i u1 g1).same eT
      obtain ⟨c2, ts, rfl, t1, t2, t3⟩ := (hr2 i u2 g2).same eT
      refine ⟨T, _, rfl, SqT.of upd_same, rfl, _, _, rfl, _, _, rfl, rfl, rfl, ?_⟩
      refine ⟨_, rfl, _, rfl, c1, c2, rs, ts, rfl, q1, t1, fun D2 hD2 => ?_⟩
      refine lcP (K := K) (m := none) (walk_zipS (by rw [q2, t2])) hD2 Fl.none (by have := wd_le n d i; have := sh.d1; omega) ypair (fun j => W i j + U i j) (fun H' g => ⟨same_l g.toSame q1, same_l g.toSame t1⟩) (fun j z H4 H5 hj g5 zz Qe2 kq2 => ?_) (fun H4 g4 r4 => ?_)
      · obtain ⟨T2, w1, w2, rfl, hT2, rfl, m1, m2⟩ := zz
        have hjn : j < wd n d i := lt_of_get m1 q2
        have eT2 : Same _ (upd H4 T2 (.tup [w1, w2])) := g5.toSame.trans (same_new hT2)
        refine ⟨T2, _, rfl, SqT.of upd_same, rfl, _, _, rfl, _, _, rfl, rfl, rfl, ?_⟩
        refine ⟨_, rfl, _, rfl, w1, w2, W i j, U i j, rfl, (q3 j w1 m1).same eT2, (t3 j w2 m2).same eT2, s1 i j hin hjn, s2 i j hin hjn, trivial, fun r H6 e6 p6 => kq2 r H6 (go_same e6) p6⟩
      · rw [q2] at r4
        refine kq _ _ g4 (fun z => ?_) r4
        have ez : D2 = D := V.ref.inj z
        rw [ez, hD3] at hD2
        cases hD2
    · rw [hl] at t
      have e3 := e12.trans g.toSame
      have x3 := e3 _ _ hx
      refine ⟨_, rfl, x, _, dx, _, _, rfl, x3, (c.cls 62), (c.noat 63), wf_first _ _ _ _, _, rfl, x, _, dx, _, _, rfl, x3, (c.cls 62), (c.noat 64), wf_depth _ _ _ _, _, rfl, ?_⟩
      exact make_wd sh t fun z H2 e2 hW => k z H2 (e3.trans e2) hW
end
end K29
set_option Elab.async false
set_option linter.all false
set_option maxRecDepth 100000
set_option maxHeartbeats 4000000
namespace K29
open PySem PySem.Spec PyProof.Rows L2
section
variable {P : Program} {w : World} {K : PySem.W.Frag} {mg : Str → Option Value} {base : Heap}
/-! ### the flow -/
def spFlow (K : PySem.W.Frag) : Sp := fun vs H Q _ => ∃ (a : Addr) (ns : List Int), vs = [.ref a] ∧ SqL K H a (ns.map V.int) ∧ ns.length ≤ 63 ∧ ∀ F H', Same H H' → H F.f = none → FlowAt K H' F → Q (.ref F.f) H'
theorem sc_l_flow : FnScope ["_law_script"] ["_law_script"] (defScope s_l_flow) := ⟨rfl, rfl, rfl, by decide +kernel, rfl, by decide +kernel, by decide +kernel⟩
theorem c_l_flow (c : Ctx K mg) : CallOk P w K mg base 1 "_law_flow" ["_law_script"] [] (spFlow K) := by
  refine c.mk1 19 19 (d := d_l_flow) rfl rfl rfl fun fd F => ⟨⟨[], .nil, F.bindsN fun _ _ _ _ _ _ us hl => match us, hl with | [_], _ => rfl⟩, okN F sc_l_flow (fun vs H Q E h => ?_) (fun cdv A outer s H vs Q E hr h => ?_)⟩
  · obtain ⟨a, ns, rfl, _⟩ := h
    rfl
  · obtain ⟨a, ns, rfl, hS, hl, k⟩ := h
    refine ⟨_, (pss_one (ps_ret (pe_lst (pa_cons (pe_callTy (T := "list") (call_listK (K := K) rfl) (by rfl) (c.free 54) (by decide +kernel) (pa_cons (pe_slice sl_list (pv 0) po_none (po_some pe_int)) pa_nil)) (pa_cons pe_int (pa_cons pe_int (pa_cons pe_int pa_nil))))))), ?_⟩
    refine ⟨_, rfl, _, rfl, a, _, rfl, hS, fun p hp => ?_⟩
    have ec : cutV (ns.map V.int) none (some 63) = ns.map V.int := by
      unfold cutV
      rw [HT.sIx_none, show (63 : Int) = ((63 : Nat) : Int) from rfl, HT.sIx_nat, List.drop_zero, Nat.sub_zero, List.take_of_length_le (by rw [List.length_map]; omega)]
    rw [ec]
    have e1 := same_new (o := .lst (ns.map V.int)) hp
    refine ⟨p, _, rfl, .inl (SqL.of upd_same), fun l hl0 => ?_⟩
    have e2 := same_new (o := .lst (ns.map V.int)) hl0
    refine ⟨(by show 4 ≤ sizeLine; decide), fun f hf => ?_⟩
    have e3 := same_new (o := .lst [.ref l, .int 0, .int 0, .int 7]) hf
    have fl : l ≠ f := fun z => by
      rw [← z, upd_same] at hf
      cases hf
    refine k ⟨f, l, ns⟩ _ ((e1.trans e2).trans e3) ((e1.trans e2).free hf) ⟨0, 0, 7, upd_same, fl, SqL.of (e3 _ _ upd_same), hl, by decide, by decide, by decide, by decide⟩
/-! ### a draw -/
def spDraw (K : PySem.W.Frag) : Sp := fun vs H Q _ => ∃ (F : Flw) (s : Int), vs = [.ref F.f, .int s] ∧ FlowAt K H F ∧ 0 < s ∧ s.natAbs < 2 ^ 120 ∧ ∀ i H', 0 ≤ i → i < s → Go K (some F) H H' → Q (.int i) H'
/-- the flow's list with other numbers -/
theorem flow_set {H H1 : Hp} {F : Flw} {a b c : Int} (g : Go K (some F) H H1) (ha : 0 ≤ a) (hb : 0 ≤ b) (hc : 0 ≤ c) (hc2 : c < 2305843009213693951) : Go K (some F) H (upd H1 F.f (.lst [.ref F.L, .int a, .int b, .int c])) := by
  refine ⟨g.fl0, fun p o n e => ?_, ?_⟩
  · rw [upd_ne (n F rfl)]
    exact g.kp p o n e
  · obtain ⟨a0, b0, c0, h1, h2, h3, h4, h5⟩ := g.fl1.at_
    exact Fl.some ⟨a, b, c, upd_same, h2, mut_l h2 h3, h4, ha, hb, hc, hc2⟩
theorem fm_lo (x : Int) {s : Int} (h : 0 < s) : 0 ≤ x.fmod s := Int.fmod_nonneg_of_pos x h
theorem fm_hi (x : Int) {s : Int} (h : 0 < s) : x.fmod s < s := Int.fmod_lt_of_pos x h
theorem fd_nn {x s : Int} (hx : 0 ≤ x) (h : 0 < s) : 0 ≤ x.fdiv s := Int.fdiv_nonneg hx (Int.le_of_lt h)
theorem sc_l_draw : FnScope ["_law_flow_here", "_law_size", "_law_found", "_law_cell", "_law_here", "_law_mixed"] ["_law_flow_here", "_law_size"] (defScope s_l_draw) := ⟨rfl, rfl, rfl, by decide +kernel, rfl, by decide +kernel, by decide +kernel⟩
theorem c_l_draw (c : Ctx K mg) : CallOk P w K mg base 1 "_law_draw" ["_law_flow_here", "_law_size"] [] (spDraw K) := by
  refine c.mk1 20 20 (d := d_l_draw) rfl rfl rfl fun fd F => ⟨⟨[], .nil, F.bindsN fun _ _ _ _ _ _ us hl => match us, hl with | [_, _], _ => rfl⟩, okN F sc_l_draw (fun vs H Q E h => ?_) (fun cdv A outer s H vs Q E hr h => ?_)⟩
  · obtain ⟨F, s, rfl, _⟩ := h
    rfl
  · obtain ⟨F, sz, rfl, hF, hs, hs2, k⟩ := h
    obtain ⟨a, b, c0, hf, hLf, hL, hl, ha, hb, hc, hc2⟩ := id hF
    have g0 : Go K (some F) H H := Go.refl (Fl.some hF)
    have cd : ∀ x : Int, CDivX x sz := fun x => divX (b := 120) (by omega) hs2 (by decide) (by decide)
    refine ⟨_, (pss_cons (ps_if (pt_cmpR op_gt (pe_ix (ix_listK (K := K) rfl) (pv 0) pe_int (fun _ _ => rfl)) pe_int (nomark _)) (pss_cons (ps_set (i := 2) sc_l_draw.nd rfl (by first | exact Or.inl rfl | exact Or.inr rfl) (pe_op op_modN (pe_ix (ix_listK (K := K) rfl) (pv 0) pe_int (fun _ _ => rfl)) (pv 1)))
      (pss_cons (ps_asg (pe_op op_fdivX (pe_ix (ix_listK (K := K) rfl) (pv 0) pe_int (fun _ _ => rfl)) (pv 1)) (pg_sub (pv 0) pe_int set_list))
      (pss_one (ps_ret (pv 2))))) pss_nil)
      (pss_cons (ps_set (i := 3) sc_l_draw.nd rfl (by first | exact Or.inl rfl | exact Or.inr rfl) pe_int)
      (pss_mid (ps_if (pt_cmpR op_lt (pe_ix (ix_listK (K := K) rfl) (pv 0) pe_int (fun _ _ => rfl)) (pe_callB (id := "len") (call_lenK (K := K) rfl) (by rfl) (c.free 56) (by decide +kernel) (pa_cons (pe_ix (ix_listK (K := K) rfl) (pv 0) pe_int (fun _ _ => rfl)) pa_nil)) (nomark _)) (pss_one (ps_set (i := 3) sc_l_draw.nd rfl (by first | exact Or.inl rfl | exact Or.inr rfl) (pe_ix (ix_listK (K := K) rfl) (pe_ix (ix_listK (K := K) rfl) (pv 0) pe_int (fun _ _ => rfl)) (pe_ix (ix_listK (K := K) rfl) (pv 0) pe_int (fun _ _ => rfl)) (fun _ _ => rfl)))) pss_nil)
      (pss_cons (ps_asg (pe_op op_add (pe_ix (ix_listK (K := K) rfl) (pv 0) pe_int (fun _ _ => rfl)) pe_int) (pg_sub (pv 0) pe_int set_list))
      (pss_cons (ps_if (pt_cmpR op_ge (pe_callB (id := "abs") call_abs (by rfl) (c.free 52) (by decide +kernel) (pa_cons (pv 3) pa_nil)) (pe_op op_pow pe_int pe_int) (nomark _)) (pss_cons (ps_set (i := 2) sc_l_draw.nd rfl (by first | exact Or.inl rfl | exact Or.inr rfl) (pe_op op_modN (pe_callB (id := "abs") call_abs (by rfl) (c.free 52) (by decide +kernel) (pa_cons (pv 3) pa_nil)) (pv 1)))
      (pss_cons (ps_asg (pe_op op_fdivX (pe_callB (id := "abs") call_abs (by rfl) (c.free 52) (by decide +kernel) (pa_cons (pv 3) pa_nil)) (pv 1)) (pg_sub (pv 0) pe_int set_list))
      (pss_one (ps_ret (pv 2))))) pss_nil)
      (pss_cons (ps_set (i := 4) sc_l_draw.nd rfl (by first | exact Or.inl rfl | exact Or.inr rfl) (pe_op op_add (pe_op op_add (pe_op op_mul (pe_ix (ix_listK (K := K) rfl) (pv 0) pe_int (fun _ _ => rfl)) pe_int) (pe_op op_mul (pv 3) pe_int)) pe_int))
      (pss_mid (ps_set (i := 4) sc_l_draw.nd rfl (by first | exact Or.inl rfl | exact Or.inr rfl) (pe_op op_modN (pe_op op_add (pv 4) (pe_ix (ix_listK (K := K) rfl) (pv 0) pe_int (fun _ _ => rfl))) pe_int))
      (pss_cons (ps_asg (pv 4) (pg_sub (pv 0) pe_int set_list))
      (pss_cons (ps_set (i := 5) sc_l_draw.nd rfl (by first | exact Or.inl rfl | exact Or.inr rfl) (pe_op op_add (pe_op op_mul (pv 4) pe_int) (pe_op op_mul (pe_op op_fdivX (pv 4) pe_int) pe_int)))
      (pss_cons (ps_if (pt_cmpR op_gt (pv 1) (pe_op op_pow pe_int pe_int) (nomark _)) (pss_one (ps_ret (pe_op op_modN (pe_op op_mul (pv 5) (pv 4)) (pv 1)))) pss_nil)
      (pss_one (ps_ret (pe_op op_modN (pe_op op_fdivX (pe_op op_modN (pv 5) pe_int) pe_int) (pv 1)))))))))))))), ?_⟩
    refine ⟨_, rfl, F.f, _, _, _, rfl, rfl, SqL.of hf, rfl, _, _, rfl, rfl, _, rfl, ite2 (fun hz => ?_) (fun hz => ?_)⟩
    · refine ⟨_, rfl, F.f, _, _, _, rfl, rfl, SqL.of hf, rfl, _, rfl, _, _, rfl, rfl, by omega, ?_⟩
      refine ⟨_, rfl, F.f, _, _, _, rfl, rfl, SqL.of hf, rfl, _, rfl, _, _, rfl, rfl, cd _, _, rfl, F.f, _, _, 2, rfl, rfl, hf, rfl, ?_⟩
      exact ⟨_, rfl, k _ _ (fm_lo _ hs) (fm_hi _ hs) (flow_set g0 ha (fd_nn hb hs) hc hc2)⟩
    · refine ⟨fun σ H' => ∃ cv : Int, σ = [some (.ref F.f), some (.int sz), none, some (.int cv), none, none] ∧ H' = H, ?_, ?_⟩
      · refine ⟨_, rfl, F.f, _, _, _, rfl, rfl, SqL.of hf, rfl, _, rfl, F.f, _, _, _, rfl, rfl, SqL.of hf, rfl, F.L, _, rfl, .inl hL, _, _, rfl, rfl, _, rfl, ite2 (fun hlt => ?_) (fun hlt => ?_)⟩
        · have hlt := of_decide_eq_true hlt
          rw [List.length_map] at hlt
          have hn : a.toNat < F.ns.length := by omega
          refine ⟨_, rfl, F.f, _, _, _, rfl, rfl, SqL.of hf, rfl, _, rfl, F.f, _, _, _, rfl, rfl, SqL.of hf, rfl, F.L, _, a, .int F.ns[a.toNat], rfl, rfl, hL, ?_, F.ns[a.toNat], rfl, rfl⟩
          refine at_of (j := a.toNat) (by omega) ?_
          rw [List.getElem?_map, List.getElem?_eq_getElem hn]
          rfl
        · exact ⟨0, rfl, rfl⟩
      · rintro σ H' ⟨cv, rfl, rfl⟩
        refine ⟨_, rfl, F.f, _, _, _, rfl, rfl, SqL.of hf, rfl, _, _, rfl, rfl, _, rfl, F.f, _, _, 1, rfl, rfl, hf, rfl, ?_⟩
        have g1 : Go K (some F) H' (upd H' F.f (.lst [.ref F.L, .int (a + 1), .int b, .int c0])) := flow_set g0 (by omega) hb hc hc2
        have f1 : (upd H' F.f (.lst [.ref F.L, .int (a + 1), .int b, .int c0])) F.f = some (.lst [.ref F.L, .int (a + 1), .int b, .int c0]) := upd_same
        refine ⟨_, rfl, _, rfl, _, _, rfl, rfl, ⟨by decide, by decide, by decide⟩, _, _, rfl, rfl, _, rfl, ite2 (fun hbig => ?_) (fun hbig => ?_)⟩
        · refine ⟨_, rfl, _, rfl, _, rfl, _, _, rfl, rfl, by omega, ?_⟩
          refine ⟨_, rfl, _, rfl, _, rfl, _, _, rfl, rfl, cd _, _, rfl, F.f, _, _, 2, rfl, rfl, f1, rfl, ?_⟩
          refine ⟨_, rfl, k _ _ (fm_lo _ hs) (fm_hi _ hs) (flow_set g1 (by omega) (fd_nn ?_ hs) hc hc2)⟩
          rw [abs_is]
          omega
        · refine ⟨_, rfl, F.f, _, _, _, rfl, rfl, SqL.of f1, rfl, _, _, rfl, rfl, .inr ⟨by decide, by decide⟩, _, rfl, _, _, rfl, rfl, .inr ⟨by decide, by decide⟩, _, _, rfl, rfl, _, _, rfl, rfl, ?_⟩
          refine ⟨fun σ H2 => ∃ hw : Int, σ = [some (.ref F.f), some (.int sz), none, some (.int cv), some (.int hw), none] ∧ H2 = upd H' F.f (.lst [.ref F.L, .int (a + 1), .int b, .int c0]) ∧ 0 ≤ hw ∧ hw < 2305843009213693951, ?_, ?_⟩
          · exact ⟨_, rfl, _, rfl, F.f, _, _, _, rfl, rfl, SqL.of f1, rfl, _, _, rfl, rfl, _, _, rfl, rfl, (show (2305843009213693951 : Int) ≠ 0 by decide), _, rfl, rfl, fm_lo _ (by decide), fm_hi _ (by decide)⟩
          · rintro σ H2 ⟨hw, rfl, rfl, w0, w1⟩
            refine ⟨_, rfl, _, rfl, F.f, _, _, 3, rfl, rfl, f1, rfl, ?_⟩
            have g2 : Go K (some F) H' (upd (upd H' F.f (.lst [.ref F.L, .int (a + 1), .int b, .int c0])) F.f (.lst [.ref F.L, .int (a + 1), .int b, .int hw])) := flow_set g1 (by omega) hb w0 w1
            refine ⟨_, rfl, _, _, rfl, rfl, .inr ⟨by decide, by decide⟩, _, rfl, _, _, rfl, rfl, divX (b := 20) (by decide) (by decide) (by decide) (by decide), _, _, rfl, rfl, .inr ⟨by decide, by decide⟩, _, _, rfl, rfl, ?_⟩
            refine ⟨_, rfl, _, _, rfl, rfl, ⟨by decide, by decide, by decide⟩, _, _, rfl, rfl, _, rfl, ite2 (fun _ => ?_) (fun _ => ?_)⟩
            · exact ⟨_, rfl, _, rfl, _, _, rfl, rfl, .inr ⟨by omega, by omega⟩, _, rfl, _, _, rfl, rfl, by omega, k _ _ (fm_lo _ hs) (fm_hi _ hs) g2⟩
            · exact ⟨_, rfl, _, _, rfl, rfl, (show (2147483647 : Int) ≠ 0 by decide), _, _, rfl, rfl, divX (b := 20) (by decide) (by decide) (by decide) (by decide), _, rfl, _, _, rfl, rfl, by omega, k _ _ (fm_lo _ hs) (fm_hi _ hs) g2⟩
end
end K29
set_option Elab.async false
set_option linter.all false
set_option maxRecDepth 100000
set_option maxHeartbeats 4000000
namespace K29
open PySem PySem.Spec PyProof.Rows L2
section
variable {P : Program} {w : World} {K : PySem.W.Frag} {mg : Str → Option Value} {base : Heap}
/-! ### what is drawn -/
def spShape (K : PySem.W.Frag) : Sp := fun vs H Q _ => ∃ F : Flw, vs = [.ref F.f] ∧ FlowAt K H F ∧ ∀ (p : Addr) (n d : Nat) H', Go K (some F) H H' → 1 ≤ n → n ≤ 10 → 1 ≤ d → d ≤ 6 → H' p = some (.tup [.int (n : Int), .int (d : Int)]) → Q (.ref p) H'
theorem sc_l_shape : FnScope ["_law_flow_here", "_law_count", "_law_deep"] ["_law_flow_here"] (defScope s_l_shape) := ⟨rfl, rfl, rfl, by decide +kernel, rfl, by decide +kernel, by decide +kernel⟩
theorem c_l_shape (c : Ctx K mg) : CallOk P w K mg base 2 "_law_shape" ["_law_flow_here"] [] (spShape K) := by
  refine c.mk1 21 21 (d := d_l_shape) rfl rfl rfl fun fd F => ⟨⟨[], .nil, F.bindsN fun _ _ _ _ _ _ us hl => match us, hl with | [_], _ => rfl⟩, okN F sc_l_shape (fun vs H Q E h => ?_) (fun cdv A outer s H vs Q E hr h => ?_)⟩
  · obtain ⟨F, rfl, _⟩ := h
    rfl
  · obtain ⟨F, rfl, hF, k⟩ := h
    have fin : ∀ (x y : Int) H1 p, Go K (some F) H H1 → H1 p = none → 1 ≤ x → x ≤ 10 → 1 ≤ y → y ≤ 6 → Q (.ref p) (upd H1 p (.tup [.int x, .int y])) := fun x y H1 p g hp x0 x1 y0 y1 => by
      have ex : x = (x.toNat : Int) := by omega
      have ey : y = (y.toNat : Int) := by omega
      refine k p x.toNat y.toNat _ (g.to (same_new hp)) (by omega) (by omega) (by omega) (by omega) ?_
      rw [← ex, ← ey]
      exact upd_same
    refine ⟨_, (pss_cons (ps_set (i := 1) sc_l_shape.nd rfl (by first | exact Or.inl rfl | exact Or.inr rfl) (pe_op op_add pe_int (pe_c (c_l_draw c) (hr.mono (by decide)) rfl (pa_cons (pv 0) (pa_cons pe_int pa_nil)))))
      (pss_cons (ps_set (i := 2) sc_l_shape.nd rfl (by first | exact Or.inl rfl | exact Or.inr rfl) (pe_op op_add pe_int (pe_c (c_l_draw c) (hr.mono (by decide)) rfl (pa_cons (pv 0) (pa_cons pe_int pa_nil)))))
      (pss_cons (ps_if (pt_cmpR op_eq (pe_c (c_l_draw c) (hr.mono (by decide)) rfl (pa_cons (pv 0) (pa_cons pe_int pa_nil))) pe_int (nomark _)) (pss_one (ps_set (i := 1) sc_l_shape.nd rfl (by first | exact Or.inl rfl | exact Or.inr rfl) (pe_callB (id := "min") (call_min2 rfl) (by rfl) (c.free 61) (by decide +kernel) (pa_cons pe_int (pa_cons (pe_op op_add (pe_op op_add (pv 2) pe_int) (pe_c (c_l_draw c) (hr.mono (by decide)) rfl (pa_cons (pv 0) (pa_cons pe_int pa_nil)))) pa_nil))))) pss_nil)
      (pss_one (ps_ret (pe_tup (pa_cons (pv 1) (pa_cons (pv 2) pa_nil)))))))), ?_⟩
    refine ⟨_, rfl, F, 10, rfl, hF, by decide, by decide, fun i1 H1 a1 b1 g1 => ⟨_, _, rfl, rfl, ?_⟩⟩
    refine ⟨_, rfl, F, 6, rfl, g1.fl1.at_, by decide, by decide, fun i2 H2 a2 b2 g2 => ⟨_, _, rfl, rfl, ?_⟩⟩
    refine ⟨_, rfl, F, 3, rfl, g2.fl1.at_, by decide, by decide, fun i3 H3 a3 b3 g3 => ⟨rfl, _, rfl, ite2 (fun _ => ?_) (fun _ => ?_)⟩⟩
    · refine ⟨_, rfl, _, _, rfl, rfl, _, rfl, F, 3, rfl, g3.fl1.at_, by decide, by decide, fun i4 H4 a4 b4 g4 => ⟨_, _, rfl, rfl, _, _, rfl, ?_⟩⟩
      refine ⟨_, rfl, _, rfl, (by show 2 ≤ sizeLine; decide), fun p hp => fin _ _ _ p (((g1.trans g2).trans g3).trans g4) hp ?_ ?_ (by omega) (by omega)⟩
      · split <;> omega
      · split <;> omega
    · exact ⟨_, rfl, _, rfl, (by show 2 ≤ sizeLine; decide), fun p hp => fin _ _ _ p ((g1.trans g2).trans g3) hp (by omega) (by omega) (by omega) (by omega)⟩
/-- a drawn amount -/
def spAmount (K : PySem.W.Frag) : Sp := fun vs H Q _ => ∃ (F : Flw) (m : Int), vs = [.ref F.f, .int m] ∧ FlowAt K H F ∧ ∀ v q H', Go K (some F) H H' → IsP K H' v q → Cell 1000000 q → Q v H'
theorem cell_low {t b : Int} {n : Nat} (ht : t.natAbs ≤ n) (h0 : 0 < b) (h1 : b ≤ 12) : Cell n (Rat.divInt t b) := by
  have h := divInt_le t b (by omega)
  exact ⟨Nat.le_trans h.1 ht, Nat.le_trans h.2 (by omega)⟩
theorem b9_of {b : Int} {n : Nat} (h : b.natAbs < 2 ^ n) (e : n ≤ 9000) : b.natAbs < 2 ^ 9000 := Nat.lt_of_lt_of_le h (Nat.pow_le_pow_right (by decide) e)
theorem sc_l_amount : FnScope ["_law_flow_here", "_law_mode"] ["_law_flow_here", "_law_mode"] (defScope s_l_amount) := ⟨rfl, rfl, rfl, by decide +kernel, rfl, by decide +kernel, by decide +kernel⟩
theorem c_l_amount (c : Ctx K mg) : CallOk P w K mg base 2 "_law_amount" ["_law_flow_here", "_law_mode"] [] (spAmount K) := by
  refine c.mk1 26 26 (d := d_l_amount) rfl rfl rfl fun fd F => ⟨⟨[], .nil, F.bindsN fun _ _ _ _ _ _ us hl => match us, hl with | [_, _], _ => rfl⟩, okN F sc_l_amount (fun vs H Q E h => ?_) (fun cdv A outer s H vs Q E hr h => ?_)⟩
  · obtain ⟨F, m, rfl, _⟩ := h
    rfl
  · obtain ⟨F, m, rfl, hF, k⟩ := h
    have fin : ∀ (x : Int) H1 p, Go K (some F) H H1 → H1 p = none → x.natAbs ≤ 1000000 → Q (.ref p) (upd H1 p (.tup [.int x, .int 1])) := fun x H1 p g hp hx =>
      k _ (x : Rat) _ (g.to (same_new hp)) ⟨p, rfl, SqT.of upd_same⟩ ⟨hx, (show (1:Nat) ≤ 12 by decide)⟩
    refine ⟨_, (pss_cons (ps_if (pt_cmpR op_eq (pv 1) pe_int (nomark _)) (pss_one (ps_ret (pe_tup (pa_cons (pe_op op_add pe_int (pe_c (c_l_draw c) (hr.mono (by decide)) rfl (pa_cons (pv 0) (pa_cons pe_int pa_nil)))) (pa_cons pe_int pa_nil))))) pss_nil)
      (pss_cons (ps_if (pt_cmpR op_eq (pv 1) pe_int (nomark _)) (pss_one (ps_ret (pe_tup (pa_cons (pe_op op_sub (pe_c (c_l_draw c) (hr.mono (by decide)) rfl (pa_cons (pv 0) (pa_cons pe_int pa_nil))) pe_int) (pa_cons pe_int pa_nil))))) pss_nil)
      (pss_cons (ps_if (pt_cmpR op_eq (pv 1) pe_int (nomark _)) (pss_one (ps_ret (pe_tup (pa_cons (pe_op op_sub (pe_c (c_l_draw c) (hr.mono (by decide)) rfl (pa_cons (pv 0) (pa_cons pe_int pa_nil))) pe_int) (pa_cons pe_int pa_nil))))) pss_nil)
      (pss_cons (ps_if (pt_cmpR op_eq (pv 1) pe_int (nomark _)) (pss_one (ps_ret (pe_tup (pa_cons (pe_op op_add pe_int (pe_c (c_l_draw c) (hr.mono (by decide)) rfl (pa_cons (pv 0) (pa_cons (pe_op op_pow pe_int pe_int) pa_nil)))) (pa_cons pe_int pa_nil))))) pss_nil)
      (pss_cons (ps_if (pt_cmpR op_eq (pv 1) pe_int (nomark _)) (pss_one (ps_ret (pe_c (c_l_low c) (hr.mono (by decide)) rfl (pa_cons (pe_op op_sub (pe_c (c_l_draw c) (hr.mono (by decide)) rfl (pa_cons (pv 0) (pa_cons pe_int pa_nil))) pe_int) (pa_cons (pe_op op_add pe_int (pe_c (c_l_draw c) (hr.mono (by decide)) rfl (pa_cons (pv 0) (pa_cons pe_int pa_nil)))) pa_nil))))) pss_nil)
      (pss_one (ps_ret (pe_c (c_l_low c) (hr.mono (by decide)) rfl (pa_cons (pe_op op_add pe_int (pe_c (c_l_draw c) (hr.mono (by decide)) rfl (pa_cons (pv 0) (pa_cons pe_int pa_nil)))) (pa_cons (pe_op op_add pe_int (pe_c (c_l_draw c) (hr.mono (by decide)) rfl (pa_cons (pv 0) (pa_cons pe_int pa_nil)))) pa_nil)))))))))), ?_⟩
    refine ⟨_, rfl, rfl, _, rfl, ite2 (fun _ => ?_) (fun _ => ?_)⟩
    · exact ⟨_, rfl, F, 60, rfl, hF, by decide, by decide, fun i H1 a1 b1 g1 => ⟨_, _, rfl, rfl, (by show 2 ≤ sizeLine; decide), fun p hp => fin _ _ p g1 hp (by omega)⟩⟩
    refine ⟨_, rfl, rfl, _, rfl, ite2 (fun _ => ?_) (fun _ => ?_)⟩
    · exact ⟨_, rfl, F, 41, rfl, hF, by decide, by decide, fun i H1 a1 b1 g1 => ⟨_, _, rfl, rfl, (by show 2 ≤ sizeLine; decide), fun p hp => fin _ _ p g1 hp (by omega)⟩⟩
    refine ⟨_, rfl, rfl, _, rfl, ite2 (fun _ => ?_) (fun _ => ?_)⟩
    · exact ⟨_, rfl, F, 3, rfl, hF, by decide, by decide, fun i H1 a1 b1 g1 => ⟨_, _, rfl, rfl, (by show 2 ≤ sizeLine; decide), fun p hp => fin _ _ p g1 hp (by omega)⟩⟩
    refine ⟨_, rfl, rfl, _, rfl, ite2 (fun _ => ?_) (fun _ => ?_)⟩
    · exact ⟨_, rfl, _, _, rfl, rfl, ⟨by decide, by decide, by decide⟩, F, 1000000, rfl, hF, by decide, by decide, fun i H1 a1 b1 g1 => ⟨_, _, rfl, rfl, (by show 2 ≤ sizeLine; decide), fun p hp => fin _ _ p g1 hp (by omega)⟩⟩
    refine ⟨_, rfl, rfl, _, rfl, ite2 (fun _ => ?_) (fun _ => ?_)⟩
    · exact ⟨_, rfl, F, 37, rfl, hF, by decide, by decide, fun i H1 a1 b1 g1 => ⟨_, _, rfl, rfl, _, rfl, F, 12, rfl, g1.fl1.at_, by decide, by decide, fun j H2 a2 b2 g2 => ⟨_, _, rfl, rfl, _, _, rfl, by omega, b9_of (n := 10) (by omega) (by decide), fun v H3 e3 p3 =>
        k v _ H3 ((g1.trans g2).to e3) p3 (cell_low (by omega) (by omega) (by omega))⟩⟩⟩
    · exact ⟨_, rfl, F, 30, rfl, hF, by decide, by decide, fun i H1 a1 b1 g1 => ⟨_, _, rfl, rfl, _, rfl, F, 7, rfl, g1.fl1.at_, by decide, by decide, fun j H2 a2 b2 g2 => ⟨_, _, rfl, rfl, _, _, rfl, by omega, b9_of (n := 10) (by omega) (by decide), fun v H3 e3 p3 =>
        k v _ H3 ((g1.trans g2).to e3) p3 (cell_low (by omega) (by omega) (by omega))⟩⟩⟩
/-- a drawn first year -/
def spFirst (K : PySem.W.Frag) : Sp := fun vs H Q _ => ∃ F : Flw, vs = [.ref F.f] ∧ FlowAt K H F ∧ ∀ r H', Go K (some F) H H' → 0 ≤ r → r ≤ 9999 → Q (.int r) H'
/-- an item of a short list at a drawn place -/
theorem at_draw {xs : List V} {n : Nat} (hl : xs.length = n) {j : Int} (h0 : 0 ≤ j) (h1 : j < n) : ∃ v, xs[j.toNat]? = some v ∧ atI xs j = some v := by
  obtain ⟨v, hv⟩ := get_some (xs := xs) (i := j.toNat) (by omega)
  exact ⟨v, hv, at_of (j := j.toNat) (by omega) hv⟩
theorem sc_l_first : FnScope ["_law_flow_here"] ["_law_flow_here"] (defScope s_l_first) := ⟨rfl, rfl, rfl, by decide +kernel, rfl, by decide +kernel, by decide +kernel⟩
theorem c_l_first (c : Ctx K mg) : CallOk P w K mg base 2 "_law_first" ["_law_flow_here"] [] (spFirst K) := by
  refine c.mk1 38 38 (d := d_l_first) rfl rfl rfl fun fd F => ⟨⟨[], .nil, F.bindsN fun _ _ _ _ _ _ us hl => match us, hl with | [_], _ => rfl⟩, okN F sc_l_first (fun vs H Q E h => ?_) (fun cdv A outer s H vs Q E hr h => ?_)⟩
  · obtain ⟨F, rfl, _⟩ := h
    rfl
  · obtain ⟨F, rfl, hF, k⟩ := h
    refine ⟨_, (pss_one (ps_ret (pe_ix (ix_listK (K := K) rfl) (pe_lst (pa_cons pe_int (pa_cons pe_int (pa_cons pe_int (pa_cons (pe_c (c_l_draw c) (hr.mono (by decide)) rfl (pa_cons (pv 0) (pa_cons pe_int pa_nil))) pa_nil))))) (pe_c (c_l_draw c) (hr.mono (by decide)) rfl (pa_cons (pv 0) (pa_cons pe_int pa_nil))) (fun _ _ => rfl)))), ?_⟩
    refine ⟨_, rfl, F, 10000, rfl, hF, by decide, by decide, fun i H1 a1 b1 g1 => ⟨(by show 4 ≤ sizeLine; decide), fun p hp => ?_⟩⟩
    have g2 : Go K (some F) H (upd H1 p (.lst [.int 0, .int 2001, .int 9999, .int i])) := g1.to (same_new hp)
    refine ⟨_, rfl, F, 4, rfl, g2.fl1.at_, by decide, by decide, fun j H3 a3 b3 g3 => ?_⟩
    have l3 : SqL K H3 p [.int 0, .int 2001, .int 9999, .int i] := g3.lst (SqL.of upd_same) (not_flow g1.fl1 hp)
    obtain ⟨v, e1, e2⟩ := at_draw (xs := [V.int 0, .int 2001, .int 9999, .int i]) (n := 4) rfl a3 b3
    refine ⟨p, _, j, v, rfl, rfl, l3, e2, ?_⟩
    have hj : j.toNat = 0 ∨ j.toNat = 1 ∨ j.toNat = 2 ∨ j.toNat = 3 := by omega
    rcases hj with e | e | e | e <;> rw [e] at e1 <;> cases e1
    · exact k _ _ (g2.trans g3) (by decide) (by decide)
    · exact k _ _ (g2.trans g3) (by decide) (by decide)
    · exact k _ _ (g2.trans g3) (by decide) (by decide)
    · exact k _ _ (g2.trans g3) a1 (by omega)
def spGreat (K : PySem.W.Frag) : Sp := fun vs H Q _ => ∃ F : Flw, vs = [.ref F.f] ∧ FlowAt K H F ∧ ∀ r H', Go K (some F) H H' → r.natAbs ≤ 1000000000000000000000000000000 → Q (.int r) H'
theorem sc_l_great : FnScope ["_law_flow_here", "_law_size"] ["_law_flow_here"] (defScope s_l_great) := ⟨rfl, rfl, rfl, by decide +kernel, rfl, by decide +kernel, by decide +kernel⟩
theorem c_l_great (c : Ctx K mg) : CallOk P w K mg base 2 "_law_great" ["_law_flow_here"] [] (spGreat K) := by
  refine c.mk1 39 39 (d := d_l_great) rfl rfl rfl fun fd F => ⟨⟨[], .nil, F.bindsN fun _ _ _ _ _ _ us hl => match us, hl with | [_], _ => rfl⟩, okN F sc_l_great (fun vs H Q E h => ?_) (fun cdv A outer s H vs Q E hr h => ?_)⟩
  · obtain ⟨F, rfl, _⟩ := h
    rfl
  · obtain ⟨F, rfl, hF, k⟩ := h
    refine ⟨_, (pss_mid (ps_set (i := 1) sc_l_great.nd rfl (by first | exact Or.inl rfl | exact Or.inr rfl) (pe_ix (ix_listK (K := K) rfl) (pe_lst (pa_cons pe_int (pa_cons pe_int (pa_cons pe_int (pa_cons (pe_op op_pow pe_int pe_int) (pa_cons (pe_op op_pow pe_int pe_int) pa_nil)))))) (pe_c (c_l_draw c) (hr.mono (by decide)) rfl (pa_cons (pv 0) (pa_cons pe_int pa_nil))) (fun _ _ => rfl)))
      (pss_one (ps_ret (pe_op op_sub (pe_c (c_l_draw c) (hr.mono (by decide)) rfl (pa_cons (pv 0) (pa_cons (pe_op op_add (pe_op op_mul pe_int (pv 1)) pe_int) pa_nil))) (pv 1))))), ?_⟩
    refine ⟨fun σ H' => ∃ z : Int, σ = [some (.ref F.f), some (.int z)] ∧ Go K (some F) H H' ∧ 3 ≤ z ∧ z ≤ 1000000000000000000000000000000, ?_, ?_⟩
    · refine ⟨_, _, rfl, rfl, ⟨by decide, by decide, by decide⟩, _, _, rfl, rfl, ⟨by decide, by decide, by decide⟩, (by show 5 ≤ sizeLine; decide), fun p hp => ?_⟩
      have g2 := Go.new (K := K) (m := some F) (o := .lst [.int 3, .int 13, .int 1000, .int (10 ^ (9 : Int).toNat), .int (10 ^ (30 : Int).toNat)]) (Fl.some hF) hp
      refine ⟨_, rfl, F, 5, rfl, g2.fl1.at_, by decide, by decide, fun j H3 a3 b3 g3 => ?_⟩
      have l3 : SqL K H3 p [.int 3, .int 13, .int 1000, .int (10 ^ (9 : Int).toNat), .int (10 ^ (30 : Int).toNat)] := g3.lst (SqL.of upd_same) (not_flow (Fl.some hF) hp)
      obtain ⟨v, e1, e2⟩ := at_draw (xs := [V.int 3, .int 13, .int 1000, .int (10 ^ (9 : Int).toNat), .int (10 ^ (30 : Int).toNat)]) (n := 5) rfl a3 b3
      refine ⟨p, _, j, v, rfl, rfl, l3, e2, ?_⟩
      have hj : j.toNat = 0 ∨ j.toNat = 1 ∨ j.toNat = 2 ∨ j.toNat = 3 ∨ j.toNat = 4 := by omega
      rcases hj with e | e | e | e | e <;> rw [e] at e1 <;> cases e1 <;> exact ⟨_, rfl, g2.trans g3, by decide, by decide⟩
    · rintro σ H' ⟨z, rfl, g, z0, z1⟩
      exact ⟨_, rfl, _, rfl, _, _, rfl, rfl, .inl ⟨by decide, by decide⟩, _, _, rfl, rfl, F, _, rfl, g.fl1.at_, by omega, by omega, fun i H1 a1 b1 g1 => ⟨_, rfl, _, _, rfl, rfl, k _ _ (g.trans g1) (by omega)⟩⟩
def spAny (K : PySem.W.Frag) : Sp := fun vs H Q _ => ∃ F : Flw, vs = [.ref F.f] ∧ FlowAt K H F ∧ ∀ v q H', Go K (some F) H H' → IsP K H' v q → Sz 110 q → Q v H'
theorem sc_l_any_part : FnScope ["_law_flow_here", "_law_bottom"] ["_law_flow_here"] (defScope s_l_any_part) := ⟨rfl, rfl, rfl, by decide +kernel, rfl, by decide +kernel, by decide +kernel⟩
theorem c_l_any_part (c : Ctx K mg) : CallOk P w K mg base 3 "_law_any_part" ["_law_flow_here"] [] (spAny K) := by
  refine c.mk1 40 40 (d := d_l_any_part) rfl rfl rfl fun fd F => ⟨⟨[], .nil, F.bindsN fun _ _ _ _ _ _ us hl => match us, hl with | [_], _ => rfl⟩, okN F sc_l_any_part (fun vs H Q E h => ?_) (fun cdv A outer s H vs Q E hr h => ?_)⟩
  · obtain ⟨F, rfl, _⟩ := h
    rfl
  · obtain ⟨F, rfl, hF, k⟩ := h
    refine ⟨_, (pss_mid (ps_set (i := 1) sc_l_any_part.nd rfl (by first | exact Or.inl rfl | exact Or.inr rfl) (pe_ix (ix_listK (K := K) rfl) (pe_lst (pa_cons pe_int (pa_cons pe_int (pa_cons pe_int (pa_cons pe_int (pa_cons pe_int (pa_cons (pe_op op_pow pe_int pe_int) (pa_cons (pe_op op_pow pe_int pe_int) pa_nil)))))))) (pe_c (c_l_draw c) (hr.mono (by decide)) rfl (pa_cons (pv 0) (pa_cons pe_int pa_nil))) (fun _ _ => rfl)))
      (pss_one (ps_ret (pe_c (c_l_low c) (hr.mono (by decide)) rfl (pa_cons (pe_c (c_l_great c) (hr.mono (by decide)) rfl (pa_cons (pv 0) pa_nil)) (pa_cons (pe_op op_add pe_int (pe_c (c_l_draw c) (hr.mono (by decide)) rfl (pa_cons (pv 0) (pa_cons (pv 1) pa_nil)))) pa_nil)))))), ?_⟩
    refine ⟨fun σ H' => ∃ z : Int, σ = [some (.ref F.f), some (.int z)] ∧ Go K (some F) H H' ∧ 1 ≤ z ∧ z ≤ 1000000000000000000000000000000, ?_, ?_⟩
    · refine ⟨_, _, rfl, rfl, ⟨by decide, by decide, by decide⟩, _, _, rfl, rfl, ⟨by decide, by decide, by decide⟩, (by show 7 ≤ sizeLine; decide), fun p hp => ?_⟩
      have g2 := Go.new (K := K) (m := some F) (o := .lst [.int 1, .int 2, .int 3, .int 12, .int 1000, .int (10 ^ (9 : Int).toNat), .int (10 ^ (30 : Int).toNat)]) (Fl.some hF) hp
      refine ⟨_, rfl, F, 7, rfl, g2.fl1.at_, by decide, by decide, fun j H3 a3 b3 g3 => ?_⟩
      have l3 : SqL K H3 p [.int 1, .int 2, .int 3, .int 12, .int 1000, .int (10 ^ (9 : Int).toNat), .int (10 ^ (30 : Int).toNat)] := g3.lst (SqL.of upd_same) (not_flow (Fl.some hF) hp)
      obtain ⟨v, e1, e2⟩ := at_draw (xs := [V.int 1, .int 2, .int 3, .int 12, .int 1000, .int (10 ^ (9 : Int).toNat), .int (10 ^ (30 : Int).toNat)]) (n := 7) rfl a3 b3
      refine ⟨p, _, j, v, rfl, rfl, l3, e2, ?_⟩
      have hj : j.toNat = 0 ∨ j.toNat = 1 ∨ j.toNat = 2 ∨ j.toNat = 3 ∨ j.toNat = 4 ∨ j.toNat = 5 ∨ j.toNat = 6 := by omega
      rcases hj with e | e | e | e | e | e | e <;> rw [e] at e1 <;> cases e1 <;> exact ⟨_, rfl, g2.trans g3, by decide, by decide⟩
    · rintro σ H' ⟨z, rfl, g, z0, z1⟩
      refine ⟨_, rfl, F, rfl, g.fl1.at_, fun t H1 g1 t1 => ?_⟩
      refine ⟨_, rfl, _, rfl, F, z, rfl, g1.fl1.at_, by omega, by omega, fun i H2 a2 b2 g2 => ⟨_, _, rfl, rfl, _, _, rfl, by omega, b9_of (n := 110) (by omega) (by decide), fun v H3 e3 p3 => ?_⟩⟩
      exact k v _ H3 (((g.trans g1).trans g2).to e3) p3 (sz_divInt (by omega) (by omega) (by omega))
end
end K29
set_option Elab.async false
set_option linter.all false
set_option maxRecDepth 100000
set_option maxHeartbeats 4000000
/-! Rows and tables that are drawn; tables changed by place. -/
namespace K29
open PySem PySem.Spec PyProof.Rows L2
section
variable {X : Cx} {K : PySem.W.Frag}
theorem op_notInDK (e : X.K = K) (hu : X.A.units + 65 < cLine) : OpR X (compareOp .NotIn) (rNotInD K) := by
  subst e
  exact op_notInD hu
theorem hu65 {k : Nat} {A : Around} (hr : Room k A) : A.units + 65 < cLine := by
  have := hr.un
  omega
end
section
variable {K : PySem.W.Frag} {m : Option Flw} {J : It} {n : Nat} {G : Hp → Prop} {Y : Nat → Hp → V → Hp → Prop} {g : TG} {te : TE} {vs : List Nat} {σ : L2.St} {H1 : Hp} {D : Addr} {Qd : Hp → Prop}
/-- a new row that stands, of things that C tells -/
theorem lcRowE (w : Walk J n G Y) (hD : H1 D = none) (fl : Fl K m H1) (hn : n ≤ 1000) (hY : ∀ i H x H', Y i H x H' → Same H H') (C : Nat → Rat → Prop) (hG : ∀ H, Go K m H1 H → G H)
    (hs : ∀ i x H H', i < n → Go K m H1 H → Y i H x H' → ∀ Qe : VK, (∀ y q H4, Go K m H' H4 → IsP K H4 y q → C i q → Qe y H4) → g x (wipe σ vs) H' fun σ2 H2 => wipe σ2 vs = wipe σ vs ∧ te σ2 H2 Qe)
    (hd : ∀ H f, Go K m H1 H → RowAt K H D n f → (∀ j, j < n → C j (f j)) → Qd H) :
    ∃ W : Nat → Nat → Hp → Prop, (∃ m, W 0 m (upd H1 D (.lst []))) ∧ ∀ i m H, W i m H →
      (J.stop i H ∧ Qd H) ∨ (J.go i H ∧ ∃ Nx : Hp → Prop, (∀ H', Nx H' → ∃ m', m' < m ∧ W (i + 1) m' H') ∧ ∀ x H', J.yld i H x H' → g x (wipe σ vs) H' fun σ2 H2 => wipe σ2 vs = wipe σ vs ∧ tYes σ2 H2 fun b H3 =>
        if b = true then te σ2 H3 fun y H4 => ∃ acc, H4 D = some (.lst acc) ∧ acc.length < sizeLine ∧ Nx (upd H4 D (.lst (acc ++ [y]))) else Nx H3) :=
  lc_go w hD fl hn hY (fun i y H => ∃ q, IsP K H y q ∧ C i q) (fun _ _ _ _ g0 ⟨q, r, c⟩ => ⟨q, r.go g0, c⟩) (fun _ _ _ _ _ e ⟨q, r, c⟩ => ⟨q, r.mutL e, c⟩) hG
    (fun i x H H' h1 h2 h3 Qe kq => hs i x H H' h1 h2 h3 Qe fun y q H4 g4 r c => kq y H4 g4 ⟨q, r, c⟩) fun H ys g0 e l r => by
  have ex : ∀ j : Nat, ∃ q : Rat, ∀ y, ys[j]? = some y → IsP K H y q ∧ C j q := fun j => by
    cases z : ys[j]? with
    | none => exact ⟨0, fun y e => by cases e⟩
    | some y =>
      obtain ⟨q, h1, h2⟩ := r j y z
      exact ⟨q, fun y' e => by
        cases e
        exact ⟨h1, h2⟩⟩
  obtain ⟨f, hf⟩ := Classical.axiomOfChoice ex
  refine hd H f g0 ⟨ys, e, l, fun j y z => (hf j y z).1⟩ fun j hj => ?_
  obtain ⟨y, hy⟩ := get_some (xs := ys) (i := j) (by omega)
  exact (hf j y hy).2
/-- a new list of new rows, each told by C -/
theorem lcME (w : Walk J n G Y) (hD : H1 D = none) (fl : Fl K m H1) (hn : n ≤ 1000) (hY : ∀ i H x H', Y i H x H' → Same H H') (wi : Nat → Nat) (C : Nat → Nat → Rat → Prop) (hG : ∀ H, Go K m H1 H → G H)
    (hs : ∀ i x H H', i < n → Go K m H1 H → Y i H x H' → ∀ Qe : VK, (∀ p f H4, Go K m H' H4 → H' p = none → RowAt K H4 p (wi i) f → (∀ t, t < wi i → C i t (f t)) → Qe (.ref p) H4) → g x (wipe σ vs) H' fun σ2 H2 => wipe σ2 vs = wipe σ vs ∧ te σ2 H2 Qe)
    (hd : ∀ H F, Go K m H1 H → MTab K H1 H (.ref D) n wi F → (∀ i j, i < n → j < wi i → C i j (F i j)) → Qd H) :
    ∃ W : Nat → Nat → Hp → Prop, (∃ m, W 0 m (upd H1 D (.lst []))) ∧ ∀ i m H, W i m H →
      (J.stop i H ∧ Qd H) ∨ (J.go i H ∧ ∃ Nx : Hp → Prop, (∀ H', Nx H' → ∃ m', m' < m ∧ W (i + 1) m' H') ∧ ∀ x H', J.yld i H x H' → g x (wipe σ vs) H' fun σ2 H2 => wipe σ2 vs = wipe σ vs ∧ tYes σ2 H2 fun b H3 =>
        if b = true then te σ2 H3 fun y H4 => ∃ acc, H4 D = some (.lst acc) ∧ acc.length < sizeLine ∧ Nx (upd H4 D (.lst (acc ++ [y]))) else Nx H3) := by
  have dn := not_flow fl hD
  refine lc_it w (tt := tYes) (fun i H => Go K m H1 H ∧ ∃ as : List Addr, H D = some (.lst (as.map V.ref)) ∧ as.length = i ∧ as.Nodup ∧ D ∉ as ∧ ∀ (j : Nat) p, as[j]? = some p → H1 p = none ∧ ∃ f, RowAt K H p (wi j) f ∧ ∀ t, t < wi j → C j t (f t))
    ⟨(Go.refl fl).mut hD, [], upd_same, rfl, List.nodup_nil, by simp, fun j y e => by cases e⟩ (fun i H _ p => hG H p.1) (fun i x H H' hi p yy => ?_) (fun H p => ?_)
  · obtain ⟨p1, as, p2, p3, p4, p5, p6⟩ := p
    have sy := hY i H x H' yy
    refine hs i x H H' hi p1 yy (fun y H4 => ∃ acc, H4 D = some (.lst acc) ∧ acc.length < sizeLine ∧ Go K m H1 (upd H4 D (.lst (acc ++ [y]))) ∧ ∃ as : List Addr, upd H4 D (.lst (acc ++ [y])) D = some (.lst (as.map V.ref)) ∧ as.length = i + 1 ∧ as.Nodup ∧ D ∉ as ∧ ∀ (j : Nat) p, as[j]? = some p → H1 p = none ∧ ∃ f, RowAt K (upd H4 D (.lst (acc ++ [y]))) p (wi j) f ∧ ∀ t, t < wi j → C j t (f t))
      (fun p f H4 g4 hp r4 c4 => ?_)
    have gs := (p1.to sy).trans g4
    have d4 : H4 D = some (.lst (as.map V.ref)) := g4.kp D _ dn (sy D _ p2)
    have pD : p ≠ D := fun e => by
      rw [e, sy D _ p2] at hp
      cases hp
    have pa : p ∉ as := fun e => by
      obtain ⟨j, hj, ej⟩ := List.mem_iff_getElem.mp e
      obtain ⟨_, ⟨xs, q, _⟩, _⟩ := (p6 j p (by rw [List.getElem?_eq_getElem hj, ej])).2
      rw [sy p _ q] at hp
      cases hp
    have p1n : H1 p = none := by
      have := (p1.to sy).free (p := p) hp
      exact this
    refine ⟨as.map V.ref, d4, line_lt (by rw [List.length_map]; omega), gs.mut hD, as ++ [p], ?_, by rw [List.length_append, p3]; rfl, ?_, ?_, fun j q e => ?_⟩
    · rw [upd_same, List.map_append] <;> rfl
    · exact List.nodup_append.mpr ⟨p4, List.nodup_cons.mpr ⟨by simp, List.nodup_nil⟩, fun x hx y hy e => by
        have e2 : y = p := by simpa using hy
        rw [e, e2] at hx
        exact pa hx⟩
    · intro e
      rcases List.mem_append.mp e with e | e
      · exact p5 e
      · exact pD (by simpa using e : D = p).symm
    · have step : ∀ (q : Addr) (f : Nat → Rat) (r : RowAt K H4 q (wi j) f), q ≠ D → RowAt K (upd H4 D (.lst (as.map V.ref ++ [V.ref p]))) q (wi j) f := fun q f r n0 => by
        obtain ⟨xs, h1, h2, h3⟩ := r
        exact ⟨xs, by rw [upd_ne n0]; exact h1, h2, fun j x z => (h3 j x z).mutL d4⟩
      rcases Nat.lt_or_ge j as.length with hj | hj
      · rw [List.getElem?_append_left hj] at e
        obtain ⟨n1, f1, r1, c1⟩ := p6 j q e
        have qD : q ≠ D := fun z => p5 (by rw [← z]; exact List.mem_of_getElem? e)
        exact ⟨n1, f1, step q f1 (r1.go fl n1 ((Go.same p1.fl1 sy).trans g4)) qD, c1⟩
      · rw [List.getElem?_append_right hj] at e
        rcases Nat.eq_zero_or_pos (j - as.length) with z | z
        · rw [z] at e
          have ez : p = q := Option.some.inj e
          subst ez
          have ej : j = i := by omega
          subst ej
          exact ⟨p1n, f, step p f r4 pD, c4⟩
        · rw [List.getElem?_eq_none (show ([p] : List Addr).length ≤ j - as.length from z)] at e
          cases e
  · obtain ⟨p1, as, p2, p3, p4, p5, p6⟩ := p
    have ex : ∀ j : Nat, ∃ f : Nat → Rat, ∀ p, as[j]? = some p → RowAt K H p (wi j) f ∧ ∀ t, t < wi j → C j t (f t) := fun j => by
      cases z : as[j]? with
      | none => exact ⟨fun _ => 0, fun y e => by cases e⟩
      | some p =>
        obtain ⟨_, f, h1, h2⟩ := p6 j p z
        exact ⟨f, fun y' e => by
          cases e
          exact ⟨h1, h2⟩⟩
    obtain ⟨F, hF⟩ := Classical.axiomOfChoice ex
    refine hd H F p1 ⟨D, as, rfl, p2, hD, p3, p4, p5, fun i p e => (p6 i p e).1, fun i p e => (hF i p e).1⟩ fun i j hi hj => ?_
    have hi2 : i < as.length := by omega
    exact (hF i _ (List.getElem?_eq_getElem hi2)).2 j hj
end
theorem walk_rg {n : Nat} : Walk (Itr 0 n) n (fun _ => True) (YFn fun i => .int ((i : Nat) : Int)) := by
  have h := walk_range (lo := 0) (n := n)
  have e : (fun i : Nat => V.int (0 + (i : Int))) = fun i : Nat => V.int (i : Int) := funext fun i => by rw [Int.zero_add]
  rw [e] at h
  exact h
/-! ### a table changed by place -/
section
variable {K : PySem.W.Frag} {m : Option Flw} {H H' H0 H1 : Hp} {v : V} {a p D : Addr} {as : List Addr} {n k : Nat} {wi : Nat → Nat} {F : Nat → Nat → Rat} {f : Nat → Rat}
theorem nodup_ne {l : List Addr} (h : l.Nodup) {i j : Nat} {p q : Addr} (hi : l[i]? = some p) (hj : l[j]? = some q) (e : i ≠ j) : p ≠ q := by
  obtain ⟨h1, rfl⟩ := List.getElem?_eq_some_iff.mp hi
  obtain ⟨h2, rfl⟩ := List.getElem?_eq_some_iff.mp hj
  have hp := List.pairwise_iff_getElem.mp h
  rcases Nat.lt_or_gt_of_ne e with z | z
  · exact hp i j h1 h2 z
  · exact (hp j i h2 h1 z).symm
theorem nodup_set {l : List Addr} (h : l.Nodup) (hD : D ∉ l) : (l.set k D).Nodup := by
  refine List.pairwise_iff_getElem.mpr fun i j hi hj hij => ?_
  rw [List.getElem_set, List.getElem_set]
  rw [List.length_set] at hi hj
  by_cases z1 : k = i
  · rw [if_pos z1, if_neg (by omega)]
    exact fun e => hD (by rw [e]; exact List.getElem_mem hj)
  · rw [if_neg z1]
    by_cases z2 : k = j
    · rw [if_pos z2]
      exact fun e => hD (by rw [← e]; exact List.getElem_mem hi)
    · rw [if_neg z2]
      exact List.pairwise_iff_getElem.mp h i j hi hj hij
theorem RowAt.mutL {xs ys : List V} (hD : H D = some (.lst xs)) (n0 : p ≠ D) (h : RowAt K H p n f) : RowAt K (upd H D (.lst ys)) p n f := by
  obtain ⟨zs, h1, h2, h3⟩ := h
  exact ⟨zs, by rw [upd_ne n0]; exact h1, h2, fun j x z => (h3 j x z).mutL hD⟩
/-- another row at place k -/
theorem MTabA.set1 (h : MTabA K H0 H a as n wi F) (n1 : D ∉ as) (n2 : D ≠ a) (hf : H0 D = none) (hr : RowAt K H D (wi k) f) : MTabA K H0 (upd H a (.lst ((as.map V.ref).set k (.ref D)))) a (as.set k D) n wi (fun i => if i = k then f else F i) where
  top := by rw [upd_same, List.map_set]
  new := h.new
  len := by rw [List.length_set]; exact h.len
  nd := nodup_set h.nd n1
  out := fun e => by
    rcases List.mem_or_eq_of_mem_set e with e | e
    · exact h.out e
    · exact n2 e.symm
  fresh := fun i p e => by
    rw [List.getElem?_set] at e
    split at e
    · split at e
      · cases e
        exact hf
      · cases e
    · exact h.fresh i p e
  row := fun i p e => by
    rw [List.getElem?_set] at e
    split at e
    · next z =>
      subst z
      split at e
      · cases e
        rw [if_pos rfl]
        exact hr.mutL h.top n2
      · cases e
    · next z =>
      rw [if_neg (fun y => z y.symm)]
      exact (h.row i p e).mutL h.top fun y => h.out (by rw [← y]; exact List.mem_of_getElem? e)
/-- another cell -/
theorem MTabA.setCell {i j : Nat} {xs : List V} {y : V} {q : Rat} (h : MTabA K H0 H a as n wi F) (hp : as[i]? = some p) (hx : H p = some (.lst xs)) (hy : IsP K H y q) : MTabA K H0 (upd H p (.lst (xs.set j y))) a as n wi (fun i' j' => if i' = i ∧ j' = j then q else F i' j') where
  top := by
    rw [upd_ne (fun e => h.out (by rw [e]; exact List.mem_of_getElem? hp))]
    exact h.top
  new := h.new
  len := h.len
  nd := h.nd
  out := h.out
  fresh := h.fresh
  row := fun i' p' e => by
    by_cases z : i' = i
    · subst z
      rw [hp] at e
      cases e
      obtain ⟨xs', h1, h2, h3⟩ := h.row i' p hp
      rw [hx] at h1
      cases h1
      refine ⟨_, upd_same, by rw [List.length_set]; exact h2, fun j' x w => ?_⟩
      rw [List.getElem?_set] at w
      split at w
      · next u =>
        subst u
        split at w
        · cases w
          exact (hy.mutL hx).eq (if_pos ⟨rfl, rfl⟩).symm
        · cases w
      · next u =>
        exact ((h3 j' x w).mutL hx).eq (if_neg (fun t => u t.2.symm)).symm
    · have e2 : (fun j' => if i' = i ∧ j' = j then q else F i' j') = F i' := funext fun j' => if_neg fun t => z t.1
      rw [e2]
      exact (h.row i' p' e).mutL hx (nodup_ne h.nd e hp z)
end
end K29
set_option Elab.async false
set_option linter.all false
set_option maxRecDepth 100000
set_option maxHeartbeats 4000000
namespace K29
open PySem PySem.Spec PyProof.Rows L2
section
variable {P : Program} {w : World} {K : PySem.W.Frag} {mg : Str → Option Value} {base : Heap}
/-! ### the drawn rows -/
/-- all cells of a table of n years, depth d -/
def Cells (c n d : Nat) (W : Nat → Nat → Rat) : Prop := ∀ i j, i < n → j < wd n d i → Cell c (W i j)
def spRowsD (K : PySem.W.Frag) : Sp := fun vs H Q _ => ∃ (F : Flw) (n d : Nat) (mo : Int), vs = [.ref F.f, .int n, .int d, .int mo] ∧ FlowAt K H F ∧ n ≤ 10 ∧ d ≤ 6 ∧ ∀ z H' W, Go K (some F) H H' → MTab K H H' z n (wd n d) W → Cells 1000000 n d W → Q z H'
theorem sc_l_rows : FnScope ["_law_flow_here", "_law_count", "_law_deep", "_law_mode", "_law_lag", "_law_place"] ["_law_flow_here", "_law_count", "_law_deep", "_law_mode"] (defScope s_l_rows) := ⟨rfl, rfl, rfl, by decide +kernel, rfl, by decide +kernel, by decide +kernel⟩
theorem c_l_rows (c : Ctx K mg) : CallOk P w K mg base 3 "_law_rows" ["_law_flow_here", "_law_count", "_law_deep", "_law_mode"] [] (spRowsD K) := by
  refine c.mk1 28 28 (d := d_l_rows) rfl rfl rfl fun fd F => ⟨⟨[], .nil, F.bindsN fun _ _ _ _ _ _ us hl => match us, hl with | [_, _, _, _], _ => rfl⟩, okN F sc_l_rows (fun vs H Q E h => ?_) (fun cdv A outer s H vs Q E hr h => ?_)⟩
  · obtain ⟨F, n, d, mo, rfl, _⟩ := h
    rfl
  · obtain ⟨F, n, d, mo, rfl, hF, hn, hd6, k⟩ := h
    refine ⟨_, (pss_one (ps_ret (pe_lc (own := [("_law_place", 5)]) rfl sc_l_rows.nd (pi_range1 rfl (c.free 57) (pa_cons (pv 1) pa_nil)) (blkOk_by (by kernel_rfl)) (fun _ _ _ _ _ => (pg_name (i := 5) sc_l_rows.nd rfl (by first | exact Or.inl rfl | exact Or.inr rfl))) (fun _ _ _ _ _ => pts_nil) (fun _ _ _ _ _ => (pe_lc (own := [("_law_lag", 4)]) rfl sc_l_rows.nd (pi_range1 rfl (c.free 57) (pa_cons (pe_c (c_l_wide c) (hr.mono (by decide)) rfl (pa_cons (pv 1) (pa_cons (pv 2) (pa_cons (pv 5) pa_nil)))) pa_nil)) (blkOk_by (by kernel_rfl)) (fun _ _ _ _ _ => (pg_name (i := 4) sc_l_rows.nd rfl (by first | exact Or.inl rfl | exact Or.inr rfl))) (fun _ _ _ _ _ => pts_nil) (fun _ _ _ _ _ => (pe_c (c_l_amount c) (hr.mono (by decide)) rfl (pa_cons (pv 0) (pa_cons (pv 3) pa_nil))))))))), ?_⟩
    refine ⟨_, rfl, _, rfl, by omega, by omega, fun D hD => ?_⟩
    refine lcME (K := K) (m := some F) (walk_rg (n := n)) hD (Fl.some hF) (by omega) yfn (wd n d) (fun _ _ q => Cell 1000000 q) (fun _ _ => trivial) (fun i x H2 H3 hi g yy Qe kq => ⟨rfl, ?_⟩) (fun H2 W g t cl => ?_)
    · obtain ⟨rfl, rfl⟩ := yy
      have hw := wd_le n d i
      refine ⟨_, rfl, _, rfl, _, rfl, n, d, i, rfl, hi, _, rfl, by omega, by omega, fun D2 hD2 => ?_⟩
      refine lcRowE (K := K) (m := some F) (walk_rg (n := wd n d i)) hD2 g.fl1 (by omega) yfn (fun _ q => Cell 1000000 q) (fun _ _ => trivial) (fun j y H4 H5 hj g4 yy Qe2 kq2 => ⟨rfl, ?_⟩) (fun H4 f g4 r4 c4 => ?_)
      · obtain ⟨rfl, rfl⟩ := yy
        exact ⟨_, rfl, _, rfl, F, mo, rfl, g4.fl1.at_, fun v q H6 g6 p6 c6 => kq2 v q H6 g6 p6 c6⟩
      · exact kq D2 f H4 g4 hD2 r4 c4
    · exact k _ H2 W g t cl
end
end K29
set_option Elab.async false
set_option linter.all false
set_option maxRecDepth 100000
set_option maxHeartbeats 4000000
namespace K29
open PySem PySem.Spec PyProof.Rows L2
section
variable {P : Program} {w : World} {K : PySem.W.Frag} {mg : Str → Option Value} {base : Heap}
theorem MTabA.rows {m : Option Flw} {H0 H : Hp} {a : Addr} {as : List Addr} {n : Nat} {wi : Nat → Nat} {F : Nat → Nat → Rat} (fl : Fl K m H0) (h : MTabA K H0 H a as n wi F) (i : Nat) (y : V) (e : (as.map V.ref)[i]? = some y) :
    ∃ (p : Addr) (ys : List V), y = .ref p ∧ i < n ∧ ys.length = wi i ∧ (∀ H', Go K m H H' → SqL K H' p ys) ∧ ∀ H', Go K m H H' → ∀ (j : Nat) u, ys[j]? = some u → IsP K H' u (F i j) := by
  rw [List.getElem?_map] at e
  cases z : as[i]? with
  | none =>
    rw [z] at e
    cases e
  | some p =>
    rw [z] at e
    cases e
    obtain ⟨xs, h1, h2, h3⟩ := h.row i p z
    refine ⟨p, xs, rfl, ?_, h2, fun H' g => SqL.of (g.kp p _ (not_flow fl (h.fresh i p z)) h1), fun H' g j u q => (h3 j u q).go g⟩
    rw [← h.len]
    exact (List.getElem?_eq_some_iff.mp z).1
theorem cell_neg {c : Nat} {q : Rat} (h : Cell c q) : Cell c (0 - q) := by
  have e : 0 - q = -q := by rw [Rat.sub_eq_add_neg, Rat.zero_add]
  rw [e]
  exact ⟨by rw [Rat.neg_num, Int.natAbs_neg]; exact h.top, by rw [Rat.neg_den]; exact h.bot⟩
theorem cell_sz {c : Nat} {q : Rat} (h : Cell c q) (hc : c < 2 ^ 100) : Sz 4000 q := Sz.mono (n := 100) ⟨Nat.lt_of_le_of_lt h.top hc, Nat.lt_of_le_of_lt h.bot (by decide)⟩ (by decide)
theorem ixn {n j : Nat} (hj : j < n) : ixN n (j : Int) = some j := by
  unfold ixN
  rw [if_pos (by omega), if_pos (by omega)]
  rfl
def spBend (K : PySem.W.Frag) : Sp := fun vs H Q _ => ∃ (F : Flw) (v : V) (n d : Nat) (H0 : Hp) (W : Nat → Nat → Rat), vs = [.ref F.f, v, .int d] ∧ n ≤ 10 ∧ d ≤ 6 ∧ Go K (some F) H0 H ∧ MTab K H0 H v n (wd n d) W ∧ Cells 1000000 n d W ∧ ∀ z H' U, Go K (some F) H H' → MTab K H0 H' z n (wd n d) U → Cells 1000000 n d U → Q z H'
theorem sc_l_bend : FnScope ["_law_flow_here", "_law_rows_here", "_law_deep", "_law_kind", "_law_lag", "_law_one", "_law_row", "_law_at", "_law_found"] ["_law_flow_here", "_law_rows_here", "_law_deep"] (defScope s_l_bend) := ⟨rfl, rfl, rfl, by decide +kernel, rfl, by decide +kernel, by decide +kernel⟩
theorem c_l_bend (c : Ctx K mg) : CallOk P w K mg base 3 "_law_bend" ["_law_flow_here", "_law_rows_here", "_law_deep"] [] (spBend K) := by
  refine c.mk1 25 25 (d := d_l_bend) rfl rfl rfl fun fd F => ⟨⟨[], .nil, F.bindsN fun _ _ _ _ _ _ us hl => match us, hl with | [_, _, _], _ => rfl⟩, okN F sc_l_bend (fun vs H Q E h => ?_) (fun cdv A outer s H vs Q E hr h => ?_)⟩
  · obtain ⟨F, v, n, d, H0, W, rfl, _⟩ := h
    rfl
  · obtain ⟨F, v, n, d, H0, W, rfl, hn, hd6, g0, hM, hC, k⟩ := h
    have zero : Cell 1000000 0 := ⟨(show (0 : Nat) ≤ 1000000 by decide), (show (1 : Nat) ≤ 12 by decide)⟩
    refine ⟨_, (pss_cons (ps_set (i := 3) sc_l_bend.nd rfl (by first | exact Or.inl rfl | exact Or.inr rfl) (pe_c (c_l_draw c) (hr.mono (by decide)) rfl (pa_cons (pv 0) (pa_cons pe_int pa_nil))))
      (pss_cons (ps_set (i := 4) sc_l_bend.nd rfl (by first | exact Or.inl rfl | exact Or.inr rfl) (pe_c (c_l_draw c) (hr.mono (by decide)) rfl (pa_cons (pv 0) (pa_cons (pe_op op_add (pv 2) pe_int) pa_nil))))
      (pss_cons (ps_if (pt_cmpR op_eq (pv 3) pe_int (nomark _)) (pss_one (ps_ret (pe_lc (own := [("_law_row", 6)]) rfl sc_l_bend.nd (pi_listK (K := K) rfl (pv 1)) (blkOk_by (by kernel_rfl)) (fun _ _ _ _ _ => (pg_name (i := 6) sc_l_bend.nd rfl (by first | exact Or.inl rfl | exact Or.inr rfl))) (fun _ _ _ _ _ => pts_nil) (fun _ _ _ _ _ => (pe_lc (own := [("_law_one", 5)]) rfl sc_l_bend.nd (pi_listK (K := K) rfl (pv 6)) (blkOk_by (by kernel_rfl)) (fun _ _ _ _ _ => (pg_name (i := 5) sc_l_bend.nd rfl (by first | exact Or.inl rfl | exact Or.inr rfl))) (fun _ _ _ _ _ => pts_nil) (fun _ _ _ _ _ => (pe_tup (pa_cons pe_int (pa_cons pe_int pa_nil))))))))) pss_nil)
      (pss_cons (ps_if (pt_cmpR op_eq (pv 3) pe_int (nomark _)) (pss_one (ps_ret (pe_lc (own := [("_law_row", 6)]) rfl sc_l_bend.nd (pi_listK (K := K) rfl (pv 1)) (blkOk_by (by kernel_rfl)) (fun _ _ _ _ _ => (pg_name (i := 6) sc_l_bend.nd rfl (by first | exact Or.inl rfl | exact Or.inr rfl))) (fun _ _ _ _ _ => pts_nil) (fun _ _ _ _ _ => (pe_lc (own := [("_law_at", 7)]) rfl sc_l_bend.nd (pi_range1 rfl (c.free 57) (pa_cons (pe_callB (id := "len") (call_lenK (K := K) rfl) (by rfl) (c.free 56) (by decide +kernel) (pa_cons (pv 6) pa_nil)) pa_nil)) (blkOk_by (by kernel_rfl)) (fun _ _ _ _ _ => (pg_name (i := 7) sc_l_bend.nd rfl (by first | exact Or.inl rfl | exact Or.inr rfl))) (fun _ _ _ _ _ => pts_nil) (fun _ _ _ _ _ => (pe_ifExp (pt_cmpR op_eq (pv 7) (pv 4) (nomark _)) (pe_tup (pa_cons pe_int (pa_cons pe_int pa_nil))) (pe_ix (ix_listK (K := K) rfl) (pv 6) (pv 7) (fun _ _ => rfl))))))))) pss_nil)
      (pss_cons (ps_if (pt_cmpR op_eq (pv 3) pe_int (nomark _)) (pss_one (ps_ret (pe_lc (own := [("_law_row", 6)]) rfl sc_l_bend.nd (pi_listK (K := K) rfl (pv 1)) (blkOk_by (by kernel_rfl)) (fun _ _ _ _ _ => (pg_name (i := 6) sc_l_bend.nd rfl (by first | exact Or.inl rfl | exact Or.inr rfl))) (fun _ _ _ _ _ => pts_nil) (fun _ _ _ _ _ => (pe_lc (own := [("_law_at", 7)]) rfl sc_l_bend.nd (pi_range1 rfl (c.free 57) (pa_cons (pe_callB (id := "len") (call_lenK (K := K) rfl) (by rfl) (c.free 56) (by decide +kernel) (pa_cons (pv 6) pa_nil)) pa_nil)) (blkOk_by (by kernel_rfl)) (fun _ _ _ _ _ => (pg_name (i := 7) sc_l_bend.nd rfl (by first | exact Or.inl rfl | exact Or.inr rfl))) (fun _ _ _ _ _ => pts_nil) (fun _ _ _ _ _ => (pe_ifExp (pt_cmpR op_le (pv 7) (pv 4) (nomark _)) (pe_tup (pa_cons pe_int (pa_cons pe_int pa_nil))) (pe_ix (ix_listK (K := K) rfl) (pv 6) (pv 7) (fun _ _ => rfl))))))))) pss_nil)
      (pss_mid (ps_if (PW.pt (pw_and (pt_cmpR op_eq (pv 3) pe_int (nomark _)) (pw_and1 (pt_cmpR op_gt (pe_callB (id := "len") (call_lenK (K := K) rfl) (by rfl) (c.free 56) (by decide +kernel) (pa_cons (pv 1) pa_nil)) pe_int (nomark _))))) (pss_cons (ps_set (i := 8) sc_l_bend.nd rfl (by first | exact Or.inl rfl | exact Or.inr rfl) (pe_c (c_l_copy c) (hr.mono (by decide)) rfl (pa_cons (pv 1) pa_nil)))
      (pss_cons (ps_asg (pe_lc (own := [("_law_at", 7)]) rfl sc_l_bend.nd (pi_range1 rfl (c.free 57) (pa_cons (pe_callB (id := "len") (call_lenK (K := K) rfl) (by rfl) (c.free 56) (by decide +kernel) (pa_cons (pe_ix (ix_listK (K := K) rfl) (pv 1) pe_int (fun _ _ => rfl)) pa_nil)) pa_nil)) (blkOk_by (by kernel_rfl)) (fun _ _ _ _ _ => (pg_name (i := 7) sc_l_bend.nd rfl (by first | exact Or.inl rfl | exact Or.inr rfl))) (fun _ _ _ _ _ => pts_nil) (fun _ _ _ _ _ => (pe_c (c_l_less c) (hr.mono (by decide)) rfl (pa_cons (pe_tup (pa_cons pe_int (pa_cons pe_int pa_nil))) (pa_cons (pe_ix (ix_listK (K := K) rfl) (pe_ix (ix_listK (K := K) rfl) (pv 1) pe_int (fun _ _ => rfl)) (pv 7) (fun _ _ => rfl)) pa_nil))))) (pg_sub (pv 8) pe_int set_list))
      (pss_one (ps_ret (pv 8))))) pss_nil)
      (pss_cons (ps_if (pt_cmpR op_eq (pv 3) pe_int (nomark _)) (pss_one (ps_ret (pe_lc (own := [("_law_row", 6)]) rfl sc_l_bend.nd (pi_listK (K := K) rfl (pv 1)) (blkOk_by (by kernel_rfl)) (fun _ _ _ _ _ => (pg_name (i := 6) sc_l_bend.nd rfl (by first | exact Or.inl rfl | exact Or.inr rfl))) (fun _ _ _ _ _ => pts_nil) (fun _ _ _ _ _ => (pe_lc (own := [("_law_at", 7)]) rfl sc_l_bend.nd (pi_range1 rfl (c.free 57) (pa_cons (pe_callB (id := "len") (call_lenK (K := K) rfl) (by rfl) (c.free 56) (by decide +kernel) (pa_cons (pv 6) pa_nil)) pa_nil)) (blkOk_by (by kernel_rfl)) (fun _ _ _ _ _ => (pg_name (i := 7) sc_l_bend.nd rfl (by first | exact Or.inl rfl | exact Or.inr rfl))) (fun _ _ _ _ _ => pts_nil) (fun _ _ _ _ _ => (pe_ifExp (pt_cmpR op_gt (pv 7) (pv 4) (nomark _)) (pe_tup (pa_cons pe_int (pa_cons pe_int pa_nil))) (pe_ix (ix_listK (K := K) rfl) (pv 6) (pv 7) (fun _ _ => rfl))))))))) pss_nil)
      (pss_one (ps_ret (pv 1)))))))))), ?_⟩
    refine ⟨_, rfl, F, 9, rfl, g0.fl1.at_, by decide, by decide, fun kd H1 a1 b1 g1 => ?_⟩
    refine ⟨_, rfl, _, rfl, _, _, rfl, rfl, F, _, rfl, g1.fl1.at_, by omega, Nat.lt_of_le_of_lt (show ((d : Int) + 1).natAbs ≤ 7 by omega) (by decide), fun lag H2 a2 b2 g12 => ?_⟩
    have g2 := g1.trans g12
    obtain ⟨a, as, rfl, hA⟩ := hM.go g0.fl0 g2
    have hS : SqL K H2 a (as.map V.ref) := SqL.of hA.top
    have hl : (as.map V.ref).length = n := by rw [List.length_map]; exact hA.len
    have fin : ∀ z H3 U, Go K (some F) H2 H3 → MTab K H2 H3 z n (wd n d) U → Cells 1000000 n d U → Q z H3 := fun z H3 U g3 t c => k z H3 U (g2.trans g3) (t.back (g0.trans g2)) c
    refine ⟨_, rfl, rfl, _, rfl, ite2 (fun _ => ?_) (fun _ => ?_)⟩
    · refine ⟨_, rfl, a, rfl, ⟨_, hS⟩, fun D hD => ?_⟩
      refine lcME (K := K) (m := some F) walk_list hD g2.fl1 (by omega) yat (wd n d) (fun _ _ q => Cell 1000000 q) (fun H' g => SqL.of (hA.go g0.fl0 g).top) (fun i y H3 H4 hi g yy Qe kq => ⟨rfl, ?_⟩) (fun H3 U g t cl => ?_)
      · obtain ⟨rfl, hy⟩ := yy
        obtain ⟨p, ys, rfl, hin, hyl, sq, cell⟩ := hA.rows g0.fl0 i y hy
        have hw := wd_le n d i
        refine ⟨_, rfl, p, rfl, ⟨_, sq _ g⟩, fun D2 hD2 => ?_⟩
        refine lcRowE (K := K) (m := some F) walk_list hD2 g.fl1 (by omega) yat (fun _ q => Cell 1000000 q) (fun H' g' => sq _ (g.trans g')) (fun j u H5 H6 hj g5 yy Qe2 kq2 => ⟨rfl, ?_⟩) (fun H5 f g5 r5 c5 => ?_)
        · obtain ⟨rfl, hu⟩ := yy
          exact ⟨(by show 2 ≤ sizeLine; decide), fun t ht => kq2 _ 0 _ (Go.new g5.fl1 ht) (IsP.new 0) zero⟩
        · exact kq D2 f H5 g5 hD2 (hyl ▸ r5) (hyl ▸ c5)
      · rw [hl] at t cl
        exact fin _ H3 U g t cl
    refine ⟨_, rfl, rfl, _, rfl, ite2 (fun _ => ?_) (fun _ => ?_)⟩
    · skip
      refine ⟨_, rfl, a, rfl, ⟨_, hS⟩, fun D hD => ?_⟩
      refine lcME (K := K) (m := some F) walk_list hD g2.fl1 (by omega) yat (wd n d) (fun _ _ q => Cell 1000000 q) (fun H' g => SqL.of (hA.go g0.fl0 g).top) (fun i y H3 H4 hi g yy Qe kq => ⟨rfl, ?_⟩) (fun H3 U g t cl => ?_)
      · obtain ⟨rfl, hy⟩ := yy
        obtain ⟨p, ys, rfl, hin, hyl, sq, cell⟩ := hA.rows g0.fl0 i y hy
        have hw := wd_le n d i
        refine ⟨_, rfl, p, ys, rfl, .inl (sq _ g), _, rfl, by omega, by omega, fun D2 hD2 => ?_⟩
        refine lcRowE (K := K) (m := some F) (walk_rg (n := ys.length)) hD2 g.fl1 (by omega) yfn (fun _ q => Cell 1000000 q) (fun _ _ => trivial) (fun j u H5 H6 hj g5 yy Qe2 kq2 => ⟨rfl, ?_⟩) (fun H5 f g5 r5 c5 => ?_)
        · obtain ⟨rfl, rfl⟩ := yy
          obtain ⟨u, hu⟩ := get_some (xs := ys) (i := j) hj
          refine ⟨_, rfl, _, rfl, rfl, _, rfl, ite2 (fun _ => ?_) (fun _ => ?_)⟩
          · exact ⟨(by show 2 ≤ sizeLine; decide), fun t ht => kq2 _ 0 _ (Go.new g5.fl1 ht) (IsP.new 0) zero⟩
          · exact ⟨_, rfl, _, rfl, p, ys, _, u, rfl, rfl, sq _ (g.trans g5), atI_nat hu, kq2 u _ _ (Go.refl g5.fl1) (cell _ (g.trans g5) j u hu) (hC i j hin (by omega))⟩
        · have e : (Int.ofNat ys.length).toNat = wd n d i := hyl
          exact kq D2 f H5 g5 hD2 (hyl ▸ r5) (hyl ▸ c5)
      · rw [hl] at t cl
        exact fin _ H3 U g t cl
    refine ⟨_, rfl, rfl, _, rfl, ite2 (fun _ => ?_) (fun _ => ?_)⟩
    · skip
      refine ⟨_, rfl, a, rfl, ⟨_, hS⟩, fun D hD => ?_⟩
      refine lcME (K := K) (m := some F) walk_list hD g2.fl1 (by omega) yat (wd n d) (fun _ _ q => Cell 1000000 q) (fun H' g => SqL.of (hA.go g0.fl0 g).top) (fun i y H3 H4 hi g yy Qe kq => ⟨rfl, ?_⟩) (fun H3 U g t cl => ?_)
      · obtain ⟨rfl, hy⟩ := yy
        obtain ⟨p, ys, rfl, hin, hyl, sq, cell⟩ := hA.rows g0.fl0 i y hy
        have hw := wd_le n d i
        refine ⟨_, rfl, p, ys, rfl, .inl (sq _ g), _, rfl, by omega, by omega, fun D2 hD2 => ?_⟩
        refine lcRowE (K := K) (m := some F) (walk_rg (n := ys.length)) hD2 g.fl1 (by omega) yfn (fun _ q => Cell 1000000 q) (fun _ _ => trivial) (fun j u H5 H6 hj g5 yy Qe2 kq2 => ⟨rfl, ?_⟩) (fun H5 f g5 r5 c5 => ?_)
        · obtain ⟨rfl, rfl⟩ := yy
          obtain ⟨u, hu⟩ := get_some (xs := ys) (i := j) hj
          refine ⟨_, rfl, _, rfl, _, _, rfl, rfl, _, rfl, ite2 (fun _ => ?_) (fun _ => ?_)⟩
          · exact ⟨(by show 2 ≤ sizeLine; decide), fun t ht => kq2 _ 0 _ (Go.new g5.fl1 ht) (IsP.new 0) zero⟩
          · exact ⟨_, rfl, _, rfl, p, ys, _, u, rfl, rfl, sq _ (g.trans g5), atI_nat hu, kq2 u _ _ (Go.refl g5.fl1) (cell _ (g.trans g5) j u hu) (hC i j hin (by omega))⟩
        · have e : (Int.ofNat ys.length).toNat = wd n d i := hyl
          exact kq D2 f H5 g5 hD2 (hyl ▸ r5) (hyl ▸ c5)
      · rw [hl] at t cl
        exact fin _ H3 U g t cl
    refine ⟨fun σ H' => σ = [some (.ref F.f), some (.ref a), some (.int d), some (.int kd), some (.int lag), none, none, none, none] ∧ H' = H2, ?_, ?_⟩
    · refine ⟨_, rfl, rfl, _, rfl, ite2 (fun _ => ?_) (fun _ => iteF ⟨rfl, rfl⟩)⟩
      refine ⟨_, rfl, a, _, rfl, .inl hS, _, _, rfl, rfl, _, rfl, ite2 (fun h1 => ?_) (fun _ => ⟨rfl, rfl⟩)⟩
      have hn1 : 1 < n := by
        have h1 := of_decide_eq_true h1
        rw [hl] at h1
        omega
      refine ⟨_, rfl, _, n, wd n d, W, rfl, by omega, (hM.go g0.fl0 g2).is, fun z H3 e3 t3 => ?_⟩
      have g3 : Go K (some F) H2 H3 := Go.same g2.fl1 e3
      obtain ⟨b, bs, rfl, hB⟩ := t3
      obtain ⟨y0, hy0⟩ := get_some (xs := as.map V.ref) (i := 0) (by omega)
      obtain ⟨y1, hy1⟩ := get_some (xs := as.map V.ref) (i := 1) (by omega)
      obtain ⟨p0, ys0, rfl, hin0, hyl0, sq0, cell0⟩ := hA.rows g0.fl0 0 y0 hy0
      obtain ⟨p1, ys1, rfl, hin1, hyl1, sq1, cell1⟩ := hA.rows g0.fl0 1 y1 hy1
      have hw := wd_le n d 1
      have hw0 : wd n d 1 ≤ wd n d 0 := by unfold wd; omega
      have top : ∀ H', Go K (some F) H2 H' → SqL K H' a (as.map V.ref) := fun H' g => SqL.of (hA.go g0.fl0 g).top
      refine ⟨_, rfl, a, _, _, _, rfl, rfl, top _ g3, atI_nat (j := 1) hy1, p1, ys1, rfl, .inl (sq1 _ g3), _, rfl, by omega, by omega, fun D hD => ?_⟩
      refine lcRowE (K := K) (m := some F) (walk_rg (n := ys1.length)) hD g3.fl1 (by omega) yfn (fun _ q => Cell 1000000 q) (fun _ _ => trivial) (fun j u H5 H6 hj g5 yy Qe2 kq2 => ⟨rfl, ?_⟩) (fun H5 f g5 r5 c5 => ?_)
      · obtain ⟨rfl, rfl⟩ := yy
        obtain ⟨u, hu⟩ := get_some (xs := ys0) (i := j) (by have : j < ys1.length := hj; omega)
        refine ⟨(by show 2 ≤ sizeLine; decide), fun t ht => ?_⟩
        have g6 := (g3.trans g5).trans (Go.new (o := .tup [.int 0, .int 1]) g5.fl1 ht)
        have c0 : Cell 1000000 (W 0 j) := hC 0 j (by omega) (by have : j < ys1.length := hj; omega)
        refine ⟨_, rfl, a, _, _, _, rfl, rfl, top _ g6, atI_nat (j := 0) hy0, _, rfl, p0, ys0, _, u, rfl, rfl, sq0 _ g6, atI_nat hu, _, u, 0, W 0 j, rfl, IsP.new 0, cell0 _ g6 j u hu, sz_zero (by decide), cell_sz c0 (by decide), trivial, fun z H7 e7 p7 => ?_⟩
        exact kq2 z _ H7 ((Go.new g5.fl1 ht).to e7) p7 (cell_neg c0)
      · have g35 := g3.trans g5
        have hB5 : MTabA K H2 H5 b bs n (wd n d) W := hB.go g2.fl1 g5
        have nb : D ≠ b := fun e => by
          rw [e, hB.top] at hD
          cases hD
        have nbs : D ∉ bs := fun e => by
          obtain ⟨i, hi, ei⟩ := List.mem_iff_getElem.mp e
          obtain ⟨xs, q, _⟩ := hB.row i D (by rw [List.getElem?_eq_getElem hi, ei])
          rw [q] at hD
          cases hD
        have hB6 := hB5.set1 (k := 1) nbs nb (g3.free hD) (f := f) (hyl1 ▸ r5)
        refine ⟨_, rfl, b, _, 1, 1, rfl, rfl, hB5.top, ixn (j := 1) (by rw [List.length_map, hB5.len]; exact hn1), ?_⟩
        refine ⟨_, rfl, fin _ _ _ (g35.mut hB.new) ⟨b, _, rfl, hB6⟩ fun i j hi hj => ?_⟩
        show Cell 1000000 ((if i = 1 then f else W i) j)
        split
        · next e =>
          subst e
          exact c5 j (show j < ys1.length by rw [hyl1]; exact hj)
        · exact hC i j hi hj
    rintro σ H' ⟨rfl, rfl⟩
    refine ⟨_, rfl, rfl, _, rfl, ite2 (fun _ => ?_) (fun _ => ?_)⟩
    · skip
      refine ⟨_, rfl, a, rfl, ⟨_, hS⟩, fun D hD => ?_⟩
      refine lcME (K := K) (m := some F) walk_list hD g2.fl1 (by omega) yat (wd n d) (fun _ _ q => Cell 1000000 q) (fun H' g => SqL.of (hA.go g0.fl0 g).top) (fun i y H3 H4 hi g yy Qe kq => ⟨rfl, ?_⟩) (fun H3 U g t cl => ?_)
      · obtain ⟨rfl, hy⟩ := yy
        obtain ⟨p, ys, rfl, hin, hyl, sq, cell⟩ := hA.rows g0.fl0 i y hy
        have hw := wd_le n d i
        refine ⟨_, rfl, p, ys, rfl, .inl (sq _ g), _, rfl, by omega, by omega, fun D2 hD2 => ?_⟩
        refine lcRowE (K := K) (m := some F) (walk_rg (n := ys.length)) hD2 g.fl1 (by omega) yfn (fun _ q => Cell 1000000 q) (fun _ _ => trivial) (fun j u H5 H6 hj g5 yy Qe2 kq2 => ⟨rfl, ?_⟩) (fun H5 f g5 r5 c5 => ?_)
        · obtain ⟨rfl, rfl⟩ := yy
          obtain ⟨u, hu⟩ := get_some (xs := ys) (i := j) hj
          refine ⟨_, rfl, _, rfl, _, _, rfl, rfl, _, rfl, ite2 (fun _ => ?_) (fun _ => ?_)⟩
          · exact ⟨(by show 2 ≤ sizeLine; decide), fun t ht => kq2 _ 0 _ (Go.new g5.fl1 ht) (IsP.new 0) zero⟩
          · exact ⟨_, rfl, _, rfl, p, ys, _, u, rfl, rfl, sq _ (g.trans g5), atI_nat hu, kq2 u _ _ (Go.refl g5.fl1) (cell _ (g.trans g5) j u hu) (hC i j hin (by omega))⟩
        · have e : (Int.ofNat ys.length).toNat = wd n d i := hyl
          exact kq D2 f H5 g5 hD2 (hyl ▸ r5) (hyl ▸ c5)
      · rw [hl] at t cl
        exact fin _ H3 U g t cl
    · exact ⟨_, rfl, k _ _ W g2 ⟨a, as, rfl, hA⟩ hC⟩
end
end K29
set_option Elab.async false
set_option linter.all false
set_option maxRecDepth 100000
set_option maxHeartbeats 4000000
namespace K29
open PySem PySem.Spec PyProof.Rows L2
section
variable {P : Program} {w : World} {K : PySem.W.Frag} {mg : Str → Option Value} {base : Heap}
/-! ### drawn, clear -/
def spDrawn (K : PySem.W.Frag) : Sp := fun vs H Q _ => ∃ (F : Flw) (n d : Nat), vs = [.ref F.f, .int n, .int d] ∧ FlowAt K H F ∧ n ≤ 10 ∧ d ≤ 6 ∧ ∀ z H' W, Go K (some F) H H' → MTab K H H' z n (wd n d) W → Cells 1000000 n d W → Q z H'
theorem sc_l_drawn : FnScope ["_law_flow_here", "_law_count", "_law_deep", "_law_mode"] ["_law_flow_here", "_law_count", "_law_deep"] (defScope s_l_drawn) := ⟨rfl, rfl, rfl, by decide +kernel, rfl, by decide +kernel, by decide +kernel⟩
theorem c_l_drawn (c : Ctx K mg) : CallOk P w K mg base 4 "_law_drawn" ["_law_flow_here", "_law_count", "_law_deep"] [] (spDrawn K) := by
  refine c.mk1 29 29 (d := d_l_drawn) rfl rfl rfl fun fd F => ⟨⟨[], .nil, F.bindsN fun _ _ _ _ _ _ us hl => match us, hl with | [_, _, _], _ => rfl⟩, okN F sc_l_drawn (fun vs H Q E h => ?_) (fun cdv A outer s H vs Q E hr h => ?_)⟩
  · obtain ⟨F, n, d, rfl, _⟩ := h
    rfl
  · obtain ⟨F, n, d, rfl, hF, hn, hd6, k⟩ := h
    refine ⟨_, (pss_cons (ps_set (i := 3) sc_l_drawn.nd rfl (by first | exact Or.inl rfl | exact Or.inr rfl) (pe_c (c_l_draw c) (hr.mono (by decide)) rfl (pa_cons (pv 0) (pa_cons pe_int pa_nil))))
      (pss_one (ps_ret (pe_c (c_l_bend c) (hr.mono (by decide)) rfl (pa_cons (pv 0) (pa_cons (pe_c (c_l_rows c) (hr.mono (by decide)) rfl (pa_cons (pv 0) (pa_cons (pv 1) (pa_cons (pv 2) (pa_cons (pv 3) pa_nil))))) (pa_cons (pv 2) pa_nil))))))), ?_⟩
    refine ⟨_, rfl, F, 6, rfl, hF, by decide, by decide, fun mo H1 a1 b1 g1 => ?_⟩
    refine ⟨_, rfl, _, rfl, _, rfl, _, rfl, _, rfl, F, n, d, mo, rfl, g1.fl1.at_, hn, hd6, fun z H2 W g2 t2 c2 => ?_⟩
    refine ⟨_, rfl, F, z, n, d, H1, W, rfl, hn, hd6, g2, t2, c2, fun z' H3 U g3 t3 c3 => ?_⟩
    exact k z' H3 U ((g1.trans g2).trans g3) (t3.back g1) c3
/-- a step's tuple at y: C where its kind is not "none" -/
def LStep (K : PySem.W.Frag) (H : Hp) (y : V) (C : Prop) : Prop := ∃ (p : Addr) (kd : Str) (vb va vx : V), y = .ref p ∧ SqT K H p [.str kd, vb, va, vx] ∧ (kd ≠ ("none" : Str) → C)
theorem LStep.same {H H' : Hp} {y : V} {C : Prop} (e : Same H H') (h : LStep K H y C) : LStep K H' y C := by
  obtain ⟨p, kd, vb, va, vx, h1, h2, h3⟩ := h
  exact ⟨p, kd, vb, va, vx, h1, same_t e h2, h3⟩
theorem LStep.mutL {H : Hp} {y : V} {C : Prop} {D : Addr} {xs ys : List V} (hD : H D = some (.lst xs)) (h : LStep K H y C) : LStep K (upd H D (.lst ys)) y C := by
  obtain ⟨p, kd, vb, va, vx, h1, h2, h3⟩ := h
  exact ⟨p, kd, vb, va, vx, h1, mut_t hD h2, h3⟩
def spClear (K : PySem.W.Frag) : Sp := fun vs H Q _ => ∃ (v : V) (m : Nat) (C : Nat → Prop), vs = [v] ∧ IsL K H v m (fun i y => LStep K H y (C i)) ∧ ∀ b, (b = true → ∀ i, i < m → C i) → Q (.bl b) H
theorem sc_l_clear : FnScope ["_law_links", "_law_one"] ["_law_links"] (defScope s_l_clear) := ⟨rfl, rfl, rfl, by decide +kernel, rfl, by decide +kernel, by decide +kernel⟩
theorem c_l_clear (c : Ctx K mg) : CallOk P w K mg base 1 "_law_clear" ["_law_links"] [] (spClear K) := by
  refine c.mk1 30 30 (d := d_l_clear) rfl rfl rfl fun fd F => ⟨⟨[], .nil, F.bindsN fun _ _ _ _ _ _ us hl => match us, hl with | [_], _ => rfl⟩, okN F sc_l_clear (fun vs H Q E h => ?_) (fun cdv A outer s H vs Q E hr h => ?_)⟩
  · obtain ⟨v, m, C, rfl, _⟩ := h
    rfl
  · obtain ⟨v, m, C, rfl, ⟨a, xs, rfl, hS, hl, hx⟩, k⟩ := h
    refine ⟨_, (pss_cons (ps_for PassesOwn.never rfl (pi_listK (K := K) rfl (pv 0)) (pg_name (i := 1) sc_l_clear.nd rfl (by first | exact Or.inl rfl | exact Or.inr rfl)) (pss_one (ps_if (pt_cmpR op_eq (pe_ix (ix_tupK (K := K) rfl) (pv 1) pe_int (fun _ _ => rfl)) pe_str (nomark _)) (pss_one (ps_ret pe_bl)) pss_nil)))
      (pss_one (ps_ret pe_bl))), ?_⟩
    refine ⟨_, rfl, a, rfl, ⟨_, hS⟩, for_list (K := K) (a := a) (xs := xs) (fun i σ H' => H' = H ∧ (∃ o, σ = [some (.ref a), o]) ∧ ∀ j, j < i → C j)
      ⟨rfl, ⟨none, rfl⟩, fun j hj => absurd hj (Nat.not_lt_zero _)⟩ (fun i σ H' _ p => by rw [p.1]; exact hS) ?_ ?_⟩
    · rintro i y σ H' hi ⟨rfl, ⟨o, rfl⟩, hc⟩
      obtain ⟨p, kd, vb, va, vx, rfl, q1, q2⟩ := hx i y hi
      refine ⟨_, rfl, p, _, _, _, rfl, rfl, q1, rfl, rfl, _, rfl, ite2 (fun _ => ?_) (fun z => ?_)⟩
      · exact k false (fun e => by cases e)
      · refine ⟨rfl, ⟨_, rfl⟩, fun j hj => ?_⟩
        rcases Nat.lt_or_eq_of_le (Nat.le_of_lt_succ hj) with e | e
        · exact hc j e
        · rw [e]
          exact q2 fun e2 => z (decide_eq_true (by rw [e2]))
    · rintro σ H' ⟨rfl, ⟨o, rfl⟩, hc⟩
      rw [hl] at hc
      exact k true (fun _ => hc)
/-! ### balance, steps -/
def spLBal (K : PySem.W.Frag) : Sp := fun vs H Q _ => ∃ (v : V) (w : Addr) (n d s : Nat) (W : Nat → Nat → Rat), vs = [v, .int s, .int 0, .ref w] ∧ n ≤ 10 ∧ d ≤ 6 ∧ s < d ∧ IsTab K H v n (wd n d) (fun i => psum (W i)) ∧ SqL K H w [] ∧ Fine n d W ∧
  ∀ p H' vb va, Same H H' → H' p = some (.tup [vb, va]) → IsP K H' vb (below n d W s) → IsP K H' va (above n d W s) → Q (.ref p) H'
theorem sc_l_balance : FnScope ["_law_sums_here", "_law_step", "_law_latest", "_law_away", "_law_places", "_law_place", "_law_below", "_law_above"] ["_law_sums_here", "_law_step", "_law_latest", "_law_away"] (defScope s_l_balance) := ⟨rfl, rfl, rfl, by decide +kernel, rfl, by decide +kernel, by decide +kernel⟩
theorem c_l_balance (c : Ctx K mg) : CallOk P w K mg base 4 "_law_balance" ["_law_sums_here", "_law_step", "_law_latest", "_law_away"] [] (spLBal K) := by
  refine c.mk1 34 34 (d := d_l_balance) rfl rfl rfl fun fd F => ⟨⟨[], .nil, F.bindsN fun _ _ _ _ _ _ us hl => match us, hl with | [_, _, _, _], _ => rfl⟩, okN F sc_l_balance (fun vs H Q E h => ?_) (fun cdv A outer s H vs Q E hr h => ?_)⟩
  · obtain ⟨v, w, n, d, s, W, rfl, _⟩ := h
    rfl
  · obtain ⟨v, aw, n, d, s0, W, rfl, hn, hd6, hs, ⟨a, xs, rfl, hS, hl, hr0⟩, hA, fine, k⟩ := h
    refine ⟨_, (pss_cons (ps_setLc (i := 4) (own := [("_law_place", 5)]) rfl sc_l_balance.nd rfl rfl (sw_true rfl rfl rfl (by decide +kernel)) (pi_range1 rfl (c.free 57) (pa_cons (pe_callB (id := "len") (call_lenK (K := K) rfl) (by rfl) (c.free 56) (by decide +kernel) (pa_cons (pv 0) pa_nil)) pa_nil)) (blkOk_by (by kernel_rfl)) (fun _ _ _ _ _ => (pg_name (i := 5) sc_l_balance.nd rfl (by first | exact Or.inl rfl | exact Or.inr rfl))) (fun _ _ _ _ _ => (pts_one (pt_cmpR op_gt (pe_callB (id := "len") (call_lenK (K := K) rfl) (by rfl) (c.free 56) (by decide +kernel) (pa_cons (pe_ix (ix_listK (K := K) rfl) (pv 0) (pv 5) (fun _ _ => rfl)) pa_nil)) (pe_op op_add (pv 1) pe_int) (nomark _)))) (fun _ _ _ _ _ => (pv 5)))
      (pss_cons (ps_if (pt_cmpR op_gt (pv 2) pe_int (nomark _)) pss_never pss_nil)
      (pss_cons (ps_setLc (i := 4) (own := [("_law_place", 5)]) rfl sc_l_balance.nd rfl rfl (sw_true rfl rfl rfl (by decide +kernel)) (pi_listK (K := K) rfl (pv 4)) (blkOk_by (by kernel_rfl)) (fun _ _ _ _ _ => (pg_name (i := 5) sc_l_balance.nd rfl (by first | exact Or.inl rfl | exact Or.inr rfl))) (fun _ _ _ _ _ => (pts_one (pt_cmpR (op_notInDK (K := K) rfl (hu65 hr)) (pe_tup (pa_cons (pv 5) (pa_cons (pv 1) pa_nil))) (pv 3) rfl))) (fun _ _ _ _ _ => (pv 5)))
      (pss_cons (ps_set (i := 6) sc_l_balance.nd rfl (by first | exact Or.inl rfl | exact Or.inr rfl) (pe_c (c_l_total c) (hr.mono (by decide)) rfl (pa_cons (pe_lc (own := [("_law_place", 5)]) rfl sc_l_balance.nd (pi_listK (K := K) rfl (pv 4)) (blkOk_by (by kernel_rfl)) (fun _ _ _ _ _ => (pg_name (i := 5) sc_l_balance.nd rfl (by first | exact Or.inl rfl | exact Or.inr rfl))) (fun _ _ _ _ _ => pts_nil) (fun _ _ _ _ _ => (pe_ix (ix_listK (K := K) rfl) (pe_ix (ix_listK (K := K) rfl) (pv 0) (pv 5) (fun _ _ => rfl)) (pv 1) (fun _ _ => rfl)))) pa_nil)))
      (pss_cons (ps_set (i := 7) sc_l_balance.nd rfl (by first | exact Or.inl rfl | exact Or.inr rfl) (pe_c (c_l_total c) (hr.mono (by decide)) rfl (pa_cons (pe_lc (own := [("_law_place", 5)]) rfl sc_l_balance.nd (pi_listK (K := K) rfl (pv 4)) (blkOk_by (by kernel_rfl)) (fun _ _ _ _ _ => (pg_name (i := 5) sc_l_balance.nd rfl (by first | exact Or.inl rfl | exact Or.inr rfl))) (fun _ _ _ _ _ => pts_nil) (fun _ _ _ _ _ => (pe_ix (ix_listK (K := K) rfl) (pe_ix (ix_listK (K := K) rfl) (pv 0) (pv 5) (fun _ _ => rfl)) (pe_op op_add (pv 1) pe_int) (fun _ _ => rfl)))) pa_nil)))
      (pss_one (ps_ret (pe_tup (pa_cons (pv 6) (pa_cons (pv 7) pa_nil)))))))))), ?_⟩
    have hp10 := pn_le n d s0
    have hpl : ((places n d s0).map fun i : Nat => V.int (i : Int)).length = pn n d s0 := List.length_map ..
    refine ⟨_, rfl, a, xs, rfl, .inl hS, _, rfl, by omega, by omega, fun D hD => ?_⟩
    refine lc_it (walk_rg (n := xs.length)) (fun i H2 => Same H H2 ∧ H2 D = some (.lst (((List.range i).filter fun j => decide (s0 + 1 < wd n d j)).map fun j : Nat => V.int (j : Int)))) ⟨same_new hD, upd_same⟩ (fun _ _ _ _ => trivial) (fun i x H2 H3 hi p y => ?_) (fun H2 p => ?_)
    · obtain ⟨rfl, rfl⟩ := y
      have hi2 : i < xs.length := hi
      obtain ⟨u2, h2⟩ := get_some (xs := xs) (i := i) hi2
      obtain ⟨b, rs, rfl, q1, q2, q3⟩ := hr0 i u2 h2
      refine ⟨rfl, ?_⟩
      refine ⟨_, rfl, _, rfl, a, xs, _, _, rfl, rfl, same_l p.1 hS, atI_nat h2, b, rs, rfl, .inl (same_l p.1 q1), _, rfl, _, _, rfl, rfl, _, _, rfl, rfl, _, rfl, ?_⟩
      have ed : decide ((rs.length : Int) > (s0 : Int) + 1) = decide (s0 + 1 < wd n d i) := by
        rw [q2]
        by_cases z : s0 + 1 < wd n d i
        · rw [decide_eq_true z, decide_eq_true (by omega)]
        · rw [decide_eq_false z, decide_eq_false (by omega)]
      have lD := p.2
      show if decide ((rs.length : Int) > (s0 : Int) + 1) = true then _ else _
      rw [ed]
      refine ite2 (fun z => ?_) (fun z => ?_)
      · refine ⟨_, rfl, _, lD, ?_, same_mut p.1 hD, ?_⟩
        · refine line_lt ?_
          rw [List.length_map]
          have := List.length_filter_le (fun j => decide (s0 + 1 < wd n d j)) (List.range i)
          rw [List.length_range] at this
          omega
        · rw [upd_same, List.range_succ, List.filter_append, List.map_append, List.filter_cons, if_pos z] <;> rfl
      · refine ⟨p.1, ?_⟩
        rw [lD, List.range_succ, List.filter_append, List.map_append, List.filter_cons, if_neg z]
        show some (HO.lst _) = some (HO.lst (_ ++ []))
        rw [List.append_nil]
    have e1 := p.1
    have l1 : H2 D = some (.lst ((places n d s0).map fun i : Nat => V.int (i : Int))) := by
      have z := p.2
      have e : (Int.ofNat xs.length).toNat = n := hl
      rw [show xs.length = n from hl] at z
      exact z
    refine ⟨_, rfl, _, _, rfl, rfl, _, rfl, ite_no (by decide) ?_⟩
    refine ⟨_, rfl, D, rfl, ⟨_, SqL.of l1⟩, fun D2 hD2 => ?_⟩
    refine lc_it walk_list (fun i H3 => Same H2 H3 ∧ H3 D2 = some (.lst (((places n d s0).map fun i : Nat => V.int (i : Int)).take i))) ⟨same_new hD2, upd_same⟩ (fun i H3 _ p => SqL.of (p.1 _ _ l1)) (fun i x H3 H4 hi p y => ?_) (fun H3 p3 => ?_)
    · obtain ⟨rfl, hx⟩ := y
      refine ⟨rfl, ?_⟩
      have hxx := hx
      rw [List.getElem?_map] at hxx
      cases hz : (places n d s0)[i]? with
      | none =>
        rw [hz] at hxx
        cases hxx
      | some pk =>
        rw [hz] at hxx
        have exx : V.int (pk : Int) = x := Option.some.inj hxx
        subst exx
        refine ⟨_, rfl, _, rfl, (by show 2 ≤ sizeLine; decide), fun t ht => ?_⟩
        have eT := same_new (o := .tup [.int pk, .int s0]) ht
        refine ⟨_, rfl, _, [], .tup (SqT.of upd_same) (.cons (.int _) (.cons (.int _) .nil)), .lst (same_l ((e1.trans p.1).trans eT) hA) .nil, by rfl, by rfl, _, rfl, iteT ?_⟩
        refine ⟨_, rfl, _, eT _ _ p.2, ?_, same_mut (p.1.trans eT) hD2, ?_⟩
        · refine line_lt ?_
          rw [List.length_take]
          omega
        · rw [upd_same, List.take_add_one, hx] <;> rfl
    have e2 := e1.trans p3.1
    have l2 : H3 D2 = some (.lst ((places n d s0).map fun i : Nat => V.int (i : Int))) := by
      have z := p3.2
      rw [List.take_length] at z
      exact z
    have pc : ∀ (j : Nat), j ≤ s0 + 1 → ∀ H4, Same H3 H4 → ∀ (i : Nat) y, ((places n d s0).map fun i : Nat => V.int (i : Int))[i]? = some y → ∃ (b : Addr) (rs : List V) (u : V), y = .int (pl n d s0 i) ∧ xs[pl n d s0 i]? = some (.ref b) ∧ SqL K H4 b rs ∧ rs[j]? = some u ∧ IsP K H4 u (col n d s0 j W i) := fun j hj H4 e4 i y hi => by
      have hi2 : i < pn n d s0 := by
        have := (List.getElem?_eq_some_iff.mp hi).1
        rw [List.length_map] at this
        exact this
      obtain ⟨b1, b2⟩ := pl_ok hi2
      obtain ⟨w1, hw1⟩ := get_some (xs := xs) (i := pl n d s0 i) (by rw [hl]; exact b1)
      obtain ⟨b, rs, rfl, q1, q2, q3⟩ := hr0 _ w1 hw1
      obtain ⟨u, hu⟩ := get_some (xs := rs) (i := j) (by rw [q2]; omega)
      refine ⟨b, rs, u, ?_, hw1, same_l (e2.trans e4) q1, hu, (q3 j u hu).same (e2.trans e4)⟩
      rw [List.getElem?_map, List.getElem?_eq_getElem hi2] at hi
      have e : V.int (((places n d s0)[i]'hi2 : Nat) : Int) = y := Option.some.inj hi
      rw [← e]
      unfold pl
      rw [List.getD_eq_getElem?_getD, List.getElem?_eq_getElem hi2]
      rfl
    refine ⟨_, rfl, D2, rfl, ⟨_, SqL.of l2⟩, fun D3 hD3 => ?_⟩
    refine lcP (K := K) (m := none) walk_list hD3 Fl.none (by omega) yat (col n d s0 s0 W) (fun H3 g => same_l g.toSame (SqL.of l2)) (fun i y H3 H4 hi g yy Qe kq => ⟨rfl, ?_⟩) (fun H4 g4 r4 => ?_)
    · obtain ⟨rfl, hy⟩ := yy
      obtain ⟨b, rs, u, rfl, q1, q2, q3, q4⟩ := pc s0 (by omega) _ g.toSame i y hy
      exact ⟨_, rfl, _, rfl, a, xs, _, _, rfl, rfl, same_l (e2.trans g.toSame) hS, atI_nat q1, _, rfl, b, rs, _, u, rfl, rfl, q2, atI_nat q3, kq u _ (Go.refl Fl.none) q4⟩
    rw [hpl] at r4
    refine ⟨_, pn n d s0, _, rfl, r4, fun i hi => ?_, fun i hi => fine.bel s0 i hs hi, fun vb H5 e5 p5 => ?_⟩
    · have hp := pl_ok hi
      exact fine.sum _ _ hp.1 (by omega)
    have l5 := e5 _ _ (g4.toSame _ _ l2)
    refine ⟨_, rfl, D2, rfl, ⟨_, SqL.of l5⟩, fun D4 hD4 => ?_⟩
    refine lcP (K := K) (m := none) walk_list hD4 Fl.none (by omega) yat (col n d s0 (s0 + 1) W) (fun H6 g => same_l g.toSame (SqL.of l5)) (fun i y H6 H7 hi g yy Qe kq => ⟨rfl, ?_⟩) (fun H6 g6 r6 => ?_)
    · obtain ⟨rfl, hy⟩ := yy
      have e6 : Same H3 H7 := (g4.toSame.trans e5).trans g.toSame
      obtain ⟨b, rs, u, rfl, q1, q2, q3, q4⟩ := pc (s0 + 1) (Nat.le_refl _) _ e6 i y hy
      exact ⟨_, rfl, _, rfl, a, xs, _, _, rfl, rfl, same_l (e2.trans e6) hS, atI_nat q1, _, rfl, _, _, rfl, rfl, b, rs, _, u, rfl, rfl, q2, atI_nat (j := s0 + 1) q3, kq u _ (Go.refl Fl.none) q4⟩
    rw [hpl] at r6
    refine ⟨_, pn n d s0, _, rfl, r6, fun i hi => ?_, fun i hi => fine.abv s0 i hs hi, fun va H8 e8 p8 => ?_⟩
    · have hp := pl_ok hi
      exact fine.sum _ _ hp.1 hp.2
    refine ⟨_, rfl, _, rfl, (by show 2 ≤ sizeLine; decide), fun p9 hp9 => ?_⟩
    have e9 := same_new (o := .tup [vb, va]) hp9
    refine k p9 _ vb va ((((e2.trans g4.toSame).trans e5).trans (g6.toSame.trans e8)).trans e9) upd_same (p5.same ((g6.toSame.trans e8).trans e9)) (p8.same e9)
def spLSteps (K : PySem.W.Frag) : Sp := fun vs H Q _ => ∃ (v : V) (n d : Nat) (W : Nat → Nat → Rat), vs = [v, .int d] ∧ n ≤ 10 ∧ d ≤ 6 ∧ IsTab K H v n (wd n d) W ∧ Fine n d W ∧
  ∀ z H', Same H H' → IsL K H' z d (fun i y => LStep K H' y (below n d W i = 0 → above n d W i = 0)) → Q z H'
theorem sc_l_steps : FnScope ["_law_rows_here", "_law_deep", "_law_sums_here", "_law_found", "_law_step", "_law_below", "_law_above"] ["_law_rows_here", "_law_deep"] (defScope s_l_steps) := ⟨rfl, rfl, rfl, by decide +kernel, rfl, by decide +kernel, by decide +kernel⟩
theorem c_l_steps (c : Ctx K mg) : CallOk P w K mg base 5 "_law_steps" ["_law_rows_here", "_law_deep"] [] (spLSteps K) := by
  refine c.mk1 36 36 (d := d_l_steps) rfl rfl rfl fun fd F => ⟨⟨[], .nil, F.bindsN fun _ _ _ _ _ _ us hl => match us, hl with | [_, _], _ => rfl⟩, okN F sc_l_steps (fun vs H Q E h => ?_) (fun cdv A outer s H vs Q E hr h => ?_)⟩
  · obtain ⟨v, n, d, W, rfl, _⟩ := h
    rfl
  · obtain ⟨v, n, d, W, rfl, hn, hd6, hT, fine, k⟩ := h
    refine ⟨_, (pss_cons (ps_set (i := 2) sc_l_steps.nd rfl (by first | exact Or.inl rfl | exact Or.inr rfl) (pe_c (c_l_sums c) (hr.mono (by decide)) rfl (pa_cons (pv 0) pa_nil)))
      (pss_cons (ps_set (i := 3) sc_l_steps.nd rfl (by first | exact Or.inl rfl | exact Or.inr rfl) (pe_lst pa_nil))
      (pss_cons (ps_for PassesOwn.never rfl (pi_range1 rfl (c.free 57) (pa_cons (pv 1) pa_nil)) (pg_name (i := 4) sc_l_steps.nd rfl (by first | exact Or.inl rfl | exact Or.inr rfl)) (pss_cons (ps_asg (pe_c (c_l_balance c) (hr.mono (by decide)) rfl (pa_cons (pv 2) (pa_cons (pv 4) (pa_cons pe_int (pa_cons (pe_lst pa_nil) pa_nil))))) (pg_tupK (K := K) (n := 2) rfl rfl (pgs_cons (pg_name (i := 5) sc_l_steps.nd rfl (by first | exact Or.inl rfl | exact Or.inr rfl)) (pgs_cons (pg_name (i := 6) sc_l_steps.nd rfl (by first | exact Or.inl rfl | exact Or.inr rfl)) pgs_nil))))
      (pss_one (ps_if (pt_cmpR op_ne (pe_ix (ix_tupK (K := K) rfl) (pv 5) pe_int (fun _ _ => rfl)) pe_int (nomark _)) (pss_one (ps_expr (pe_bm PySem.F.plainAttrs_list PySem.F.slot_list_append PySem.F.type_list_append mt_append (pv 3) (pa_cons (pe_tup (pa_cons pe_str (pa_cons (pv 5) (pa_cons (pv 6) (pa_cons (pe_c (c_l_div c) (hr.mono (by decide)) rfl (pa_cons (pv 6) (pa_cons (pv 5) pa_nil))) pa_nil))))) pa_nil)))) (pss_one (ps_if (pt_cmpR op_ne (pe_ix (ix_tupK (K := K) rfl) (pv 6) pe_int (fun _ _ => rfl)) pe_int (nomark _)) (pss_one (ps_expr (pe_bm PySem.F.plainAttrs_list PySem.F.slot_list_append PySem.F.type_list_append mt_append (pv 3) (pa_cons (pe_tup (pa_cons pe_str (pa_cons (pv 5) (pa_cons (pv 6) (pa_cons pe_non pa_nil))))) pa_nil)))) (pss_one (ps_expr (pe_bm PySem.F.plainAttrs_list PySem.F.slot_list_append PySem.F.type_list_append mt_append (pv 3) (pa_cons (pe_tup (pa_cons pe_str (pa_cons (pv 5) (pa_cons (pv 6) (pa_cons (pe_tup (pa_cons pe_int (pa_cons pe_int pa_nil))) pa_nil))))) pa_nil))))))))))
      (pss_one (ps_ret (pv 3)))))), ?_⟩
    refine ⟨_, rfl, v, n, wd n d, W, rfl, by omega, fun i => Nat.le_trans (wd_le n d i) (by omega), hT, fine.cell, fine.sum, fun z H1 e1 t1 => ?_⟩
    refine ⟨Nat.zero_le _, fun l hl0 => ?_⟩
    have e2 := same_new (o := .lst []) hl0
    refine ⟨_, rfl, _, rfl, by omega, by omega, for_range (lo := 0) (n := d) (fun i σ H' => ∃ (ys : List V) (o1 o2 o3 : Option V), σ = [some v, some (.int d), some z, some (.ref l), o1, o2, o3] ∧ Same H1 H' ∧ H' l = some (.lst ys) ∧ ys.length = i ∧ ∀ (j : Nat) y, ys[j]? = some y → LStep K H' y (below n d W j = 0 → above n d W j = 0))
      ⟨[], none, none, none, rfl, e2, upd_same, rfl, fun j y q => by cases q⟩ ?_ ?_⟩
    · rintro i σ H' hi ⟨ys, o1, o2, o3, rfl, e, h1, h2, h3⟩
      have e00 : (0 : Int) + (i : Int) = (i : Int) := Int.zero_add _
      rw [e00]
      refine ⟨_, rfl, _, rfl, Nat.zero_le _, fun aw haw => ?_⟩
      have e3 := same_new (o := .lst []) haw
      refine ⟨_, aw, n, d, i, W, rfl, hn, hd6, hi, t1.same (e.trans e3), SqL.of upd_same, fine, fun p2 H2 vb va e4 hp2 hb ha => ?_⟩
      have e34 := e3.trans e4
      have l2 := e34 _ _ h1
      refine ⟨p2, _, rfl, SqT.of hp2, rfl, _, _, rfl, _, _, rfl, rfl, ?_⟩
      have sb := fine.bel i _ hi (Nat.le_refl _)
      have sa := fine.abv i _ hi (Nat.le_refl _)
      have fin : ∀ (p3 : Addr) (kd : Str) (vx : V) H3, Same H2 H3 → H3 p3 = none → (kd ≠ ("none" : Str) → below n d W i = 0 → above n d W i = 0) →
          ∃ (ys' : List V) (o1 o2 o3 : Option V), [some v, some (.int d), some z, some (.ref l), some (.int i), some vb, some va] = [some v, some (.int d), some z, some (.ref l), o1, o2, o3] ∧ Same H1 (upd (upd H3 p3 (.tup [.str kd, vb, va, vx])) l (.lst (ys ++ [.ref p3]))) ∧ (upd (upd H3 p3 (.tup [.str kd, vb, va, vx])) l (.lst (ys ++ [.ref p3]))) l = some (.lst ys') ∧ ys'.length = i + 1 ∧ ∀ (j : Nat) y, ys'[j]? = some y → LStep K (upd (upd H3 p3 (.tup [.str kd, vb, va, vx])) l (.lst (ys ++ [.ref p3]))) y (below n d W j = 0 → above n d W j = 0) := fun p3 kd vx H3 e5 hp3 hc => by
        have e6 := e5.trans (same_new (o := .tup [.str kd, vb, va, vx]) hp3)
        have l3 := e6 _ _ l2
        refine ⟨ys ++ [.ref p3], _, _, _, rfl, same_mut (((e.trans e34)).trans e6) hl0, upd_same, by rw [List.length_append, h2]; rfl, ?_⟩
        exact app_all (R := fun j y => LStep K (upd (upd H3 p3 (.tup [.str kd, vb, va, vx])) l (.lst (ys ++ [.ref p3]))) y (below n d W j = 0 → above n d W j = 0)) h2 (fun j y q => ((h3 j y q).same (e34.trans e6)).mutL l3) (LStep.mutL l3 ⟨p3, kd, vb, va, vx, rfl, SqT.of upd_same, hc⟩)
      obtain ⟨pb, rfl, tb⟩ := id hb
      obtain ⟨pa, rfl, ta⟩ := id ha
      refine ⟨_, rfl, pb, _, _, _, rfl, rfl, tb, rfl, rfl, _, rfl, ?_⟩
      by_cases h0 : below n d W i = 0
      · refine iteNS (by rw [h0]; rfl) ?_
        refine ⟨_, rfl, pa, _, _, _, rfl, rfl, ta, rfl, rfl, _, rfl, ?_⟩
        by_cases h00 : above n d W i = 0
        · refine iteNS (by rw [h00]; rfl) ?_
          refine ⟨_, rfl, .inl ⟨rfl, _, SqL.of l2⟩, _, rfl, _, rfl, (by show 2 ≤ sizeLine; decide), fun t ht => ?_⟩
          have eT := same_new (o := .tup [.int 1, .int 1]) ht
          refine ⟨(by show 4 ≤ sizeLine; decide), fun p3 hp3 => ?_⟩
          have l4 := (eT.trans (same_new (o := .tup [.str "any", .ref pb, .ref pa, .ref t]) hp3)) _ _ l2
          exact ⟨l, ys, _, rfl, rfl, l4, line_lt (by omega), fin p3 "any" (.ref t) _ eT hp3 fun _ _ => h00⟩
        · have e9 : decide (V.int (above n d W i).num = V.int 0) = false := decide_eq_false fun q => h00 (Rat.num_eq_zero.mp (V.int.inj q))
          show if (!decide (V.int (above n d W i).num = V.int 0)) = true then _ else _
          rw [e9]
          refine iteT ?_
          refine ⟨_, rfl, .inl ⟨rfl, _, SqL.of l2⟩, _, rfl, _, rfl, (by show 4 ≤ sizeLine; decide), fun p3 hp3 => ?_⟩
          have l4 := (same_new (o := .tup [.str "none", .ref pb, .ref pa, .non]) hp3) _ _ l2
          exact ⟨l, ys, _, rfl, rfl, l4, line_lt (by omega), fin p3 "none" .non _ (Same.refl _) hp3 fun q => absurd rfl q⟩
      · have e9 : decide (V.int (below n d W i).num = V.int 0) = false := decide_eq_false fun q => h0 (Rat.num_eq_zero.mp (V.int.inj q))
        show if (!decide (V.int (below n d W i).num = V.int 0)) = true then _ else _
        rw [e9]
        refine iteT ?_
        refine ⟨_, rfl, .inl ⟨rfl, _, SqL.of l2⟩, _, rfl, _, rfl, _, rfl, _, rfl, _, _, _, _, rfl, ha, hb, sa, sb, h0, fun vx H3 e5 hx => ?_⟩
        refine ⟨(by show 4 ≤ sizeLine; decide), fun p3 hp3 => ?_⟩
        have l4 := (e5.trans (same_new (o := .tup [.str "one", .ref pb, .ref pa, vx]) hp3)) _ _ l2
        exact ⟨l, ys, _, rfl, rfl, l4, line_lt (by omega), fin p3 "one" vx _ e5 hp3 fun _ q => absurd q h0⟩
    · rintro σ H' ⟨ys, o1, o2, o3, rfl, e, h1, h2, h3⟩
      exact ⟨_, rfl, k _ H' (e1.trans e) ⟨l, ys, rfl, SqL.of h1, h2, h3⟩⟩
end
end K29
set_option Elab.async false
set_option linter.all false
set_option maxRecDepth 100000
set_option maxHeartbeats 4000000
namespace K29
open PySem PySem.Spec PyProof.Rows L2
section
variable {P : Program} {w : World} {K : PySem.W.Frag} {mg : Str → Option Value} {base : Heap}
/-! ### a wedge with every factor -/
theorem pos_divInt {a b : Int} (ha : 0 < a) (hb : 0 < b) : 0 < Rat.divInt a b := by
  refine Rat.lt_of_le_of_ne ((Rat.divInt_nonneg_iff_of_pos_right hb).mpr (Int.le_of_lt ha)) fun e => ?_
  have z := (Rat.divInt_eq_divInt_iff (show (1 : Int) ≠ 0 by decide) (Int.ne_of_gt hb)).mp ((Rat.zero_divInt 1).trans e)
  omega
theorem sc_one (W : Nat → Nat → Rat) : sc 1 W = W := funext fun i => funext fun j => Rat.one_mul _
theorem Good.fine1 {n d : Nat} {W : Nat → Nat → Rat} (g : Good n d W) : Fine n d W := by
  have h := g.fine (c := 1) (sz_one (by decide))
  rw [sc_one] at h
  exact h
/-- the cells that the loops have been at -/
def Been (i r : Nat) (j s : Nat) : Prop := j < i ∨ (j = i ∧ s < r)
def Stage (i r n d : Nat) (U : Nat → Nat → Rat) : Prop := ∀ s j, s < n → j < wd n d s → Cell 1000001 (U s j) ∧ (Been i r j s → 0 < U s j) ∧ (¬ Been i r j s → Cell 1000000 (U s j))
theorem Stage.next {i n d : Nat} {U : Nat → Nat → Rat} (h : Stage i n n d U) : Stage (i + 1) 0 n d U := fun s j hs hj => by
  obtain ⟨h1, h2, h3⟩ := h s j hs hj
  refine ⟨h1, fun b => h2 ?_, fun b => h3 fun q => b ?_⟩
  · unfold Been at b ⊢
    omega
  · unfold Been at q ⊢
    omega
theorem Stage.skip {i r n d : Nat} {U : Nat → Nat → Rat} (h : Stage i r n d U) (hw : wd n d r ≤ i) : Stage i (r + 1) n d U := fun s j hs hj => by
  obtain ⟨h1, h2, h3⟩ := h s j hs hj
  have ne : ¬ (j = i ∧ s = r) := fun ⟨e1, e2⟩ => by
    subst e1
    subst e2
    omega
  refine ⟨h1, fun b => h2 ?_, fun b => h3 fun q => b ?_⟩
  · unfold Been at b ⊢
    omega
  · unfold Been at q ⊢
    omega
theorem Stage.set {i r n d : Nat} {U : Nat → Nat → Rat} {q : Rat} (h : Stage i r n d U) (h1 : Cell 1000001 q) (h2 : 0 < q) : Stage i (r + 1) n d (fun i' j' => if i' = r ∧ j' = i then q else U i' j') := fun s j hs hj => by
  show Cell 1000001 (if s = r ∧ j = i then q else U s j) ∧ (Been i (r + 1) j s → 0 < (if s = r ∧ j = i then q else U s j)) ∧ (¬ Been i (r + 1) j s → Cell 1000000 (if s = r ∧ j = i then q else U s j))
  by_cases e : s = r ∧ j = i
  · rw [if_pos e]
    refine ⟨h1, fun _ => h2, fun b => absurd ?_ b⟩
    unfold Been
    omega
  · rw [if_neg e]
    obtain ⟨h1, h2, h3⟩ := h s j hs hj
    refine ⟨h1, fun b => h2 ?_, fun b => h3 fun q => b ?_⟩
    · unfold Been at b ⊢
      omega
    · unfold Been at q ⊢
      omega
theorem cell_up {q : Rat} (h : Cell 1000000 q) : Cell 1000001 (Rat.divInt (1 + (q.num.natAbs : Int)) (q.den : Int)) := by
  have z := divInt_le (1 + (q.num.natAbs : Int)) (q.den : Int) (den_ne q)
  have h1 := h.top
  have h2 := h.bot
  exact ⟨by omega, by omega⟩
def spSure (K : PySem.W.Frag) : Sp := fun vs H Q _ => ∃ (F : Flw) (n d : Nat), vs = [.ref F.f, .int n, .int d] ∧ FlowAt K H F ∧ n ≤ 10 ∧ d ≤ 6 ∧ ∀ z H' W, Go K (some F) H H' → IsTab K H' z n (wd n d) W → Good n d W → Clear n d W → Q z H'
theorem sc_l_sure : FnScope ["_law_flow_here", "_law_count", "_law_deep", "_law_rows_here", "_law_lag", "_law_row"] ["_law_flow_here", "_law_count", "_law_deep"] (defScope s_l_sure) := ⟨rfl, rfl, rfl, by decide +kernel, rfl, by decide +kernel, by decide +kernel⟩
theorem c_l_sure (c : Ctx K mg) : CallOk P w K mg base 6 "_law_sure" ["_law_flow_here", "_law_count", "_law_deep"] [] (spSure K) := by
  refine c.mk1 37 37 (d := d_l_sure) rfl rfl rfl fun fd F => ⟨⟨[], .nil, F.bindsN fun _ _ _ _ _ _ us hl => match us, hl with | [_, _, _], _ => rfl⟩, okN F sc_l_sure (fun vs H Q E h => ?_) (fun cdv A outer s H vs Q E hr h => ?_)⟩
  · obtain ⟨F, n, d, rfl, _⟩ := h
    rfl
  · obtain ⟨F, n, d, rfl, hF, hn, hd6, k⟩ := h
    refine ⟨_, (pss_cons (ps_set (i := 3) sc_l_sure.nd rfl (by first | exact Or.inl rfl | exact Or.inr rfl) (pe_c (c_l_drawn c) (hr.mono (by decide)) rfl (pa_cons (pv 0) (pa_cons (pv 1) (pa_cons (pv 2) pa_nil)))))
      (pss_cons (ps_if (pt_val (pe_c (c_l_clear c) (hr.mono (by decide)) rfl (pa_cons (pe_c (c_l_steps c) (hr.mono (by decide)) rfl (pa_cons (pv 3) (pa_cons (pv 2) pa_nil))) pa_nil))) (pss_one (ps_ret (pv 3))) pss_nil)
      (pss_cons (ps_for PassesOwn.never rfl (pi_range1 rfl (c.free 57) (pa_cons (pe_op op_add (pv 2) pe_int) pa_nil)) (pg_name (i := 4) sc_l_sure.nd rfl (by first | exact Or.inl rfl | exact Or.inr rfl)) (pss_one (ps_for PassesOwn.never rfl (pi_listK (K := K) rfl (pv 3)) (pg_name (i := 5) sc_l_sure.nd rfl (by first | exact Or.inl rfl | exact Or.inr rfl)) (pss_one (ps_if (pt_cmpR op_lt (pv 4) (pe_callB (id := "len") (call_lenK (K := K) rfl) (by rfl) (c.free 56) (by decide +kernel) (pa_cons (pv 5) pa_nil)) (nomark _)) (pss_one (ps_asg (pe_c (c_l_low c) (hr.mono (by decide)) rfl (pa_cons (pe_op op_add pe_int (pe_callB (id := "abs") call_abs (by rfl) (c.free 52) (by decide +kernel) (pa_cons (pe_ix (ix_tupK (K := K) rfl) (pe_ix (ix_listK (K := K) rfl) (pv 5) (pv 4) (fun _ _ => rfl)) pe_int (fun _ _ => rfl)) pa_nil))) (pa_cons (pe_ix (ix_tupK (K := K) rfl) (pe_ix (ix_listK (K := K) rfl) (pv 5) (pv 4) (fun _ _ => rfl)) pe_int (fun _ _ => rfl)) pa_nil))) (pg_sub (pv 5) (pv 4) set_list))) pss_nil)))))
      (pss_one (ps_ret (pv 3)))))), ?_⟩
    refine ⟨_, rfl, _, rfl, _, rfl, F, n, d, rfl, hF, hn, hd6, fun z H1 W g1 t1 c1 => ?_⟩
    have good : Good n d W := ⟨hn, hd6, fun i j hi hj => (c1 i j hi hj).mono (by decide)⟩
    refine ⟨_, rfl, _, rfl, z, n, d, W, rfl, hn, hd6, t1.is, good.fine1, fun y H2 e2 s2 => ?_⟩
    have g2 := g1.to e2
    have t2 := t1.go (Fl.some hF) (Go.same g1.fl1 e2)
    refine ⟨y, d, _, rfl, s2, fun b hb => ⟨b, rfl, ?_⟩⟩
    cases b with
    | true =>
      refine iteT ?_
      exact ⟨_, rfl, k z H2 W g2 t2.is good fun i hi => hb rfl i hi⟩
    | false =>
      refine iteF ?_
      obtain ⟨a, as, rfl, hA⟩ := t2
      have hl : (as.map V.ref).length = n := by rw [List.length_map]; exact hA.len
      refine ⟨_, rfl, _, _, rfl, rfl, _, rfl, by omega, by omega, for_range (lo := 0) (n := d + 1) (fun i σ H' => ∃ (o1 o2 : Option V) (U : Nat → Nat → Rat), σ = [some (.ref F.f), some (.int n), some (.int d), some (.ref a), o1, o2] ∧ Go K (some F) H H' ∧ MTabA K H H' a as n (wd n d) U ∧ Stage i 0 n d U)
        ⟨none, none, W, rfl, g2, hA, fun s j hs hj => ⟨(c1 s j hs hj).mono (by decide), fun b => by unfold Been at b; omega, fun _ => c1 s j hs hj⟩⟩ ?_ ?_⟩
      · rintro i σ H' hi ⟨o1, o2, U, rfl, g, hB, st⟩
        have e00 : (0 : Int) + (i : Int) = (i : Int) := Int.zero_add _
        rw [e00]
        refine ⟨_, rfl, a, rfl, ⟨_, SqL.of hB.top⟩, for_list (K := K) (a := a) (xs := as.map V.ref) (fun r σ H' => ∃ (o2 : Option V) (U : Nat → Nat → Rat), σ = [some (.ref F.f), some (.int n), some (.int d), some (.ref a), some (.int i), o2] ∧ Go K (some F) H H' ∧ MTabA K H H' a as n (wd n d) U ∧ Stage i r n d U)
          ⟨o2, U, rfl, g, hB, st⟩ (fun r σ H' _ ⟨_, _, _, _, q, _⟩ => SqL.of q.top) ?_ ?_⟩
        · rintro r y σ H3 hr ⟨o2, U, rfl, g3, hC, st⟩
          obtain ⟨p, ys, rfl, hin, hyl, sq, cell⟩ := hC.rows (Fl.some hF) r y hr
          have hpa : as[r]? = some p := by
            rw [List.getElem?_map] at hr
            cases z : as[r]? with
            | none =>
              rw [z] at hr
              cases hr
            | some p' =>
              rw [z] at hr
              cases hr
              rfl
          have gr := Go.refl g3.fl1
          refine ⟨_, rfl, _, rfl, p, ys, rfl, .inl (sq _ gr), _, _, rfl, rfl, _, rfl, ite2 (fun hlt => ?_) (fun hlt => ?_)⟩
          · have hlt := of_decide_eq_true hlt
            have hlt2 : i < ys.length := by omega
            obtain ⟨u, hu⟩ := get_some (xs := ys) (i := i) hlt2
            obtain ⟨q, rfl, tq⟩ := id (cell _ gr i u hu)
            have cq := (st r i hin (by omega)).2.2 (by unfold Been; omega)
            have hdn := den_ne (U r i)
            have hdp := num_pos_den (U r i)
            refine ⟨_, rfl, _, rfl, p, ys, _, _, rfl, rfl, sq _ gr, atI_nat hu, q, _, _, _, rfl, rfl, tq, rfl, _, rfl, _, _, rfl, rfl, ?_⟩
            rw [abs_is]
            refine ⟨_, rfl, _, rfl, p, ys, _, _, rfl, rfl, sq _ gr, atI_nat hu, q, _, _, _, rfl, rfl, tq, rfl, _, _, rfl, hdn, ?_, fun v H4 e4 p4 => ?_⟩
            · have := cq.bot
              exact Nat.lt_of_le_of_lt (show ((U r i).den : Int).natAbs ≤ 12 by omega) (b9_of (b := 12) (n := 10) (by decide) (by decide))
            · have g4 := g3.to e4
              have hD := hC.go (Fl.some hF) (Go.same g3.fl1 e4)
              obtain ⟨ys', h1, h2, h3⟩ := hD.row r p hpa
              refine ⟨_, rfl, _, rfl, p, ys', _, i, rfl, rfl, h1, ixn (by rw [h2]; omega), ?_⟩
              exact ⟨_, _, rfl, g4.mut (hD.fresh r p hpa), hD.setCell hpa h1 p4, st.set (cell_up cq) (pos_divInt (by omega) hdp)⟩
          · have hge : ys.length ≤ i := by
              have h0 : ¬ ((i : Int) < (ys.length : Int)) := fun q => hlt (decide_eq_true q)
              omega
            exact ⟨_, _, rfl, g3, hC, st.skip (by omega)⟩
        · rintro σ H3 ⟨o2, U, rfl, g3, hC, st⟩
          rw [hl] at st
          exact ⟨_, _, _, rfl, g3, hC, st.next⟩
      · rintro σ H' ⟨o1, o2, U, rfl, g, hB, st⟩
        have been : ∀ s j, s < n → j < wd n d s → Been (d + 1) 0 j s := fun s j hs hj => by
          have := wd_le n d s
          unfold Been
          omega
        refine ⟨_, rfl, k _ H' U g (MTab.is ⟨a, as, rfl, hB⟩) ⟨hn, hd6, fun i j hi hj => (st i j hi hj).1.mono (by decide)⟩ (clear_pos fun i j hi hj => (st i j hi hj).2.1 (been i j hi hj))⟩
end
end K29
set_option Elab.async false
set_option linter.all false
set_option maxRecDepth 100000
set_option maxHeartbeats 4000000
namespace K29
open PySem PySem.Spec PyProof.Rows L2
section
variable {P : Program} {w : World} {K : PySem.W.Frag} {mg : Str → Option Value} {base : Heap}
/-! ### fractions, rows of fractions -/
def spLIsPart (K : PySem.W.Frag) : Sp := fun vs H Q _ => ∃ (v : V) (q : Rat), vs = [v] ∧ IsP K H v q ∧ Sz 4000 q ∧ ∀ H', Same H H' → Q (.bl true) H'
theorem sc_l_is_part : FnScope ["_law_found"] ["_law_found"] (defScope s_l_is_part) := ⟨rfl, rfl, rfl, by decide +kernel, rfl, by decide +kernel, by decide +kernel⟩
theorem c_l_is_part (c : Ctx K mg) : CallOk P w K mg base 2 "_law_is_part" ["_law_found"] [] (spLIsPart K) := by
  refine c.mk1 41 41 (d := d_l_is_part) rfl rfl rfl fun fd F => ⟨⟨[], .nil, F.bindsN fun _ _ _ _ _ _ us hl => match us, hl with | [_], _ => rfl⟩, okN F sc_l_is_part (fun vs H Q E h => ?_) (fun cdv A outer s H vs Q E hr h => ?_)⟩
  · obtain ⟨v, q, rfl, _⟩ := h
    rfl
  · obtain ⟨v, q, rfl, ⟨a, rfl, ht⟩, sq, k⟩ := h
    refine ⟨_, (pss_cons (ps_if (PW.pt (pw_or (pt_not (pt_val (pe_callB (id := "isinstance") (call_isiK2 (K := K) rfl) (by rfl) (c.free 49) (by decide +kernel) (pa_cons (pv 0) (pa_cons (pe_bltn (v := .ty "tuple") (by rfl) (c.free 53) (by decide +kernel) rfl) pa_nil))))) (pw_or1 (pt_cmpR op_ne (pe_callB (id := "len") (call_lenK (K := K) rfl) (by rfl) (c.free 56) (by decide +kernel) (pa_cons (pv 0) pa_nil)) pe_int (nomark _))))) (pss_one (ps_ret pe_bl)) pss_nil)
      (pss_cons (ps_if (PW.pt (pw_or (pt_not (pt_val (pe_callB (id := "isinstance") (call_isiK2 (K := K) rfl) (by rfl) (c.free 49) (by decide +kernel) (pa_cons (pe_ix (ix_tupK (K := K) rfl) (pv 0) pe_int (fun _ _ => rfl)) (pa_cons (pe_bltn (v := .ty "int") (by rfl) (c.free 50) (by decide +kernel) rfl) pa_nil))))) (pw_or1 (pt_val (pe_callB (id := "isinstance") (call_isiK2 (K := K) rfl) (by rfl) (c.free 49) (by decide +kernel) (pa_cons (pe_ix (ix_tupK (K := K) rfl) (pv 0) pe_int (fun _ _ => rfl)) (pa_cons (pe_bltn (v := .ty "bool") (by rfl) (c.free 51) (by decide +kernel) rfl) pa_nil))))))) (pss_one (ps_ret pe_bl)) pss_nil)
      (pss_cons (ps_if (PW.pt (pw_or (pt_not (pt_val (pe_callB (id := "isinstance") (call_isiK2 (K := K) rfl) (by rfl) (c.free 49) (by decide +kernel) (pa_cons (pe_ix (ix_tupK (K := K) rfl) (pv 0) pe_int (fun _ _ => rfl)) (pa_cons (pe_bltn (v := .ty "int") (by rfl) (c.free 50) (by decide +kernel) rfl) pa_nil))))) (pw_or1 (pt_val (pe_callB (id := "isinstance") (call_isiK2 (K := K) rfl) (by rfl) (c.free 49) (by decide +kernel) (pa_cons (pe_ix (ix_tupK (K := K) rfl) (pv 0) pe_int (fun _ _ => rfl)) (pa_cons (pe_bltn (v := .ty "bool") (by rfl) (c.free 51) (by decide +kernel) rfl) pa_nil))))))) (pss_one (ps_ret pe_bl)) pss_nil)
      (pss_one (ps_ret (pe_and (pe_cmpR op_gt (pe_ix (ix_tupK (K := K) rfl) (pv 0) pe_int (fun _ _ => rfl)) pe_int (nomark _)) (pe_one (pe_cmpR (op_eqD hr.units) (pe_c (c_l_low c) (hr.mono (by decide)) rfl (pa_cons (pe_ix (ix_tupK (K := K) rfl) (pv 0) pe_int (fun _ _ => rfl)) (pa_cons (pe_ix (ix_tupK (K := K) rfl) (pv 0) pe_int (fun _ _ => rfl)) pa_nil))) (pv 0) (nomark _))))))))), ?_⟩
    refine ⟨_, rfl, .ref a, .ty "tuple", .type "tuple", .type "tuple", true, rfl, .ty _, ty_t ht, kit_ty (by decide +kernel), true, rfl, iteF ?_⟩
    refine ⟨_, rfl, a, _, rfl, .inr ht, rfl, _, rfl, iteNS rfl ?_⟩
    refine ⟨_, rfl, a, _, _, _, rfl, rfl, ht, rfl, .int _, .ty "int", .type "int", .type "int", true, rfl, .ty _, .base (.int _), kit_ty (by decide +kernel), true, rfl, iteF ?_⟩
    refine ⟨_, rfl, a, _, _, _, rfl, rfl, ht, rfl, .int _, .ty "bool", .type "int", .type "bool", false, rfl, .ty _, .base (.int _), kit_ty (by decide +kernel), false, rfl, iteF ?_⟩
    refine ⟨_, rfl, a, _, _, _, rfl, rfl, ht, rfl, .int _, .ty "int", .type "int", .type "int", true, rfl, .ty _, .base (.int _), kit_ty (by decide +kernel), true, rfl, iteF ?_⟩
    refine ⟨_, rfl, a, _, _, _, rfl, rfl, ht, rfl, .int _, .ty "bool", .type "int", .type "bool", false, rfl, .ty _, .base (.int _), kit_ty (by decide +kernel), false, rfl, iteF ?_⟩
    refine ⟨_, rfl, a, _, _, _, rfl, rfl, ht, rfl, _, _, rfl, rfl, _, rfl, ite_yes (num_pos_den q) ?_⟩
    refine ⟨_, rfl, a, _, _, _, rfl, rfl, ht, rfl, _, rfl, a, _, _, _, rfl, rfl, ht, rfl, _, _, rfl, den_ne q, Nat.lt_of_lt_of_le (show ((q.den : Int)).natAbs < _ from sq.2) (Nat.pow_le_pow_right (by decide) (by decide)), fun v H1 e1 p1 => ?_⟩
    refine ⟨_, rfl, _, _, p1.dp, (IsP.same e1 ⟨a, rfl, ht⟩).dp, by rfl, by rfl, ?_⟩
    rw [eqv_pair, Rat.num_divInt_den, decide_eq_true rfl]
    exact k H1 e1
def spParts (K : PySem.W.Frag) : Sp := fun vs H Q _ => ∃ (v : V) (m : Nat) (z : Int) (f : Nat → Rat), vs = [v, .int z] ∧ z = (m : Int) ∧ IsRow K H v m f ∧ (∀ i, i < m → Sz 4000 (f i)) ∧ ∀ H', Same H H' → Q (.bl true) H'
theorem sc_l_parts : FnScope ["_law_found", "_law_count", "_law_one"] ["_law_found", "_law_count"] (defScope s_l_parts) := ⟨rfl, rfl, rfl, by decide +kernel, rfl, by decide +kernel, by decide +kernel⟩
theorem c_l_parts (c : Ctx K mg) : CallOk P w K mg base 3 "_law_parts" ["_law_found", "_law_count"] [] (spParts K) := by
  refine c.mk1 42 42 (d := d_l_parts) rfl rfl rfl fun fd F => ⟨⟨[], .nil, F.bindsN fun _ _ _ _ _ _ us hl => match us, hl with | [_, _], _ => rfl⟩, okN F sc_l_parts (fun vs H Q E h => ?_) (fun cdv A outer s H vs Q E hr h => ?_)⟩
  · obtain ⟨v, m, z, f, rfl, _⟩ := h
    rfl
  · obtain ⟨v, m, z, f, rfl, rfl, ⟨a, xs, rfl, hS, hl, hx⟩, sz, k⟩ := h
    refine ⟨_, (pss_cons (ps_if (PW.pt (pw_or (pt_not (pt_val (pe_callB (id := "isinstance") (call_isiK2 (K := K) rfl) (by rfl) (c.free 49) (by decide +kernel) (pa_cons (pv 0) (pa_cons (pe_bltn (v := .ty "list") (by rfl) (c.free 54) (by decide +kernel) rfl) pa_nil))))) (pw_or1 (pt_cmpR op_ne (pe_callB (id := "len") (call_lenK (K := K) rfl) (by rfl) (c.free 56) (by decide +kernel) (pa_cons (pv 0) pa_nil)) (pv 1) (nomark _))))) (pss_one (ps_ret pe_bl)) pss_nil)
      (pss_cons (ps_for PassesOwn.never rfl (pi_listK (K := K) rfl (pv 0)) (pg_name (i := 2) sc_l_parts.nd rfl (by first | exact Or.inl rfl | exact Or.inr rfl)) (pss_one (ps_if (pt_not (pt_val (pe_c (c_l_is_part c) (hr.mono (by decide)) rfl (pa_cons (pv 2) pa_nil)))) (pss_one (ps_ret pe_bl)) pss_nil)))
      (pss_one (ps_ret pe_bl)))), ?_⟩
    refine ⟨_, rfl, .ref a, .ty "list", .type "list", .type "list", true, rfl, .ty _, ty_l hS, kit_ty (by decide +kernel), true, rfl, iteF ?_⟩
    refine ⟨_, rfl, a, xs, rfl, .inl hS, _, rfl, rfl, _, rfl, iteNS (by rw [hl]) ?_⟩
    refine ⟨_, rfl, a, rfl, ⟨_, hS⟩, for_list (K := K) (a := a) (xs := xs) (fun i σ H' => Same H H' ∧ ∃ o, σ = [some (.ref a), some (.int m), o])
      ⟨Same.refl _, none, rfl⟩ (fun i σ H' _ p => same_l p.1 hS) ?_ ?_⟩
    · rintro i y σ H' hi ⟨e, o, rfl⟩
      exact ⟨_, rfl, y, f i, rfl, (hx i y hi).same e, sz i (lt_of_get hi hl), fun H2 e2 => ⟨true, rfl, iteF ⟨e.trans e2, _, rfl⟩⟩⟩
    · rintro σ H' ⟨e, o, rfl⟩
      exact k H' e
/-! ### the same: numbers, fractions, rows, tables -/
def spSameI : Sp := fun vs H Q _ => ∃ i : Int, vs = [.int i, .int i] ∧ Q (.bl true) H
theorem sc_l_same : FnScope ["_law_found", "_law_due", "_law_k"] ["_law_found", "_law_due"] (defScope s_l_same) := ⟨rfl, rfl, rfl, by decide +kernel, rfl, by decide +kernel, by decide +kernel⟩
theorem c_l_same1 (c : Ctx K mg) : CallOk P w K mg base 1 "_law_same" ["_law_found", "_law_due"] [] spSameI := by
  refine c.mk1 44 44 (d := d_l_same) rfl rfl rfl fun fd F => ⟨⟨[], .nil, F.bindsN fun _ _ _ _ _ _ us hl => match us, hl with | [_, _], _ => rfl⟩, okN F sc_l_same (fun vs H Q E h => ?_) (fun cdv A outer s H vs Q E hr h => ?_)⟩
  · obtain ⟨i, rfl, _⟩ := h
    rfl
  · obtain ⟨i, rfl, k⟩ := h
    refine ⟨_, (pss_cons (ps_if (pt_val (pe_callB (id := "isinstance") (call_isiK2 (K := K) rfl) (by rfl) (c.free 49) (by decide +kernel) (pa_cons (pv 1) (pa_cons (pe_bltn (v := .ty "bool") (by rfl) (c.free 51) (by decide +kernel) rfl) pa_nil)))) (pss_one (ps_ret (pe_and (pe_callB (id := "isinstance") (call_isiK2 (K := K) rfl) (by rfl) (c.free 49) (by decide +kernel) (pa_cons (pv 0) (pa_cons (pe_bltn (v := .ty "bool") (by rfl) (c.free 51) (by decide +kernel) rfl) pa_nil))) (pe_one (pe_cmpR op_eq (pv 0) (pv 1) (nomark _)))))) pss_nil)
      (pss_cons (ps_if (pt_cmpR op_isN (pv 1) pe_non (nomark _)) (pss_one (ps_ret (pe_cmpR op_isN (pv 0) pe_non (nomark _)))) pss_nil)
      (pss_cons (ps_if (pt_val (pe_callB (id := "isinstance") (call_isiK2 (K := K) rfl) (by rfl) (c.free 49) (by decide +kernel) (pa_cons (pv 1) (pa_cons (pe_bltn (v := .ty "int") (by rfl) (c.free 50) (by decide +kernel) rfl) pa_nil)))) (pss_one (ps_ret (pe_and (pe_callB (id := "isinstance") (call_isiK2 (K := K) rfl) (by rfl) (c.free 49) (by decide +kernel) (pa_cons (pv 0) (pa_cons (pe_bltn (v := .ty "int") (by rfl) (c.free 50) (by decide +kernel) rfl) pa_nil))) (pe_and (pe_not (pe_callB (id := "isinstance") (call_isiK2 (K := K) rfl) (by rfl) (c.free 49) (by decide +kernel) (pa_cons (pv 0) (pa_cons (pe_bltn (v := .ty "bool") (by rfl) (c.free 51) (by decide +kernel) rfl) pa_nil)))) (pe_one (pe_cmpR op_eq (pv 0) (pv 1) (nomark _))))))) pss_nil)
      pss_never))), ?_⟩
    refine ⟨_, rfl, .int _, .ty "bool", .type "int", .type "bool", false, rfl, .ty _, .base (.int _), kit_ty (by decide +kernel), false, rfl, iteF ?_⟩
    refine ⟨_, rfl, rfl, _, rfl, ite_no (fun e => by cases e) ?_⟩
    refine ⟨_, rfl, .int _, .ty "int", .type "int", .type "int", true, rfl, .ty _, .base (.int _), kit_ty (by decide +kernel), true, rfl, iteT ?_⟩
    refine ⟨_, rfl, .int _, .ty "int", .type "int", .type "int", true, rfl, .ty _, .base (.int _), kit_ty (by decide +kernel), true, rfl, iteT ?_⟩
    refine ⟨_, rfl, .int _, .ty "bool", .type "int", .type "bool", false, rfl, .ty _, .base (.int _), kit_ty (by decide +kernel), false, rfl, true, rfl, iteT ?_⟩
    refine ⟨_, rfl, _, rfl, rfl, ?_⟩
    rw [decide_eq_true rfl]
    exact k
def spSameP (K : PySem.W.Frag) : Sp := fun vs H Q _ => ∃ (v u : V) (q : Rat), vs = [v, u] ∧ IsP K H v q ∧ IsP K H u q ∧ Q (.bl true) H
theorem c_l_same2 (c : Ctx K mg) : CallOk P w K mg base 2 "_law_same" ["_law_found", "_law_due"] [] (spSameP K) := by
  refine c.mk1 44 44 (d := d_l_same) rfl rfl rfl fun fd F => ⟨⟨[], .nil, F.bindsN fun _ _ _ _ _ _ us hl => match us, hl with | [_, _], _ => rfl⟩, okN F sc_l_same (fun vs H Q E h => ?_) (fun cdv A outer s H vs Q E hr h => ?_)⟩
  · obtain ⟨v, u, q, rfl, _⟩ := h
    rfl
  · obtain ⟨v, u, q, rfl, ⟨a, rfl, ha⟩, ⟨b, rfl, hb⟩, k⟩ := h
    refine ⟨_, (pss_cons (ps_if (pt_val (pe_callB (id := "isinstance") (call_isiK2 (K := K) rfl) (by rfl) (c.free 49) (by decide +kernel) (pa_cons (pv 1) (pa_cons (pe_bltn (v := .ty "bool") (by rfl) (c.free 51) (by decide +kernel) rfl) pa_nil)))) (pss_one (ps_ret (pe_and (pe_callB (id := "isinstance") (call_isiK2 (K := K) rfl) (by rfl) (c.free 49) (by decide +kernel) (pa_cons (pv 0) (pa_cons (pe_bltn (v := .ty "bool") (by rfl) (c.free 51) (by decide +kernel) rfl) pa_nil))) (pe_one (pe_cmpR op_eq (pv 0) (pv 1) (nomark _)))))) pss_nil)
      (pss_cons (ps_if (pt_cmpR op_isN (pv 1) pe_non (nomark _)) (pss_one (ps_ret (pe_cmpR op_isN (pv 0) pe_non (nomark _)))) pss_nil)
      (pss_cons (ps_if (pt_val (pe_callB (id := "isinstance") (call_isiK2 (K := K) rfl) (by rfl) (c.free 49) (by decide +kernel) (pa_cons (pv 1) (pa_cons (pe_bltn (v := .ty "int") (by rfl) (c.free 50) (by decide +kernel) rfl) pa_nil)))) (pss_one (ps_ret (pe_and (pe_callB (id := "isinstance") (call_isiK2 (K := K) rfl) (by rfl) (c.free 49) (by decide +kernel) (pa_cons (pv 0) (pa_cons (pe_bltn (v := .ty "int") (by rfl) (c.free 50) (by decide +kernel) rfl) pa_nil))) (pe_and (pe_not (pe_callB (id := "isinstance") (call_isiK2 (K := K) rfl) (by rfl) (c.free 49) (by decide +kernel) (pa_cons (pv 0) (pa_cons (pe_bltn (v := .ty "bool") (by rfl) (c.free 51) (by decide +kernel) rfl) pa_nil)))) (pe_one (pe_cmpR op_eq (pv 0) (pv 1) (nomark _))))))) pss_nil)
      (pss_cons (ps_if (pt_val (pe_callB (id := "isinstance") (call_isiK2 (K := K) rfl) (by rfl) (c.free 49) (by decide +kernel) (pa_cons (pv 1) (pa_cons (pe_bltn (v := .ty "str") (by rfl) (c.free 55) (by decide +kernel) rfl) pa_nil)))) (pss_one (ps_ret (pe_and (pe_callB (id := "isinstance") (call_isiK2 (K := K) rfl) (by rfl) (c.free 49) (by decide +kernel) (pa_cons (pv 0) (pa_cons (pe_bltn (v := .ty "str") (by rfl) (c.free 55) (by decide +kernel) rfl) pa_nil))) (pe_one (pe_cmpR op_eq (pv 0) (pv 1) (nomark _)))))) pss_nil)
      (pss_cons (ps_if (PW.pt (pw_and (pt_val (pe_callB (id := "isinstance") (call_isiK2 (K := K) rfl) (by rfl) (c.free 49) (by decide +kernel) (pa_cons (pv 1) (pa_cons (pe_bltn (v := .ty "tuple") (by rfl) (c.free 53) (by decide +kernel) rfl) pa_nil)))) (pw_and1 (pt_not (pt_val (pe_callB (id := "isinstance") (call_isiK2 (K := K) rfl) (by rfl) (c.free 49) (by decide +kernel) (pa_cons (pv 0) (pa_cons (pe_bltn (v := .ty "tuple") (by rfl) (c.free 53) (by decide +kernel) rfl) pa_nil)))))))) (pss_one (ps_ret pe_bl)) pss_nil)
      (pss_cons (ps_if (PW.pt (pw_and (pt_val (pe_callB (id := "isinstance") (call_isiK2 (K := K) rfl) (by rfl) (c.free 49) (by decide +kernel) (pa_cons (pv 1) (pa_cons (pe_bltn (v := .ty "list") (by rfl) (c.free 54) (by decide +kernel) rfl) pa_nil)))) (pw_and1 (pt_not (pt_val (pe_callB (id := "isinstance") (call_isiK2 (K := K) rfl) (by rfl) (c.free 49) (by decide +kernel) (pa_cons (pv 0) (pa_cons (pe_bltn (v := .ty "list") (by rfl) (c.free 54) (by decide +kernel) rfl) pa_nil)))))))) (pss_one (ps_ret pe_bl)) pss_nil)
      (pss_cons (ps_if (pt_cmpR op_ne (pe_callB (id := "len") (call_lenK (K := K) rfl) (by rfl) (c.free 56) (by decide +kernel) (pa_cons (pv 0) pa_nil)) (pe_callB (id := "len") (call_lenK (K := K) rfl) (by rfl) (c.free 56) (by decide +kernel) (pa_cons (pv 1) pa_nil)) (nomark _)) (pss_one (ps_ret pe_bl)) pss_nil)
      (pss_cons (ps_for PassesOwn.never rfl (pi_range1 rfl (c.free 57) (pa_cons (pe_callB (id := "len") (call_lenK (K := K) rfl) (by rfl) (c.free 56) (by decide +kernel) (pa_cons (pv 1) pa_nil)) pa_nil)) (pg_name (i := 2) sc_l_same.nd rfl (by first | exact Or.inl rfl | exact Or.inr rfl)) (pss_one (ps_if (pt_not (pt_val (pe_c (c_l_same1 c) (hr.mono (by decide)) rfl (pa_cons (pe_ix (ix_tupK (K := K) rfl) (pv 0) (pv 2) (fun _ _ => rfl)) (pa_cons (pe_ix (ix_tupK (K := K) rfl) (pv 1) (pv 2) (fun _ _ => rfl)) pa_nil))))) (pss_one (ps_ret pe_bl)) pss_nil)))
      (pss_one (ps_ret pe_bl)))))))))), ?_⟩
    refine ⟨_, rfl, .ref b, .ty "bool", .type "tuple", .type "bool", false, rfl, .ty _, ty_t hb, kit_ty (by decide +kernel), false, rfl, iteF ?_⟩
    refine ⟨_, rfl, rfl, _, rfl, ite_no (fun e => by cases e) ?_⟩
    refine ⟨_, rfl, .ref b, .ty "int", .type "tuple", .type "int", false, rfl, .ty _, ty_t hb, kit_ty (by decide +kernel), false, rfl, iteF ?_⟩
    refine ⟨_, rfl, .ref b, .ty "str", .type "tuple", .type "str", false, rfl, .ty _, ty_t hb, kit_ty (by decide +kernel), false, rfl, iteF ?_⟩
    refine ⟨_, rfl, .ref b, .ty "tuple", .type "tuple", .type "tuple", true, rfl, .ty _, ty_t hb, kit_ty (by decide +kernel), true, rfl, iteT ?_⟩
    refine ⟨_, rfl, .ref a, .ty "tuple", .type "tuple", .type "tuple", true, rfl, .ty _, ty_t ha, kit_ty (by decide +kernel), true, rfl, iteF ?_⟩
    refine ⟨_, rfl, .ref b, .ty "list", .type "tuple", .type "list", false, rfl, .ty _, ty_t hb, kit_ty (by decide +kernel), false, rfl, iteF (iteF ?_)⟩
    refine ⟨_, rfl, a, _, rfl, .inr ha, _, rfl, b, _, rfl, .inr hb, rfl, _, rfl, iteNS rfl ?_⟩
    refine ⟨_, rfl, b, _, rfl, .inr hb, _, rfl, (show (-(2 ^ 62) : Int) ≤ 2 by decide), (show (2 : Int) < 2 ^ 62 by decide), for_range (lo := 0) (n := 2) (fun i σ H' => H' = H ∧ ∃ o, σ = [some (.ref a), some (.ref b), o]) ⟨rfl, none, rfl⟩ ?_ ?_⟩
    · rintro i σ H' hi ⟨rfl, o, rfl⟩
      have h2 : i = 0 ∨ i = 1 := by omega
      rcases h2 with rfl | rfl
      · exact ⟨_, rfl, _, rfl, a, _, _, _, rfl, rfl, ha, rfl, _, rfl, _, rfl, b, _, _, _, rfl, rfl, hb, rfl, _, rfl, true, rfl, iteF ⟨rfl, _, rfl⟩⟩
      · exact ⟨_, rfl, _, rfl, a, _, _, _, rfl, rfl, ha, rfl, _, rfl, _, rfl, b, _, _, _, rfl, rfl, hb, rfl, _, rfl, true, rfl, iteF ⟨rfl, _, rfl⟩⟩
    · rintro σ H' ⟨rfl, o, rfl⟩
      exact k
def spSameR (K : PySem.W.Frag) : Sp := fun vs H Q _ => ∃ (v u : V) (n : Nat) (f : Nat → Rat), vs = [v, u] ∧ n ≤ 1000 ∧ IsRow K H v n f ∧ IsRow K H u n f ∧ Q (.bl true) H
theorem c_l_same3 (c : Ctx K mg) : CallOk P w K mg base 3 "_law_same" ["_law_found", "_law_due"] [] (spSameR K) := by
  refine c.mk1 44 44 (d := d_l_same) rfl rfl rfl fun fd F => ⟨⟨[], .nil, F.bindsN fun _ _ _ _ _ _ us hl => match us, hl with | [_, _], _ => rfl⟩, okN F sc_l_same (fun vs H Q E h => ?_) (fun cdv A outer s H vs Q E hr h => ?_)⟩
  · obtain ⟨v, u, n, f, rfl, _⟩ := h
    rfl
  · obtain ⟨v, u, n, f, rfl, hn, ⟨a, xs, rfl, hS, hl, hx⟩, ⟨b, ys, rfl, hT, hm, hy⟩, k⟩ := h
    refine ⟨_, (pss_cons (ps_if (pt_val (pe_callB (id := "isinstance") (call_isiK2 (K := K) rfl) (by rfl) (c.free 49) (by decide +kernel) (pa_cons (pv 1) (pa_cons (pe_bltn (v := .ty "bool") (by rfl) (c.free 51) (by decide +kernel) rfl) pa_nil)))) (pss_one (ps_ret (pe_and (pe_callB (id := "isinstance") (call_isiK2 (K := K) rfl) (by rfl) (c.free 49) (by decide +kernel) (pa_cons (pv 0) (pa_cons (pe_bltn (v := .ty "bool") (by rfl) (c.free 51) (by decide +kernel) rfl) pa_nil))) (pe_one (pe_cmpR op_eq (pv 0) (pv 1) (nomark _)))))) pss_nil)
      (pss_cons (ps_if (pt_cmpR op_isN (pv 1) pe_non (nomark _)) (pss_one (ps_ret (pe_cmpR op_isN (pv 0) pe_non (nomark _)))) pss_nil)
      (pss_cons (ps_if (pt_val (pe_callB (id := "isinstance") (call_isiK2 (K := K) rfl) (by rfl) (c.free 49) (by decide +kernel) (pa_cons (pv 1) (pa_cons (pe_bltn (v := .ty "int") (by rfl) (c.free 50) (by decide +kernel) rfl) pa_nil)))) (pss_one (ps_ret (pe_and (pe_callB (id := "isinstance") (call_isiK2 (K := K) rfl) (by rfl) (c.free 49) (by decide +kernel) (pa_cons (pv 0) (pa_cons (pe_bltn (v := .ty "int") (by rfl) (c.free 50) (by decide +kernel) rfl) pa_nil))) (pe_and (pe_not (pe_callB (id := "isinstance") (call_isiK2 (K := K) rfl) (by rfl) (c.free 49) (by decide +kernel) (pa_cons (pv 0) (pa_cons (pe_bltn (v := .ty "bool") (by rfl) (c.free 51) (by decide +kernel) rfl) pa_nil)))) (pe_one (pe_cmpR op_eq (pv 0) (pv 1) (nomark _))))))) pss_nil)
      (pss_cons (ps_if (pt_val (pe_callB (id := "isinstance") (call_isiK2 (K := K) rfl) (by rfl) (c.free 49) (by decide +kernel) (pa_cons (pv 1) (pa_cons (pe_bltn (v := .ty "str") (by rfl) (c.free 55) (by decide +kernel) rfl) pa_nil)))) (pss_one (ps_ret (pe_and (pe_callB (id := "isinstance") (call_isiK2 (K := K) rfl) (by rfl) (c.free 49) (by decide +kernel) (pa_cons (pv 0) (pa_cons (pe_bltn (v := .ty "str") (by rfl) (c.free 55) (by decide +kernel) rfl) pa_nil))) (pe_one (pe_cmpR op_eq (pv 0) (pv 1) (nomark _)))))) pss_nil)
      (pss_cons (ps_if (PW.pt (pw_and (pt_val (pe_callB (id := "isinstance") (call_isiK2 (K := K) rfl) (by rfl) (c.free 49) (by decide +kernel) (pa_cons (pv 1) (pa_cons (pe_bltn (v := .ty "tuple") (by rfl) (c.free 53) (by decide +kernel) rfl) pa_nil)))) (pw_and1 (pt_not (pt_val (pe_callB (id := "isinstance") (call_isiK2 (K := K) rfl) (by rfl) (c.free 49) (by decide +kernel) (pa_cons (pv 0) (pa_cons (pe_bltn (v := .ty "tuple") (by rfl) (c.free 53) (by decide +kernel) rfl) pa_nil)))))))) (pss_one (ps_ret pe_bl)) pss_nil)
      (pss_cons (ps_if (PW.pt (pw_and (pt_val (pe_callB (id := "isinstance") (call_isiK2 (K := K) rfl) (by rfl) (c.free 49) (by decide +kernel) (pa_cons (pv 1) (pa_cons (pe_bltn (v := .ty "list") (by rfl) (c.free 54) (by decide +kernel) rfl) pa_nil)))) (pw_and1 (pt_not (pt_val (pe_callB (id := "isinstance") (call_isiK2 (K := K) rfl) (by rfl) (c.free 49) (by decide +kernel) (pa_cons (pv 0) (pa_cons (pe_bltn (v := .ty "list") (by rfl) (c.free 54) (by decide +kernel) rfl) pa_nil)))))))) (pss_one (ps_ret pe_bl)) pss_nil)
      (pss_cons (ps_if (pt_cmpR op_ne (pe_callB (id := "len") (call_lenK (K := K) rfl) (by rfl) (c.free 56) (by decide +kernel) (pa_cons (pv 0) pa_nil)) (pe_callB (id := "len") (call_lenK (K := K) rfl) (by rfl) (c.free 56) (by decide +kernel) (pa_cons (pv 1) pa_nil)) (nomark _)) (pss_one (ps_ret pe_bl)) pss_nil)
      (pss_cons (ps_for PassesOwn.never rfl (pi_range1 rfl (c.free 57) (pa_cons (pe_callB (id := "len") (call_lenK (K := K) rfl) (by rfl) (c.free 56) (by decide +kernel) (pa_cons (pv 1) pa_nil)) pa_nil)) (pg_name (i := 2) sc_l_same.nd rfl (by first | exact Or.inl rfl | exact Or.inr rfl)) (pss_one (ps_if (pt_not (pt_val (pe_c (c_l_same2 c) (hr.mono (by decide)) rfl (pa_cons (pe_ix (ix_listK (K := K) rfl) (pv 0) (pv 2) (fun _ _ => rfl)) (pa_cons (pe_ix (ix_listK (K := K) rfl) (pv 1) (pv 2) (fun _ _ => rfl)) pa_nil))))) (pss_one (ps_ret pe_bl)) pss_nil)))
      (pss_one (ps_ret pe_bl)))))))))), ?_⟩
    refine ⟨_, rfl, .ref b, .ty "bool", .type "list", .type "bool", false, rfl, .ty _, ty_l hT, kit_ty (by decide +kernel), false, rfl, iteF ?_⟩
    refine ⟨_, rfl, rfl, _, rfl, ite_no (fun e => by cases e) ?_⟩
    refine ⟨_, rfl, .ref b, .ty "int", .type "list", .type "int", false, rfl, .ty _, ty_l hT, kit_ty (by decide +kernel), false, rfl, iteF ?_⟩
    refine ⟨_, rfl, .ref b, .ty "str", .type "list", .type "str", false, rfl, .ty _, ty_l hT, kit_ty (by decide +kernel), false, rfl, iteF ?_⟩
    refine ⟨_, rfl, .ref b, .ty "tuple", .type "list", .type "tuple", false, rfl, .ty _, ty_l hT, kit_ty (by decide +kernel), false, rfl, iteF (iteF ?_)⟩
    refine ⟨_, rfl, .ref b, .ty "list", .type "list", .type "list", true, rfl, .ty _, ty_l hT, kit_ty (by decide +kernel), true, rfl, iteT ?_⟩
    refine ⟨_, rfl, .ref a, .ty "list", .type "list", .type "list", true, rfl, .ty _, ty_l hS, kit_ty (by decide +kernel), true, rfl, iteF ?_⟩
    refine ⟨_, rfl, a, xs, rfl, .inl hS, _, rfl, b, ys, rfl, .inl hT, rfl, _, rfl, iteNS (by rw [hl, hm]) ?_⟩
    refine ⟨_, rfl, b, ys, rfl, .inl hT, _, rfl, by omega, by omega, for_range (lo := 0) (n := ys.length) (fun i σ H' => H' = H ∧ ∃ o, σ = [some (.ref a), some (.ref b), o]) ⟨rfl, none, rfl⟩ ?_ ?_⟩
    · rintro i σ H' hi ⟨rfl, o, rfl⟩
      have e00 : (0 : Int) + (i : Int) = (i : Int) := Int.zero_add _
      rw [e00]
      obtain ⟨x, hxi⟩ := get_some (xs := xs) (i := i) (by omega)
      obtain ⟨y, hyi⟩ := get_some (xs := ys) (i := i) (by omega)
      exact ⟨_, rfl, _, rfl, a, xs, _, x, rfl, rfl, hS, atI_nat hxi, _, rfl, _, rfl, b, ys, _, y, rfl, rfl, hT, atI_nat hyi, x, y, f i, rfl, hx i x hxi, hy i y hyi, true, rfl, iteF ⟨rfl, _, rfl⟩⟩
    · rintro σ H' ⟨rfl, o, rfl⟩
      exact k
def spSameT (K : PySem.W.Frag) : Sp := fun vs H Q _ => ∃ (v u : V) (n m : Nat) (W : Nat → Nat → Rat), vs = [v, u] ∧ (n ≤ 1000 ∧ m ≤ 1000) ∧ IsTab K H v n (fun _ => m) W ∧ IsTab K H u n (fun _ => m) W ∧ Q (.bl true) H
theorem c_l_same4 (c : Ctx K mg) : CallOk P w K mg base 4 "_law_same" ["_law_found", "_law_due"] [] (spSameT K) := by
  refine c.mk1 44 44 (d := d_l_same) rfl rfl rfl fun fd F => ⟨⟨[], .nil, F.bindsN fun _ _ _ _ _ _ us hl => match us, hl with | [_, _], _ => rfl⟩, okN F sc_l_same (fun vs H Q E h => ?_) (fun cdv A outer s H vs Q E hr h => ?_)⟩
  · obtain ⟨v, u, n, m, W, rfl, _⟩ := h
    rfl
  · obtain ⟨v, u, n, m, W, rfl, hn, ⟨a, xs, rfl, hS, hl, hx⟩, ⟨b, ys, rfl, hT, hm, hy⟩, k⟩ := h
    refine ⟨_, (pss_cons (ps_if (pt_val (pe_callB (id := "isinstance") (call_isiK2 (K := K) rfl) (by rfl) (c.free 49) (by decide +kernel) (pa_cons (pv 1) (pa_cons (pe_bltn (v := .ty "bool") (by rfl) (c.free 51) (by decide +kernel) rfl) pa_nil)))) (pss_one (ps_ret (pe_and (pe_callB (id := "isinstance") (call_isiK2 (K := K) rfl) (by rfl) (c.free 49) (by decide +kernel) (pa_cons (pv 0) (pa_cons (pe_bltn (v := .ty "bool") (by rfl) (c.free 51) (by decide +kernel) rfl) pa_nil))) (pe_one (pe_cmpR op_eq (pv 0) (pv 1) (nomark _)))))) pss_nil)
      (pss_cons (ps_if (pt_cmpR op_isN (pv 1) pe_non (nomark _)) (pss_one (ps_ret (pe_cmpR op_isN (pv 0) pe_non (nomark _)))) pss_nil)
      (pss_cons (ps_if (pt_val (pe_callB (id := "isinstance") (call_isiK2 (K := K) rfl) (by rfl) (c.free 49) (by decide +kernel) (pa_cons (pv 1) (pa_cons (pe_bltn (v := .ty "int") (by rfl) (c.free 50) (by decide +kernel) rfl) pa_nil)))) (pss_one (ps_ret (pe_and (pe_callB (id := "isinstance") (call_isiK2 (K := K) rfl) (by rfl) (c.free 49) (by decide +kernel) (pa_cons (pv 0) (pa_cons (pe_bltn (v := .ty "int") (by rfl) (c.free 50) (by decide +kernel) rfl) pa_nil))) (pe_and (pe_not (pe_callB (id := "isinstance") (call_isiK2 (K := K) rfl) (by rfl) (c.free 49) (by decide +kernel) (pa_cons (pv 0) (pa_cons (pe_bltn (v := .ty "bool") (by rfl) (c.free 51) (by decide +kernel) rfl) pa_nil)))) (pe_one (pe_cmpR op_eq (pv 0) (pv 1) (nomark _))))))) pss_nil)
      (pss_cons (ps_if (pt_val (pe_callB (id := "isinstance") (call_isiK2 (K := K) rfl) (by rfl) (c.free 49) (by decide +kernel) (pa_cons (pv 1) (pa_cons (pe_bltn (v := .ty "str") (by rfl) (c.free 55) (by decide +kernel) rfl) pa_nil)))) (pss_one (ps_ret (pe_and (pe_callB (id := "isinstance") (call_isiK2 (K := K) rfl) (by rfl) (c.free 49) (by decide +kernel) (pa_cons (pv 0) (pa_cons (pe_bltn (v := .ty "str") (by rfl) (c.free 55) (by decide +kernel) rfl) pa_nil))) (pe_one (pe_cmpR op_eq (pv 0) (pv 1) (nomark _)))))) pss_nil)
      (pss_cons (ps_if (PW.pt (pw_and (pt_val (pe_callB (id := "isinstance") (call_isiK2 (K := K) rfl) (by rfl) (c.free 49) (by decide +kernel) (pa_cons (pv 1) (pa_cons (pe_bltn (v := .ty "tuple") (by rfl) (c.free 53) (by decide +kernel) rfl) pa_nil)))) (pw_and1 (pt_not (pt_val (pe_callB (id := "isinstance") (call_isiK2 (K := K) rfl) (by rfl) (c.free 49) (by decide +kernel) (pa_cons (pv 0) (pa_cons (pe_bltn (v := .ty "tuple") (by rfl) (c.free 53) (by decide +kernel) rfl) pa_nil)))))))) (pss_one (ps_ret pe_bl)) pss_nil)
      (pss_cons (ps_if (PW.pt (pw_and (pt_val (pe_callB (id := "isinstance") (call_isiK2 (K := K) rfl) (by rfl) (c.free 49) (by decide +kernel) (pa_cons (pv 1) (pa_cons (pe_bltn (v := .ty "list") (by rfl) (c.free 54) (by decide +kernel) rfl) pa_nil)))) (pw_and1 (pt_not (pt_val (pe_callB (id := "isinstance") (call_isiK2 (K := K) rfl) (by rfl) (c.free 49) (by decide +kernel) (pa_cons (pv 0) (pa_cons (pe_bltn (v := .ty "list") (by rfl) (c.free 54) (by decide +kernel) rfl) pa_nil)))))))) (pss_one (ps_ret pe_bl)) pss_nil)
      (pss_cons (ps_if (pt_cmpR op_ne (pe_callB (id := "len") (call_lenK (K := K) rfl) (by rfl) (c.free 56) (by decide +kernel) (pa_cons (pv 0) pa_nil)) (pe_callB (id := "len") (call_lenK (K := K) rfl) (by rfl) (c.free 56) (by decide +kernel) (pa_cons (pv 1) pa_nil)) (nomark _)) (pss_one (ps_ret pe_bl)) pss_nil)
      (pss_cons (ps_for PassesOwn.never rfl (pi_range1 rfl (c.free 57) (pa_cons (pe_callB (id := "len") (call_lenK (K := K) rfl) (by rfl) (c.free 56) (by decide +kernel) (pa_cons (pv 1) pa_nil)) pa_nil)) (pg_name (i := 2) sc_l_same.nd rfl (by first | exact Or.inl rfl | exact Or.inr rfl)) (pss_one (ps_if (pt_not (pt_val (pe_c (c_l_same3 c) (hr.mono (by decide)) rfl (pa_cons (pe_ix (ix_listK (K := K) rfl) (pv 0) (pv 2) (fun _ _ => rfl)) (pa_cons (pe_ix (ix_listK (K := K) rfl) (pv 1) (pv 2) (fun _ _ => rfl)) pa_nil))))) (pss_one (ps_ret pe_bl)) pss_nil)))
      (pss_one (ps_ret pe_bl)))))))))), ?_⟩
    refine ⟨_, rfl, .ref b, .ty "bool", .type "list", .type "bool", false, rfl, .ty _, ty_l hT, kit_ty (by decide +kernel), false, rfl, iteF ?_⟩
    refine ⟨_, rfl, rfl, _, rfl, ite_no (fun e => by cases e) ?_⟩
    refine ⟨_, rfl, .ref b, .ty "int", .type "list", .type "int", false, rfl, .ty _, ty_l hT, kit_ty (by decide +kernel), false, rfl, iteF ?_⟩
    refine ⟨_, rfl, .ref b, .ty "str", .type "list", .type "str", false, rfl, .ty _, ty_l hT, kit_ty (by decide +kernel), false, rfl, iteF ?_⟩
    refine ⟨_, rfl, .ref b, .ty "tuple", .type "list", .type "tuple", false, rfl, .ty _, ty_l hT, kit_ty (by decide +kernel), false, rfl, iteF (iteF ?_)⟩
    refine ⟨_, rfl, .ref b, .ty "list", .type "list", .type "list", true, rfl, .ty _, ty_l hT, kit_ty (by decide +kernel), true, rfl, iteT ?_⟩
    refine ⟨_, rfl, .ref a, .ty "list", .type "list", .type "list", true, rfl, .ty _, ty_l hS, kit_ty (by decide +kernel), true, rfl, iteF ?_⟩
    refine ⟨_, rfl, a, xs, rfl, .inl hS, _, rfl, b, ys, rfl, .inl hT, rfl, _, rfl, iteNS (by rw [hl, hm]) ?_⟩
    refine ⟨_, rfl, b, ys, rfl, .inl hT, _, rfl, by omega, by omega, for_range (lo := 0) (n := ys.length) (fun i σ H' => H' = H ∧ ∃ o, σ = [some (.ref a), some (.ref b), o]) ⟨rfl, none, rfl⟩ ?_ ?_⟩
    · rintro i σ H' hi ⟨rfl, o, rfl⟩
      have e00 : (0 : Int) + (i : Int) = (i : Int) := Int.zero_add _
      rw [e00]
      obtain ⟨x, hxi⟩ := get_some (xs := xs) (i := i) (by omega)
      obtain ⟨y, hyi⟩ := get_some (xs := ys) (i := i) (by omega)
      exact ⟨_, rfl, _, rfl, a, xs, _, x, rfl, rfl, hS, atI_nat hxi, _, rfl, _, rfl, b, ys, _, y, rfl, rfl, hT, atI_nat hyi, x, y, m, W i, rfl, hn.2, hx i x hxi, hy i y hyi, true, rfl, iteF ⟨rfl, _, rfl⟩⟩
    · rintro σ H' ⟨rfl, o, rfl⟩
      exact k
end
end K29
set_option Elab.async false
set_option linter.all false
set_option maxRecDepth 100000
set_option maxHeartbeats 4000000
namespace K29
open PySem PySem.Spec PyProof.Rows L2
section
variable {P : Program} {w : World} {K : PySem.W.Frag} {mg : Str → Option Value} {base : Heap}
/-! ### THE LAW -/
theorem joined_sc (q : Rat) (W : Nat → Nat → Rat) : (fun i j => W i j + sc q W i j) = sc (q + 1) W := funext fun i => funext fun j => by
  show W i j + q * W i j = (q + 1) * W i j
  rw [Rat.add_mul, Rat.one_mul, Rat.add_comm]
theorem joined_sc2 (q : Rat) (W : Nat → Nat → Rat) : (fun i j => sc q W i j + W i j) = sc (q + 1) W := funext fun i => funext fun j => by
  show q * W i j + W i j = (q + 1) * W i j
  rw [Rat.add_mul, Rat.one_mul]
theorem dev_sc2 (n d : Nat) (c : Rat) (W : Nat → Nat → Rat) (i j : Nat) : dev n d (sc c W) i j = dev n d W i j * c := by
  rw [dev_sc, Rat.mul_comm]
def spLaw (K : PySem.W.Frag) : Sp := fun vs H Q _ => ∃ (a : Addr) (ns : List Int), vs = [.ref a] ∧ SqL K H a (ns.map V.int) ∧ ns.length ≤ 63 ∧ ∀ H', Q (.bl true) H'
theorem sc_law : FnScope ["_law_script", "_law_flow_here", "_law_count", "_law_deep", "_law_rows_here", "_law_wedge", "_law_by", "_law_table", "_law_row", "_law_many", "_law_due", "_law_one", "_law_more"] ["_law_script"] (defScope s_law) := ⟨rfl, rfl, rfl, by decide +kernel, rfl, by decide +kernel, by decide +kernel⟩
theorem law_ok (c : Ctx K mg) {fd : FuncData} (FD : FunD K d_law.name d_law.qual d_law.params d_law.body d_law.scope (d_law.dvs K) (d_law.kws K) (He.fAd K d_law.at_) fd) : FnOk P w K mg base CX0 10 (He.fAd K d_law.at_) fd ["_law_script"] (spLaw K) := by
  refine okN FD sc_law (fun vs H Q E h => ?_) (fun cdv A outer s H vs Q E hr h => ?_)
  · obtain ⟨a, ns, rfl, _⟩ := h
    rfl
  · obtain ⟨a, ns, rfl, hS, hl, k⟩ := h
    refine ⟨_, (pss_cons (ps_set (i := 1) sc_law.nd rfl (by first | exact Or.inl rfl | exact Or.inr rfl) (pe_c (c_l_flow c) (hr.mono (by decide)) rfl (pa_cons (pv 0) pa_nil)))
      (pss_cons (ps_asg (pe_c (c_l_shape c) (hr.mono (by decide)) rfl (pa_cons (pv 1) pa_nil)) (pg_tupK (K := K) (n := 2) rfl rfl (pgs_cons (pg_name (i := 2) sc_law.nd rfl (by first | exact Or.inl rfl | exact Or.inr rfl)) (pgs_cons (pg_name (i := 3) sc_law.nd rfl (by first | exact Or.inl rfl | exact Or.inr rfl)) pgs_nil))))
      (pss_cons (ps_set (i := 4) sc_law.nd rfl (by first | exact Or.inl rfl | exact Or.inr rfl) (pe_c (c_l_sure c) (hr.mono (by decide)) rfl (pa_cons (pv 1) (pa_cons (pv 2) (pa_cons (pv 3) pa_nil)))))
      (pss_cons (ps_set (i := 5) sc_law.nd rfl (by first | exact Or.inl rfl | exact Or.inr rfl) (pe_mk (c_Winit c) (hr.mono (by decide)) rfl (c.glo 46) (pa_cons (pe_c (c_l_first c) (hr.mono (by decide)) rfl (pa_cons (pv 1) pa_nil)) (pa_cons (pv 3) (pa_cons (pe_c (c_l_copy c) (hr.mono (by decide)) rfl (pa_cons (pv 4) pa_nil)) pa_nil)))))
      (pss_mid (ps_set (i := 6) sc_law.nd rfl (by first | exact Or.inl rfl | exact Or.inr rfl) (pe_ix (ix_listK (K := K) rfl) (pe_lst (pa_cons (pe_tup (pa_cons pe_int (pa_cons pe_int pa_nil))) (pa_cons (pe_tup (pa_cons (pe_un un_neg pe_int) (pa_cons pe_int pa_nil))) (pa_cons (pe_tup (pa_cons pe_int (pa_cons pe_int pa_nil))) (pa_cons (pe_c (c_l_amount c) (hr.mono (by decide)) rfl (pa_cons (pv 1) (pa_cons pe_int pa_nil))) (pa_cons (pe_c (c_l_any_part c) (hr.mono (by decide)) rfl (pa_cons (pv 1) pa_nil)) pa_nil)))))) (pe_c (c_l_draw c) (hr.mono (by decide)) rfl (pa_cons (pv 1) (pa_cons pe_int pa_nil))) (fun _ _ => rfl)))
      (pss_cons (ps_set (i := 7) sc_law.nd rfl (by first | exact Or.inl rfl | exact Or.inr rfl) (pe_c (c_developed c) (hr.mono (by decide)) rfl (pa_cons (pv 5) pa_nil)))
      (pss_cons (ps_if (PW.pt (pw_or (pt_not (pt_val (pe_callB (id := "isinstance") (call_isiK2 (K := K) rfl) (by rfl) (c.free 49) (by decide +kernel) (pa_cons (pv 7) (pa_cons (pe_bltn (v := .ty "list") (by rfl) (c.free 54) (by decide +kernel) rfl) pa_nil))))) (pw_or1 (pt_cmpR op_ne (pe_callB (id := "len") (call_lenK (K := K) rfl) (by rfl) (c.free 56) (by decide +kernel) (pa_cons (pv 7) pa_nil)) (pv 2) (nomark _))))) (pss_one (ps_ret pe_bl)) pss_nil)
      (pss_cons (ps_for PassesOwn.never rfl (pi_listK (K := K) rfl (pv 7)) (pg_name (i := 8) sc_law.nd rfl (by first | exact Or.inl rfl | exact Or.inr rfl)) (pss_one (ps_if (pt_not (pt_val (pe_c (c_l_parts c) (hr.mono (by decide)) rfl (pa_cons (pv 8) (pa_cons (pe_op op_add (pv 3) pe_int) pa_nil))))) (pss_one (ps_ret pe_bl)) pss_nil)))
      (pss_cons (ps_set (i := 9) sc_law.nd rfl (by first | exact Or.inl rfl | exact Or.inr rfl) (pe_m (pv 5) (c.cls 62) (c_Wscaled c) (hr.mono (by decide)) (pa_cons (pv 6) pa_nil)))
      (pss_cons (ps_setLc (i := 10) (own := [("_law_row", 8)]) rfl sc_law.nd rfl rfl (sw_true rfl rfl rfl (by decide +kernel)) (pi_listK (K := K) rfl (pv 7)) (blkOk_by (by kernel_rfl)) (fun _ _ _ _ _ => (pg_name (i := 8) sc_law.nd rfl (by first | exact Or.inl rfl | exact Or.inr rfl))) (fun _ _ _ _ _ => pts_nil) (fun _ _ _ _ _ => (pe_lc (own := [("_law_one", 11)]) rfl sc_law.nd (pi_listK (K := K) rfl (pv 8)) (blkOk_by (by kernel_rfl)) (fun _ _ _ _ _ => (pg_name (i := 11) sc_law.nd rfl (by first | exact Or.inl rfl | exact Or.inr rfl))) (fun _ _ _ _ _ => pts_nil) (fun _ _ _ _ _ => (pe_c (c_l_mul c) (hr.mono (by decide)) rfl (pa_cons (pv 11) (pa_cons (pv 6) pa_nil)))))))
      (pss_cons (ps_if (pt_not (pt_val (pe_c (c_l_same4 c) (hr.mono (by decide)) rfl (pa_cons (pe_c (c_developed c) (hr.mono (by decide)) rfl (pa_cons (pv 9) pa_nil)) (pa_cons (pv 10) pa_nil))))) (pss_one (ps_ret pe_bl)) pss_nil)
      (pss_cons (ps_set (i := 12) sc_law.nd rfl (by first | exact Or.inl rfl | exact Or.inr rfl) (pe_c (c_l_add c) (hr.mono (by decide)) rfl (pa_cons (pv 6) (pa_cons (pe_tup (pa_cons pe_int (pa_cons pe_int pa_nil))) pa_nil))))
      (pss_cons (ps_setLc (i := 10) (own := [("_law_row", 8)]) rfl sc_law.nd rfl rfl (sw_true rfl rfl rfl (by decide +kernel)) (pi_listK (K := K) rfl (pv 7)) (blkOk_by (by kernel_rfl)) (fun _ _ _ _ _ => (pg_name (i := 8) sc_law.nd rfl (by first | exact Or.inl rfl | exact Or.inr rfl))) (fun _ _ _ _ _ => pts_nil) (fun _ _ _ _ _ => (pe_lc (own := [("_law_one", 11)]) rfl sc_law.nd (pi_listK (K := K) rfl (pv 8)) (blkOk_by (by kernel_rfl)) (fun _ _ _ _ _ => (pg_name (i := 11) sc_law.nd rfl (by first | exact Or.inl rfl | exact Or.inr rfl))) (fun _ _ _ _ _ => pts_nil) (fun _ _ _ _ _ => (pe_c (c_l_mul c) (hr.mono (by decide)) rfl (pa_cons (pv 11) (pa_cons (pv 12) pa_nil)))))))
      (pss_cons (ps_if (PW.pt (pw_or (pt_not (pt_val (pe_c (c_l_same4 c) (hr.mono (by decide)) rfl (pa_cons (pe_c (c_developed c) (hr.mono (by decide)) rfl (pa_cons (pe_m (pv 5) (c.cls 62) (c_Wjoined c) (hr.mono (by decide)) (pa_cons (pv 9) pa_nil)) pa_nil)) (pa_cons (pv 10) pa_nil))))) (pw_or1 (pt_not (pt_val (pe_c (c_l_same4 c) (hr.mono (by decide)) rfl (pa_cons (pe_c (c_developed c) (hr.mono (by decide)) rfl (pa_cons (pe_m (pv 9) (c.cls 62) (c_Wjoined c) (hr.mono (by decide)) (pa_cons (pv 5) pa_nil)) pa_nil)) (pa_cons (pv 10) pa_nil)))))))) (pss_one (ps_ret pe_bl)) pss_nil)
      (pss_one (ps_ret (pe_c (c_l_same4 c) (hr.mono (by decide)) rfl (pa_cons (pe_c (c_developed c) (hr.mono (by decide)) rfl (pa_cons (pv 5) pa_nil)) (pa_cons (pv 7) pa_nil))))))))))))))))))), ?_⟩
    refine ⟨_, rfl, a, ns, rfl, hS, hl, fun F H1 e1 _ f1 => ?_⟩
    refine ⟨_, rfl, F, rfl, f1, fun p n d H2 g2 n0 n10 d0 d6 hp => ?_⟩
    refine ⟨p, _, rfl, SqT.of hp, rfl, _, _, rfl, _, _, rfl, rfl, ?_⟩
    refine ⟨_, rfl, _, rfl, _, rfl, F, n, d, rfl, g2.fl1.at_, n10, d6, fun z H3 W g3 t3 good clr => ?_⟩
    refine ⟨_, rfl, F, rfl, g3.fl1.at_, fun yr H4 g4 y0 y1 => ?_⟩
    refine ⟨_, rfl, _, rfl, z, n, wd n d, W, rfl, by omega, t3.go g4, fun z2 H5 e5 t5 => ?_⟩
    have sh : Shape yr n d := ⟨y0, y1, d0, d6, n0, n10⟩
    intro wx0 wdx0 nx ndx ne
    have s0 : Same H5 (upd (upd H5 wdx0 (.own wx0)) wx0 (.ins (He.ga K "Wedge") wdx0 [])) := fun b o e => by
      rw [upd_ne (ne_of_none e nx), upd_ne (ne_of_none e ndx)]
      exact e
    refine ⟨wx0, wdx0, yr, n, d, z2, W, rfl, upd_same, y0, y1, d0, d6, n0, n10, t5.is.same s0, fun H6 kp w6 => ⟨rfl, ?_⟩⟩
    have e6 : Same H5 H6 := made_same nx ndx kp
    have f6 : FlowAt K H6 F := (g4.fl1.at_.same e5).same e6
    refine ⟨fun σ H' => ∃ bv q, σ = [some (.ref a), some (.ref F.f), some (.int n), some (.int d), some z, some (.ref wx0), some bv, none, none, none, none, none, none] ∧ Go K (some F) H6 H' ∧ IsP K H' bv q ∧ Sz 110 q, ?_, ?_⟩
    · refine ⟨(by show 2 ≤ sizeLine; decide), fun p1 h1 => ?_⟩
      have k1 := Go.new (K := K) (m := some F) (o := .tup [.int 0, .int 1]) (Fl.some f6) h1
      refine ⟨_, rfl, (by show 2 ≤ sizeLine; decide), fun p2 h2 => ?_⟩
      have k2 := Go.new (o := .tup [.int (-1), .int 1]) k1.fl1 h2
      refine ⟨(by show 2 ≤ sizeLine; decide), fun p3 h3 => ?_⟩
      have k3 := Go.new (o := .tup [.int 2, .int 1]) k2.fl1 h3
      refine ⟨_, rfl, F, 4, rfl, k3.fl1.at_, fun v4 q4 H7 k4 i4 c4 => ?_⟩
      refine ⟨_, rfl, F, rfl, k4.fl1.at_, fun v5 q5 H8 k5 i5 c5 => ?_⟩
      refine ⟨(by show 5 ≤ sizeLine; decide), fun l hl0 => ?_⟩
      have k6 := Go.new (o := .lst [.ref p1, .ref p2, .ref p3, v4, v5]) k5.fl1 hl0
      refine ⟨_, rfl, F, 5, rfl, k6.fl1.at_, by decide, by decide, fun j H9 a7 b7 k7 => ?_⟩
      have l9 : SqL K H9 l [.ref p1, .ref p2, .ref p3, v4, v5] := k7.lst (SqL.of upd_same) (not_flow k5.fl1 hl0)
      have g := (((((k1.trans k2).trans k3).trans k4).trans k5).trans k6).trans k7
      have i1 : IsP K H9 (.ref p1) 0 := IsP.go ((((((k2.trans k3).trans k4).trans k5).trans k6)).trans k7) ⟨p1, rfl, SqT.of upd_same⟩
      have i2 : IsP K H9 (.ref p2) (-1) := IsP.go (((((k3.trans k4).trans k5).trans k6)).trans k7) ⟨p2, rfl, SqT.of upd_same⟩
      have i3 : IsP K H9 (.ref p3) 2 := IsP.go ((((k4.trans k5).trans k6)).trans k7) ⟨p3, rfl, SqT.of upd_same⟩
      obtain ⟨v, e1, e2⟩ := at_draw (xs := [.ref p1, .ref p2, .ref p3, v4, v5]) (n := 5) rfl a7 b7
      refine ⟨l, _, j, v, rfl, rfl, l9, e2, ?_⟩
      have hj : j.toNat = 0 ∨ j.toNat = 1 ∨ j.toNat = 2 ∨ j.toNat = 3 ∨ j.toNat = 4 := by omega
      rcases hj with e | e | e | e | e <;> rw [e] at e1 <;> cases e1
      · exact ⟨_, 0, rfl, g, i1, sz_zero (by decide)⟩
      · exact ⟨_, -1, rfl, g, i2, (show (1 : Nat) < 2 ^ 110 by decide), (show (1 : Nat) < 2 ^ 110 by decide)⟩
      · exact ⟨_, 2, rfl, g, i3, (show (2 : Nat) < 2 ^ 110 by decide), (show (1 : Nat) < 2 ^ 110 by decide)⟩
      · exact ⟨_, q4, rfl, g, i4.go ((k5.trans k6).trans k7), Nat.lt_of_le_of_lt c4.top (by decide), Nat.lt_of_le_of_lt c4.bot (by decide)⟩
      · exact ⟨_, q5, rfl, g, i5.go (k6.trans k7), c5⟩
    · rintro σ H7 ⟨bv, q, rfl, g7, i7, s7⟩
      have w7 := w6.go g7
      have fine := good.fine1
      have hq : Sz 1000 q := s7.mono (by decide)
      have hq4 : Sz 4000 q := s7.mono (by decide)
      have hm : Sz 1000 (q + 1) := (s7.add (sz_one (n := 1) (by decide))).mono (by decide)
      have hm4 : Sz 4000 (q + 1) := hm.mono (by decide)
      have dsz : ∀ i j, i < n → j < d + 1 → Sz 4000 (dev n d W i j) := fun i j hi hj => fine.dvd i j hi (by omega)
      refine ⟨_, rfl, .ref wx0, yr, n, d, W, rfl, n10, d6, w7, fine, clr, fun tv H8 e8 t8 => ?_⟩
      obtain ⟨ta, xs, rfl, hT, hlt, hx⟩ := id t8
      refine ⟨_, rfl, .ref ta, .ty "list", .type "list", .type "list", true, rfl, .ty _, ty_l hT, kit_ty (by decide +kernel), true, rfl, iteF ?_⟩
      refine ⟨_, rfl, ta, xs, rfl, .inl hT, _, rfl, rfl, _, rfl, iteNS (by rw [hlt]) ?_⟩
      refine ⟨_, rfl, ta, rfl, ⟨_, hT⟩, for_list (K := K) (a := ta) (xs := xs) (fun i σ H' => Same H8 H' ∧ ∃ o, σ = [some (.ref a), some (.ref F.f), some (.int n), some (.int d), some z, some (.ref wx0), some bv, some (.ref ta), o, none, none, none, none])
        ⟨Same.refl _, none, rfl⟩ (fun i σ H' _ p => same_l p.1 hT) ?_ ?_⟩
      · rintro i y σ H' hi ⟨e, o, rfl⟩
        exact ⟨_, rfl, _, rfl, _, _, rfl, rfl, y, d + 1, _, dev n d W i, rfl, rfl, (hx i y hi).same e, fun j hj => dsz i j (lt_of_get hi hlt) hj, fun H2 e2 => ⟨true, rfl, iteF ⟨e.trans e2, _, rfl⟩⟩⟩
      rintro σ H9 ⟨e9, o, rfl⟩
      have e89 := e8.trans e9
      obtain ⟨wx, wdx, wln, ea, hwx, _⟩ := id w7
      cases ea
      refine ⟨_, rfl, wx0, wdx, _, rfl, e89 _ _ hwx, wf_no _ _ _ _ (by decide +kernel) (by decide +kernel) (by decide +kernel) (by decide +kernel), _, rfl, _, bv, yr, n, d, W, q, rfl, sh, w7.same e89, i7.same e89, hq4, fine.cell, fun mv H10 e10 w10 => ?_⟩
      have e810 := e9.trans e10
      have t10 := t8.same e810
      refine ⟨_, rfl, ta, rfl, ⟨_, same_l e810 hT⟩, fun D hD => ?_⟩
      refine lcT (K := K) (m := none) walk_list hD Fl.none (by omega) yat (fun _ => d + 1) (fun i j => dev n d W i j * q) (fun H' g => same_l (e810.trans g.toSame) hT) (fun i y H2 H3 zs hi g yy hD3 Qe kq => ⟨rfl, ?_⟩) (fun H11 g11 t11 => ?_)
      · obtain ⟨rfl, hy⟩ := yy
        have hin : i < n := lt_of_get hy hlt
        obtain ⟨b, rs, rfl, q1, q2, q3⟩ := (hx i y hy).same (e810.trans g.toSame)
        have q2 : rs.length = d + 1 := q2
        refine ⟨_, rfl, b, rfl, ⟨_, q1⟩, fun D2 hD2 => ?_⟩
        refine lcP (K := K) (m := none) walk_list hD2 Fl.none (by omega) yat (fun j => dev n d W i j * q) (fun H' g' => same_l g'.toSame q1) (fun j u H4 H5 hj g5 zz Qe2 kq2 => ⟨rfl, ?_⟩) (fun H4 g4 r4 => ?_)
        · obtain ⟨rfl, hu⟩ := zz
          refine ⟨_, rfl, _, rfl, u, bv, _, q, rfl, (q3 j u hu).same g5.toSame, i7.same (e89.trans (e10.trans (g.toSame.trans g5.toSame))), dsz i j hin (by omega), hq4, trivial, fun r H6 e6 p6 => kq2 r H6 (go_same e6) p6⟩
        · rw [q2] at r4
          refine kq _ _ g4 (fun z => ?_) r4
          have ez : D2 = D := V.ref.inj z
          rw [ez, hD3] at hD2
          cases hD2
      rw [hlt] at t11
      have e1011 := g11.toSame
      refine ⟨_, rfl, mv, yr, n, d, sc q W, rfl, n10, d6, w10.same e1011, good.fine hq, clear_sc clr, fun dv H12 e12 t12 => ?_⟩
      refine ⟨_, rfl, dv, .ref D, n, d + 1, fun i j => dev n d W i j * q, rfl, ⟨by omega, by omega⟩, t12.fn (fun i j _ _ => dev_sc2 n d q W i j), t11.same e12, true, rfl, iteF ?_⟩
      have e712 : Same H7 H12 := e89.trans (e10.trans (e1011.trans e12))
      refine ⟨_, rfl, (by show 2 ≤ sizeLine; decide), fun p9 hp9 => ?_⟩
      have e13 := same_new (o := .tup [.int 1, .int 1]) hp9
      refine ⟨bv, .ref p9, q, 1, rfl, i7.same (e712.trans e13), ⟨p9, rfl, SqT.of upd_same⟩, hq4, sz_one (by decide), trivial, fun mo H14 e14 i14 => ?_⟩
      have e814 : Same H8 H14 := e9.trans (e10.trans (e1011.trans (e12.trans (e13.trans e14))))
      refine ⟨_, rfl, ta, rfl, ⟨_, same_l e814 hT⟩, fun D3 hD3 => ?_⟩
      refine lcT (K := K) (m := none) walk_list hD3 Fl.none (by omega) yat (fun _ => d + 1) (fun i j => dev n d W i j * (q + 1)) (fun H' g => same_l (e814.trans g.toSame) hT) (fun i y H2 H3 zs hi g yy hD4 Qe kq => ⟨rfl, ?_⟩) (fun H15 g15 t15 => ?_)
      · obtain ⟨rfl, hy⟩ := yy
        have hin : i < n := lt_of_get hy hlt
        obtain ⟨b, rs, rfl, q1, q2, q3⟩ := (hx i y hy).same (e814.trans g.toSame)
        have q2 : rs.length = d + 1 := q2
        refine ⟨_, rfl, b, rfl, ⟨_, q1⟩, fun D2 hD2 => ?_⟩
        refine lcP (K := K) (m := none) walk_list hD2 Fl.none (by omega) yat (fun j => dev n d W i j * (q + 1)) (fun H' g' => same_l g'.toSame q1) (fun j u H4 H5 hj g5 zz Qe2 kq2 => ⟨rfl, ?_⟩) (fun H4 g4 r4 => ?_)
        · obtain ⟨rfl, hu⟩ := zz
          refine ⟨_, rfl, _, rfl, u, mo, _, q + 1, rfl, (q3 j u hu).same g5.toSame, i14.same (g.toSame.trans g5.toSame), dsz i j hin (by omega), hm4, trivial, fun r H6 e6 p6 => kq2 r H6 (go_same e6) p6⟩
        · rw [q2] at r4
          refine kq _ _ g4 (fun z => ?_) r4
          have ez : D2 = D3 := V.ref.inj z
          rw [ez, hD4] at hD2
          cases hD2
      rw [hlt] at t15
      have e1215 : Same H12 H15 := e13.trans (e14.trans g15.toSame)
      have e715 := e712.trans e1215
      have w15 := w7.same e715
      have m15 := w10.same (e1011.trans (e12.trans e1215))
      have fineq := good.fine hq
      have finem : Fine n d (sc (q + 1) W) := good.fine hm
      have clrm : Clear n d (sc (q + 1) W) := clear_sc clr
      obtain ⟨mx, mdx, mln, rfl, hmx, _⟩ := id m15
      refine ⟨_, rfl, wx0, wdx, _, rfl, e715 _ _ hwx, wf_no _ _ _ _ (by decide +kernel) (by decide +kernel) (by decide +kernel) (by decide +kernel), _, rfl, _, _, yr, n, d, W, sc q W, rfl, sh, w15, m15, fine.cell, fineq.cell, fun jv H16 e16 w16 => ?_⟩
      rw [joined_sc] at w16
      refine ⟨jv, yr, n, d, sc (q + 1) W, rfl, n10, d6, w16, finem, clrm, fun dv H17 e17 t17 => ?_⟩
      have e1517 := e16.trans e17
      refine ⟨_, rfl, dv, .ref D3, n, d + 1, fun i j => dev n d W i j * (q + 1), rfl, ⟨by omega, by omega⟩, t17.fn (fun i j _ _ => dev_sc2 n d (q + 1) W i j), t15.same e1517, true, rfl, iteF ?_⟩
      refine ⟨_, rfl, mx, mdx, _, rfl, e1517 _ _ hmx, wf_no _ _ _ _ (by decide +kernel) (by decide +kernel) (by decide +kernel) (by decide +kernel), _, rfl, _, _, yr, n, d, sc q W, W, rfl, sh, m15.same e1517, w15.same e1517, fineq.cell, fine.cell, fun jv2 H18 e18 w18 => ?_⟩
      rw [joined_sc2] at w18
      refine ⟨jv2, yr, n, d, sc (q + 1) W, rfl, n10, d6, w18, finem, clrm, fun dv2 H19 e19 t19 => ?_⟩
      have e1519 := e1517.trans (e18.trans e19)
      refine ⟨_, rfl, dv2, .ref D3, n, d + 1, fun i j => dev n d W i j * (q + 1), rfl, ⟨by omega, by omega⟩, t19.fn (fun i j _ _ => dev_sc2 n d (q + 1) W i j), t15.same e1519, true, rfl, iteF ?_⟩
      refine ⟨_, rfl, _, yr, n, d, W, rfl, n10, d6, w15.same e1519, fine, clr, fun dv3 H20 e20 t20 => ?_⟩
      refine ⟨_, rfl, dv3, .ref ta, n, d + 1, dev n d W, rfl, ⟨by omega, by omega⟩, t20, t8.same (e814.trans (g15.toSame.trans (e1519.trans e20))), ?_⟩
      exact k _
end
end K29
set_option Elab.async false
set_option linter.all false
set_option maxRecDepth 100000
set_option maxHeartbeats 0
namespace K29
open PySem PySem.Spec PyProof.Rows L2
theorem law_facts {P : Program} {w : World} {K : PySem.W.Frag} {h : Heap} {mg : Str → Option Value} {f : Addr} (X : K.In h) (G : h.Ns mainGlobals mg) (hfa : mg ("law" : Str) = some (.ref f)) (cs : He.SaysD fa fn K) (cx : ex K = true) :
    ∃ fd : FuncData, (∀ (s : Shared) (v : Value), BindsTo s fd ⟨[v], []⟩ [("_law_script", v)]) ∧ ∀ base : Heap, FnOk P w K mg base CX0 10 f fd ["_law_script"] (spLaw K) := by
  have c : Ctx K mg := ⟨cs, cx, h, X, G⟩
  obtain ⟨fd, F⟩ := cs.def_ 45 (d := d_law) rfl
  have e := hfa.symm.trans (c.glo 45 (x := "law") rfl)
  cases e
  have b := FunD.bindsA (ps := ["_law_script"]) F fun _ _ _ _ _ _ us hl => match us, hl with | [_], _ => rfl
  exact ⟨fd, fun s v => b s [v] rfl, fun base => law_ok c F⟩
end K29
open PySem PySem.W PySem.Calls PyProof.Rows
theorem PySem.Challenge.cw_lagwedge_k29_whole_tables_scale_holds : PySem.Challenge.rw_lagwedge_k29_whole_tables_scale.Holds := by
  w_on; o_law
  refine HandSHeadRun.head_any (r := K29.R) (q := K29.qv) (H := K29.hk) (ob := K29.ob) (M := 6000) (loose := K29.loose) (d := HandSHeadRun.topDef K29.R.prog 69) (kwd := []) K29.ob_eq
    (by kernel_rfl) (fun s => by kernel_rfl) K29.run (by kernel_rfl) (by kernel_rfl) (by kernel_rfl) (by rfl) (by first | assumption | decide +kernel) (by decide +kernel) ⟨rfl, rfl, rfl, rfl, rfl, by decide +kernel⟩ ?hw ?hc
  case hw => w_witness2
  case hc =>
    refine L2.walk_ofE (l := PySem.Challenge.rw_lagwedge_k29_whole_tables_scale) (n := 63) (k := 10) (x := "_law_script") (CX := L2.CX0) rfl (by decide) (by kernel_rfl) ⟨rfl, by decide, by decide⟩ ?F (fun _ _ _ _ z => z)
    intro w mg f h Y G hmg0
    obtain ⟨K, KX, cs, cx⟩ := Y
    have hmg : mg ("law" : PySem.Str) = some (.ref f) := by
      have e : (HandSHeadRun.topDef K29.R.prog 69).name = ("law" : PySem.Str) := by kernel_rfl
      rw [← e]
      exact hmg0
    obtain ⟨fd, hb, hF⟩ := K29.law_facts (P := (PySem.Challenge.rw_lagwedge_k29_whole_tables_scale).prog) (w := w) KX G hmg cs cx
    exact ⟨K, fd, K29.spLaw K, KX, hb, fun H a ns hl _ hS => ⟨a, ns, rfl, hS, hl, fun _ => rfl⟩, fun base _ _ => hF base⟩
