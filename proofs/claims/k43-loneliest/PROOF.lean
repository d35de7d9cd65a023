import PyProof.Rows.All
import Wide.All
import OpenK.AllK
import Wide.FinOn
import HandS.ForMost
import HandS.Zip
import HandS.Conv
import HandS.NoneIn
import HandS.Style
import HandS.Wide
import HandS.Codes
import PySem.Challenge.RW_rowecho_k43_whole_papers_show_the_loneli
set_option Elab.async false
set_option linter.all false
set_option maxRecDepth 100000
set_option maxHeartbeats 4000000
namespace Rw
/-! ### fractions -/
abbrev Frc := Int × Int
/-- the fraction in its lowest terms, the bottom above 0 -/
def madeM (t b : Int) : Frc := (t / (Int.gcd t b : Int), b / (Int.gcd t b : Int))
def lessM (f g : Frc) : Bool := decide (f.1 * g.2 < g.1 * f.2)
/-- a number of fewer than k bits -/
def Bd (k : Nat) (x : Int) : Prop := x.natAbs < 2 ^ k
/-- canonical, and of bounded size -/
structure Good (f : Frc) : Prop where
  pos : 0 < f.2
  cop : Int.gcd f.1 f.2 = 1
  b1 : Bd 1000 f.1
  b2 : Bd 1000 f.2
theorem Bd.mono {j k : Nat} {x : Int} (h : Bd j x) (e : j ≤ k) : Bd k x := Nat.lt_of_lt_of_le h (Nat.pow_le_pow_right (by decide) e)
theorem Bd.of_le {k : Nat} {x y : Int} (h : Bd k y) (e : x.natAbs ≤ y.natAbs) : Bd k x := Nat.lt_of_le_of_lt e h
theorem Bd.mul {j k : Nat} {x y : Int} (a : Bd j x) (b : Bd k y) : Bd (j + k) (x * y) := by
  show (x * y).natAbs < 2 ^ (j + k)
  rw [Int.natAbs_mul, Nat.pow_add]
  exact Nat.mul_lt_mul'' a b
theorem Bd.add {k : Nat} {x y : Int} (a : Bd k x) (b : Bd k y) : Bd (k + 1) (x + y) := by
  have a' : x.natAbs < 2 ^ k := a
  have b' : y.natAbs < 2 ^ k := b
  show (x + y).natAbs < 2 ^ (k + 1)
  rw [Nat.pow_succ]
  omega
theorem Bd.sub {k : Nat} {x y : Int} (a : Bd k x) (b : Bd k y) : Bd (k + 1) (x - y) := by
  have a' : x.natAbs < 2 ^ k := a
  have b' : y.natAbs < 2 ^ k := b
  show (x - y).natAbs < 2 ^ (k + 1)
  rw [Nat.pow_succ]
  omega
theorem Bd.neg {k : Nat} {x : Int} (a : Bd k x) : Bd k (-x) := by
  show (-x).natAbs < 2 ^ k
  rw [Int.natAbs_neg]
  exact a
theorem Bd.lit {k : Nat} {x : Int} {c : Nat} (h : x.natAbs ≤ c) (e : c < 2 ^ k) : Bd k x := Nat.lt_of_le_of_lt h e
theorem sum_le : ∀ (xs : List Int) (c : Nat), (∀ x ∈ xs, x.natAbs ≤ c) → xs.sum.natAbs ≤ xs.length * c
  | [], c, _ => by simp
  | x :: r, c, h => by
    have h1 := h x (List.mem_cons_self)
    have h2 := sum_le r c fun y hy => h y (List.mem_cons_of_mem _ hy)
    rw [List.sum_cons, List.length_cons, Nat.succ_mul]
    omega
theorem Bd.sum {k m : Nat} {xs : List Int} (h : ∀ x ∈ xs, Bd k x) (hm : xs.length ≤ 2 ^ m) : Bd (k + m) xs.sum := by
  have h1 := sum_le xs (2 ^ k - 1) fun x hx => by
    have z : x.natAbs < 2 ^ k := h x hx
    omega
  have h3 : xs.length * (2 ^ k - 1) ≤ 2 ^ m * (2 ^ k - 1) := Nat.mul_le_mul_right _ hm
  have h4 : 2 ^ m * (2 ^ k - 1) < 2 ^ m * 2 ^ k := Nat.mul_lt_mul_of_pos_left (by have := Nat.two_pow_pos k; omega) (Nat.two_pow_pos m)
  show xs.sum.natAbs < 2 ^ (k + m)
  rw [Nat.pow_add, Nat.mul_comm (2 ^ k)]
  omega

theorem gcd_pos {t b : Int} (h : 0 < b) : 0 < Int.gcd t b := Int.gcd_pos_of_ne_zero_right _ (by omega)
theorem ediv_abs_le (t : Int) (g : Int) (h : 0 < g) (d : g ∣ t) : (t / g).natAbs ≤ t.natAbs := by
  obtain ⟨c, rfl⟩ := d
  rw [Int.mul_ediv_cancel_left _ (by omega), Int.natAbs_mul]
  exact Nat.le_mul_of_pos_left _ (by omega)
theorem made_good {t b : Int} (h : 0 < b) (ht : Bd 1000 t) (hb : Bd 1000 b) : Good (madeM t b) := by
  have g := gcd_pos (t := t) h
  have gi : (0 : Int) < (Int.gcd t b : Int) := by omega
  have d1 : (Int.gcd t b : Int) ∣ t := Int.gcd_dvd_left t b
  have d2 : (Int.gcd t b : Int) ∣ b := Int.gcd_dvd_right t b
  refine ⟨?_, ?_, ht.of_le (ediv_abs_le _ _ gi d1), hb.of_le (ediv_abs_le _ _ gi d2)⟩
  · show 0 < b / (Int.gcd t b : Int)
    obtain ⟨c, e⟩ := d2
    have hc : 0 < c := by
      rcases Int.lt_or_le 0 c with q | q
      · exact q
      · exfalso
        have := Int.mul_nonneg (Int.le_of_lt gi) (show 0 ≤ -c by omega)
        rw [Int.mul_neg] at this
        omega
    rw [show b / (Int.gcd t b : Int) = c from by
      conv => lhs; lhs; rw [e]
      exact Int.mul_ediv_cancel_left _ (by omega)]
    exact hc
  · show Int.gcd (t / (Int.gcd t b : Int)) (b / (Int.gcd t b : Int)) = 1
    rw [Int.gcd_ediv d1 d2, Int.natAbs_natCast, Nat.div_self g]
theorem good01 : Good (0, 1) := ⟨by decide, by decide, Nat.two_pow_pos 1000, by show (1 : Int).natAbs < 2 ^ 1000; exact Nat.one_lt_two_pow (by decide)⟩
theorem good11 : Good (1, 1) := ⟨by decide, by decide, by show (1 : Int).natAbs < 2 ^ 1000; exact Nat.one_lt_two_pow (by decide), by show (1 : Int).natAbs < 2 ^ 1000; exact Nat.one_lt_two_pow (by decide)⟩

theorem dvd_cop {a b c : Int} (h : a ∣ b * c) (g : Int.gcd a c = 1) : a ∣ b := by
  rw [← Int.natAbs_dvd_natAbs] at h ⊢
  rw [Int.natAbs_mul] at h
  exact Nat.Coprime.dvd_of_dvd_mul_right (show Nat.gcd a.natAbs c.natAbs = 1 from g) h
theorem less_asymm {f g : Frc} (h : lessM f g = true) : lessM g f = false := by
  unfold lessM at *
  simp only [decide_eq_true_eq, decide_eq_false_iff_not] at *
  omega
theorem less_irrefl (f : Frc) : lessM f f = false := by
  unfold lessM
  simp
theorem less_trans {f g h : Frc} (pf : 0 < f.2) (pg : 0 < g.2) (ph : 0 < h.2) (a : lessM f g = true) (b : lessM g h = true) : lessM f h = true := by
  unfold lessM at *
  simp only [decide_eq_true_eq] at *
  obtain ⟨a1, a2⟩ := f
  obtain ⟨b1, b2⟩ := g
  obtain ⟨c1, c2⟩ := h
  simp only at *
  have h1 : a1 * b2 * c2 < b1 * a2 * c2 := Int.mul_lt_mul_of_pos_right a ph
  have h2 : b1 * c2 * a2 < c1 * b2 * a2 := Int.mul_lt_mul_of_pos_right b pf
  have e1 : b1 * a2 * c2 = b1 * c2 * a2 := Int.mul_right_comm _ _ _
  have e2 : a1 * b2 * c2 = (a1 * c2) * b2 := Int.mul_right_comm _ _ _
  have e3 : c1 * b2 * a2 = (c1 * a2) * b2 := Int.mul_right_comm _ _ _
  have h3 : (a1 * c2) * b2 < (c1 * a2) * b2 := by omega
  exact Int.lt_of_mul_lt_mul_right h3 (Int.le_of_lt pg)
theorem less_tri {f g : Frc} (a : Good f) (b : Good g) (h1 : lessM f g = false) (h2 : lessM g f = false) : f = g := by
  unfold lessM at *
  simp only [decide_eq_false_iff_not] at *
  obtain ⟨a1, a2⟩ := f
  obtain ⟨b1, b2⟩ := g
  obtain ⟨pa, ca, _, _⟩ := a
  obtain ⟨pb, cb, _, _⟩ := b
  simp only at *
  have e : a1 * b2 = b1 * a2 := by omega
  have d1 : a2 ∣ b2 := by
    have : a2 ∣ b2 * a1 := ⟨b1, by rw [Int.mul_comm b2 a1, e, Int.mul_comm]⟩
    exact dvd_cop this (by rw [Int.gcd_comm]; exact ca)
  have d2 : b2 ∣ a2 := by
    have : b2 ∣ a2 * b1 := ⟨a1, by rw [Int.mul_comm a2 b1, ← e, Int.mul_comm]⟩
    exact dvd_cop this (by rw [Int.gcd_comm]; exact cb)
  have eb : a2 = b2 := by
    have l1 := Int.le_of_dvd pb d1
    have l2 := Int.le_of_dvd pa d2
    omega
  subst eb
  have ea : a1 = b1 := Int.eq_of_mul_eq_mul_right (by omega) e
  rw [ea]
end Rw
namespace Rw
/-! ### how far -/
inductive Knd where
  | plain | moved | shape
  deriving DecidableEq
def sqs (xs : List Int) : List Int := xs.map fun x => x * x
def dif (xs ys : List Int) : List Int := List.zipWith (fun a b => a - b) xs ys
def sqd (xs ys : List Int) : List Int := List.zipWith (fun a b => (a - b) * (a - b)) xs ys
def prd (xs ys : List Int) : List Int := List.zipWith (fun a b => a * b) xs ys
def unev (xs : List Int) : Int := (xs.length : Int) * (sqs xs).sum - xs.sum * xs.sum
def iabs (i : Int) : Int := if i < 0 then -i else i
def both (xs ys : List Int) : Int := (xs.length : Int) * (prd xs ys).sum - xs.sum * ys.sum
def plainM (xs ys : List Int) : Frc := madeM (sqd xs ys).sum (xs.length : Int)
def movedM (xs ys : List Int) : Frc := madeM (unev (dif xs ys)) ((xs.length : Int) * (xs.length : Int))
def shapeM (xs ys : List Int) : Frc :=
  if unev xs = 0 ∨ unev ys = 0 then (if unev xs = unev ys then 0 else 1, 1)
  else madeM (unev xs * unev ys - both xs ys * iabs (both xs ys)) (unev xs * unev ys)
def farM : Knd → List Int → List Int → Frc
  | .plain => plainM
  | .moved => movedM
  | .shape => shapeM
theorem devs_eq (x : Int) : ∀ r : List Int, ((r.map fun y => (y - x) * (y - x)).sum : Int) = (sqs r).sum - 2 * x * r.sum + (r.length : Int) * (x * x)
  | [] => by simp [sqs]
  | y :: r => by
    have ih := devs_eq x r
    simp only [sqs, List.map_cons, List.sum_cons, List.length_cons, Int.natCast_add] at *
    rw [ih]
    grind
theorem devs_nn (x : Int) : ∀ r : List Int, 0 ≤ ((r.map fun y => (y - x) * (y - x)).sum : Int)
  | [] => by simp
  | y :: r => by
    have ih := devs_nn x r
    simp only [List.map_cons, List.sum_cons]
    have : 0 ≤ (y - x) * (y - x) := by
      rcases Int.le_total 0 (y - x) with h | h
      · exact Int.mul_nonneg h h
      · exact Int.mul_nonneg_of_nonpos_of_nonpos h h
    omega
theorem unev_nn : ∀ xs : List Int, 0 ≤ unev xs
  | [] => by simp [unev, sqs]
  | x :: r => by
    have ih := unev_nn r
    have e := devs_eq x r
    have n := devs_nn x r
    simp only [unev, sqs, List.map_cons, List.sum_cons, List.length_cons, Int.natCast_add] at *
    grind
structure Okl (L : Nat) (xs : List Int) : Prop where
  len : xs.length = L
  bd : ∀ x ∈ xs, Bd 40 x
theorem mem_zip {f : Int → Int → Int} : ∀ {xs ys : List Int} {z : Int}, z ∈ List.zipWith f xs ys → ∃ a ∈ xs, ∃ b ∈ ys, z = f a b
  | [], _, _, h => by simp at h
  | _ :: _, [], _, h => by simp at h
  | a :: r, b :: s, z, h => by
    rw [List.zipWith_cons_cons] at h
    rcases List.mem_cons.mp h with rfl | h
    · exact ⟨a, List.mem_cons_self, b, List.mem_cons_self, rfl⟩
    · obtain ⟨c, hc, d, hd, e⟩ := mem_zip h
      exact ⟨c, List.mem_cons_of_mem _ hc, d, List.mem_cons_of_mem _ hd, e⟩
theorem bd_len {n : Nat} (h : n ≤ 40) : Bd 6 (n : Int) := by
  show ((n : Int)).natAbs < 2 ^ 6
  omega
theorem bd_sqs {k : Nat} {xs : List Int} (h : ∀ x ∈ xs, Bd k x) : ∀ z ∈ sqs xs, Bd (k + k) z := fun z hz => by
  obtain ⟨x, hx, rfl⟩ := List.mem_map.mp hz
  exact (h x hx).mul (h x hx)
theorem bd_sum {k : Nat} {xs : List Int} (h : ∀ x ∈ xs, Bd k x) (hl : xs.length ≤ 40) : Bd (k + 6) xs.sum := Bd.sum h (Nat.le_trans hl (by decide))
theorem bd_unev {k : Nat} {xs : List Int} (h : ∀ x ∈ xs, Bd k x) (hl : xs.length ≤ 40) : Bd (k + k + 13) (unev xs) := by
  have a : Bd (6 + (k + k + 6)) ((xs.length : Int) * (sqs xs).sum) := (bd_len hl).mul (bd_sum (bd_sqs h) (by rw [sqs, List.length_map]; exact hl))
  have b : Bd ((k + 6) + (k + 6)) (xs.sum * xs.sum) := (bd_sum h hl).mul (bd_sum h hl)
  exact ((a.mono (show _ ≤ k + k + 12 by omega)).sub (b.mono (show _ ≤ k + k + 12 by omega))).mono (by omega)
theorem bd_dif {k : Nat} {xs ys : List Int} (h : ∀ x ∈ xs, Bd k x) (h' : ∀ x ∈ ys, Bd k x) : ∀ z ∈ dif xs ys, Bd (k + 1) z := fun z hz => by
  obtain ⟨a, ha, b, hb, rfl⟩ := mem_zip hz
  exact (h a ha).sub (h' b hb)
theorem bd_sqd {k : Nat} {xs ys : List Int} (h : ∀ x ∈ xs, Bd k x) (h' : ∀ x ∈ ys, Bd k x) : ∀ z ∈ sqd xs ys, Bd ((k + 1) + (k + 1)) z := fun z hz => by
  obtain ⟨a, ha, b, hb, rfl⟩ := mem_zip hz
  exact ((h a ha).sub (h' b hb)).mul ((h a ha).sub (h' b hb))
theorem bd_prd {k : Nat} {xs ys : List Int} (h : ∀ x ∈ xs, Bd k x) (h' : ∀ x ∈ ys, Bd k x) : ∀ z ∈ prd xs ys, Bd (k + k) z := fun z hz => by
  obtain ⟨a, ha, b, hb, rfl⟩ := mem_zip hz
  exact (h a ha).mul (h' b hb)
theorem zip_len {f : Int → Int → Int} {L : Nat} {xs ys : List Int} (h : xs.length = L) (h' : ys.length = L) : (List.zipWith f xs ys).length = L := by
  rw [List.length_zipWith, h, h', Nat.min_self]
theorem bd_both {L : Nat} {xs ys : List Int} (hx : Okl L xs) (hy : Okl L ys) (h40 : L ≤ 40) : Bd 93 (both xs ys) := by
  have a : Bd (6 + (40 + 40 + 6)) ((xs.length : Int) * (prd xs ys).sum) := (bd_len (by rw [hx.len]; exact h40)).mul (bd_sum (bd_prd hx.bd hy.bd) (by rw [prd, zip_len hx.len hy.len]; exact h40))
  have b : Bd ((40 + 6) + (40 + 6)) (xs.sum * ys.sum) := (bd_sum hx.bd (by rw [hx.len]; exact h40)).mul (bd_sum hy.bd (by rw [hy.len]; exact h40))
  have a' : Bd 92 ((xs.length : Int) * (prd xs ys).sum) := a.mono (by decide)
  have b' : Bd 92 (xs.sum * ys.sum) := b.mono (by decide)
  exact (a'.sub b').mono (by decide)
theorem bd_abs {k : Nat} {x : Int} (h : Bd k x) : Bd k (iabs x) := by
  unfold iabs
  split
  · exact h.neg
  · exact h
theorem far_good (k : Knd) {L : Nat} {xs ys : List Int} (hx : Okl L xs) (hy : Okl L ys) (h1 : 1 ≤ L) (h40 : L ≤ 40) : Good (farM k xs ys) := by
  have hxl : xs.length ≤ 40 := by rw [hx.len]; exact h40
  have hyl : ys.length ≤ 40 := by rw [hy.len]; exact h40
  have hxp : (0 : Int) < (xs.length : Int) := by rw [hx.len]; omega
  cases k with
  | plain =>
    exact made_good hxp ((bd_sum (bd_sqd hx.bd hy.bd) (by rw [sqd, zip_len hx.len hy.len]; exact h40)).mono (by decide)) ((bd_len hxl).mono (by decide))
  | moved =>
    exact made_good (Int.mul_pos hxp hxp) ((bd_unev (bd_dif hx.bd hy.bd) (by rw [dif, zip_len hx.len hy.len]; exact h40)).mono (by decide)) (((bd_len hxl).mul (bd_len hxl)).mono (by decide))
  | shape =>
    show Good (shapeM xs ys)
    unfold shapeM
    split
    · split
      · exact good01
      · exact good11
    · rename_i hn
      have f0 := unev_nn xs
      have s0 := unev_nn ys
      have f1 : 0 < unev xs := by
        rcases Int.lt_or_eq_of_le f0 with q | q
        · exact q
        · exact absurd (.inl q.symm) hn
      have s1 : 0 < unev ys := by
        rcases Int.lt_or_eq_of_le s0 with q | q
        · exact q
        · exact absurd (.inr q.symm) hn
      have bx : Bd 93 (unev xs) := (bd_unev hx.bd hxl).mono (by decide)
      have by_ : Bd 93 (unev ys) := (bd_unev hy.bd hyl).mono (by decide)
      have bo : Bd 93 (both xs ys) := bd_both hx hy h40
      have bp : Bd 186 (unev xs * unev ys) := (Bd.mul bx by_).mono (by decide)
      have bb : Bd 186 (both xs ys * iabs (both xs ys)) := (Bd.mul bo (bd_abs bo)).mono (by decide)
      exact made_good (Int.mul_pos f1 s1) ((Bd.sub bp bb).mono (by decide)) (bp.mono (by decide))
/-! ### stretches -/
def strM (ns : List Int) (L : Nat) : List (List Int) := (List.range (ns.length + 1 - L)).map fun p => (ns.drop p).take L
theorem strM_len (ns : List Int) (L : Nat) : (strM ns L).length = ns.length + 1 - L := by
  unfold strM
  rw [List.length_map, List.length_range]
theorem strM_get {ns : List Int} {L p : Nat} (h : p < ns.length + 1 - L) : (strM ns L)[p]? = some ((ns.drop p).take L) := by
  unfold strM
  rw [List.getElem?_map, List.getElem?_range h]
  rfl
theorem strM_ok {ns : List Int} {L : Nat} (hb : ∀ x ∈ ns, Bd 40 x) : ∀ xs ∈ strM ns L, Okl L xs := fun xs hxs => by
  obtain ⟨p, hp, rfl⟩ := List.mem_map.mp hxs
  have hp' := List.mem_range.mp hp
  refine ⟨?_, fun x hx => hb x (List.mem_of_mem_drop (List.mem_of_mem_take hx))⟩
  rw [List.length_take, List.length_drop]
  omega
/-! ### the nearest, the table, the loneliest -/
def apt (g p q : Nat) : Prop := p + g ≤ q ∨ q + g ≤ p
instance (g p q : Nat) : Decidable (apt g p q) := inferInstanceAs (Decidable (_ ∨ _))
def bestNear (F : Nat → Nat → Frc) (p q : Nat) : Option (Frc × Nat) → Option (Frc × Nat)
  | none => some (F p q, q)
  | some b => if lessM (F p q) b.1 = true then some (F p q, q) else some b
def nearUp (F : Nat → Nat → Frc) (g p : Nat) : Nat → Option (Frc × Nat)
  | 0 => none
  | q + 1 => if apt g p q then bestNear F p q (nearUp F g p q) else nearUp F g p q
theorem nearUp_some {F : Nat → Nat → Frc} {g p : Nat} : ∀ {n : Nat} {f : Frc} {q : Nat}, nearUp F g p n = some (f, q) → q < n ∧ apt g p q ∧ f = F p q
  | 0, f, q, h => by cases h
  | n + 1, f, q, h => by
    unfold nearUp at h
    split at h
    · rename_i ha
      cases e : nearUp F g p n with
      | none =>
        rw [e] at h
        cases h
        exact ⟨Nat.lt_succ_self _, ha, rfl⟩
      | some b =>
        rw [e] at h
        have h : (if lessM (F p n) b.1 = true then some (F p n, n) else some b) = some (f, q) := h
        split at h
        · cases h
          exact ⟨Nat.lt_succ_self _, ha, rfl⟩
        · cases h
          obtain ⟨a, b, c⟩ := nearUp_some e
          exact ⟨Nat.lt_succ_of_lt a, b, c⟩
    · obtain ⟨a, b, c⟩ := nearUp_some h
      exact ⟨Nat.lt_succ_of_lt a, b, c⟩
theorem nearUp_none {F : Nat → Nat → Frc} {g p : Nat} : ∀ {n : Nat}, nearUp F g p n = none → ∀ q, q < n → ¬ apt g p q
  | 0, h, q, hq => absurd hq (Nat.not_lt_zero _)
  | n + 1, h, q, hq => by
    unfold nearUp at h
    split at h
    · cases e : nearUp F g p n with
      | none =>
        rw [e] at h
        cases h
      | some b =>
        rw [e] at h
        have h : (if lessM (F p n) b.1 = true then some (F p n, n) else some b) = none := h
        split at h <;> cases h
    · rename_i ha
      by_cases e : q = n
      · rw [e]
        exact ha
      · exact nearUp_none h q (by omega)
abbrev Rows := List (Option (Frc × Nat))
def rowsM (F : Nat → Nat → Frc) (g n : Nat) : Rows := (List.range n).map fun p => nearUp F g p n
theorem rowsM_len (F : Nat → Nat → Frc) (g n : Nat) : (rowsM F g n).length = n := by
  unfold rowsM
  rw [List.length_map, List.length_range]
theorem rowsM_get {F : Nat → Nat → Frc} {g n p : Nat} (h : p < n) : (rowsM F g n)[p]? = some (nearUp F g p n) := by
  unfold rowsM
  rw [List.getElem?_map, List.getElem?_range h]
  rfl
def bestLone (f : Frc) (i q : Nat) : Option (Frc × Nat × Nat) → Option (Frc × Nat × Nat)
  | none => some (f, i, q)
  | some b => if lessM b.1 f = true then some (f, i, q) else some b
def loneUp (rows : Rows) : Nat → Option (Frc × Nat × Nat)
  | 0 => none
  | i + 1 => match rows[i]? with
    | some (some (f, q)) => bestLone f i q (loneUp rows i)
    | _ => loneUp rows i
def okM (rows : Rows) (f : Frc) (p k : Nat) : Bool := match rows[k]? with
  | some (some (f', _)) => lessM f' f || (decide (f' = f) && decide (p < k))
  | _ => true
def showsM (rows : Rows) : Option (Frc × Nat × Nat) → Bool
  | none => rows.all Option.isNone
  | some (f, p, _) => ((List.range rows.length).filter fun k => !decide (k = p)).all fun k => okM rows f p k
structure Lone (rows : Rows) (i : Nat) (f : Frc) (p q : Nat) : Prop where
  lt : p < i
  at_ : rows[p]? = some (some (f, q))
  all : ∀ k f' q', k < i → k ≠ p → rows[k]? = some (some (f', q')) → lessM f' f = true ∨ (f' = f ∧ p < k)
theorem loneUp_none {rows : Rows} : ∀ {i : Nat}, loneUp rows i = none → ∀ k f q, k < i → rows[k]? ≠ some (some (f, q))
  | 0, _, k, f, q, hk => absurd hk (Nat.not_lt_zero _)
  | i + 1, h, k, f, q, hk => fun e => by
    unfold loneUp at h
    split at h
    · cases q : loneUp rows i with
      | none => rw [q] at h; cases h
      | some b =>
        rw [q] at h
        rename_i f q _ _ _
        have h : (if lessM b.1 _ = true then _ else some b) = none := h
        split at h <;> cases h
    · rename_i hn
      by_cases ek : k = i
      · subst ek
        exact hn _ _ e
      · exact loneUp_none h k f q (by omega) e
theorem loneUp_some {rows : Rows} (G : ∀ (k : Nat) (f : Frc) (q : Nat), rows[k]? = some (some (f, q)) → Good f) : ∀ {i : Nat} {f : Frc} {p q : Nat}, loneUp rows i = some (f, p, q) → Lone rows i f p q
  | 0, _, _, _, h => by cases h
  | i + 1, f, p, q, h => by
    unfold loneUp at h
    split at h
    · rename_i f1 q1 h1
      have g1 := G _ _ _ h1
      cases e : loneUp rows i with
      | none =>
        rw [e] at h
        cases h
        refine ⟨Nat.lt_succ_self _, h1, fun k f' q' hk hn hr => absurd hr (loneUp_none e k f' q' (by omega))⟩
      | some b =>
        rw [e] at h
        obtain ⟨f0, p0, q0⟩ := b
        have L := loneUp_some G e
        have g0 := G _ _ _ L.at_
        have h : (if lessM f0 f1 = true then some (f1, i, q1) else some (f0, p0, q0)) = some (f, p, q) := h
        split at h
        · rename_i hl
          cases h
          refine ⟨Nat.lt_succ_self _, h1, fun k f' q' hk hn hr => .inl ?_⟩
          by_cases ek : k = p0
          · subst ek
            rw [L.at_] at hr
            cases hr
            exact hl
          · rcases L.all k f' q' (by omega) ek hr with z | ⟨z, _⟩
            · exact less_trans (G _ _ _ hr).pos g0.pos g1.pos z hl
            · rw [z]
              exact hl
        · rename_i hl
          cases h
          refine ⟨Nat.lt_succ_of_lt L.lt, L.at_, fun k f' q' hk hn hr => ?_⟩
          by_cases ek : k = i
          · subst ek
            rw [h1] at hr
            cases hr
            cases z : lessM f1 f with
            | true => exact .inl rfl
            | false => exact .inr ⟨less_tri g1 g0 z (by simpa using hl), L.lt⟩
          · exact L.all k f' q' (by omega) hn hr
    · rename_i hn
      have L := loneUp_some G h
      refine ⟨Nat.lt_succ_of_lt L.lt, L.at_, fun k f' q' hk hne hr => ?_⟩
      by_cases ek : k = i
      · subst ek
        exact absurd hr (hn _ _)
      · exact L.all k f' q' (by omega) hne hr
theorem Lone.uniq {rows : Rows} {i : Nat} {f f' : Frc} {p p' q q' : Nat} (a : Lone rows i f p q) (b : Lone rows i f' p' q') : (f, p, q) = (f', p', q') := by
  by_cases e : p = p'
  · subst e
    have := a.at_.symm.trans b.at_
    cases this
    rfl
  · exfalso
    rcases a.all p' f' q' b.lt (fun z => e z.symm) b.at_ with x | ⟨x, x'⟩
    · rcases b.all p f q a.lt e a.at_ with y | ⟨y, y'⟩
      · rw [less_asymm x] at y
        cases y
      · rw [y, less_irrefl] at x
        cases x
    · rcases b.all p f q a.lt e a.at_ with y | ⟨y, y'⟩
      · rw [x, less_irrefl] at y
        cases y
      · omega
theorem shows_lone_iff {rows : Rows} {f : Frc} {p q : Nat} (h : rows[p]? = some (some (f, q))) : showsM rows (some (f, p, q)) = true ↔ Lone rows rows.length f p q := by
  unfold showsM
  rw [List.all_eq_true]
  constructor
  · intro a
    refine ⟨(List.getElem?_eq_some_iff.mp h).1, h, fun k f' q' hk hn hr => ?_⟩
    have z := a k (List.mem_filter.mpr ⟨List.mem_range.mpr hk, by simp [hn]⟩)
    unfold okM at z
    rw [hr] at z
    simp only [Bool.or_eq_true, Bool.and_eq_true, decide_eq_true_eq] at z
    exact z
  · intro L k hk
    obtain ⟨h1, h2⟩ := List.mem_filter.mp hk
    have hn : k ≠ p := by simpa using h2
    unfold okM
    split
    · rename_i f' q' hr
      simp only [Bool.or_eq_true, Bool.and_eq_true, decide_eq_true_eq]
      exact L.all k f' q' (List.mem_range.mp h1) hn hr
    · rfl
theorem all_none_of {rows : Rows} (h : loneUp rows rows.length = none) : rows.all Option.isNone = true := by
  rw [List.all_eq_true]
  intro o ho
  obtain ⟨k, hk, e⟩ := List.getElem_of_mem ho
  cases o with
  | none => rfl
  | some b =>
    obtain ⟨f, q⟩ := b
    exact absurd (by rw [List.getElem?_eq_getElem hk, e]) (loneUp_none h k f q hk)
theorem shows_the_lone {rows : Rows} (G : ∀ (k : Nat) (f : Frc) (q : Nat), rows[k]? = some (some (f, q)) → Good f) : showsM rows (loneUp rows rows.length) = true := by
  cases e : loneUp rows rows.length with
  | none => exact all_none_of e
  | some b =>
    obtain ⟨f, p, q⟩ := b
    have L := loneUp_some G e
    exact (shows_lone_iff L.at_).mpr L
theorem shows_just {rows : Rows} (G : ∀ (k : Nat) (f : Frc) (q : Nat), rows[k]? = some (some (f, q)) → Good f) {f : Frc} {p q : Nat} (h : rows[p]? = some (some (f, q))) :
    showsM rows (some (f, p, q)) = decide (some (f, p, q) = loneUp rows rows.length) := by
  rw [Bool.eq_iff_iff, shows_lone_iff h, decide_eq_true_eq]
  constructor
  · intro L
    cases e : loneUp rows rows.length with
    | none => exact absurd h (loneUp_none e p f q L.lt)
    | some b =>
      obtain ⟨f', p', q'⟩ := b
      rw [L.uniq (loneUp_some G e)]
  · intro e
    exact loneUp_some G e.symm
end Rw
/-! The text by places, the defs as they stand behind the top, what stands at an address. -/
namespace Rw
open PySem PySem.Spec PyProof.Rows L2
def topS (i : Nat) : Stmt := PySem.Challenge.pw_rowecho_k43_whole_papers_show_the_loneli.main.body.getD i (.Pass ⟨0, 0, 0, 0⟩)
abbrev sDivisor : Stmt := topS 6
abbrev sMade : Stmt := topS 7
abbrev sLess : Stmt := topS 8
abbrev sMKind : Stmt := topS 13
abbrev sMGap : Stmt := topS 14
abbrev sMLen : Stmt := topS 15
abbrev sCount : Stmt := topS 16
abbrev sStretch : Stmt := topS 17
abbrev sUneven : Stmt := topS 18
abbrev sPlain : Stmt := topS 19
abbrev sMoved : Stmt := topS 20
abbrev sShape : Stmt := topS 21
abbrev sFarTold : Stmt := topS 22
abbrev sStretches : Stmt := topS 23
abbrev sMAsk : Stmt := topS 24
abbrev sNearest : Stmt := topS 26
abbrev sTableOf : Stmt := topS 27
abbrev sTable : Stmt := topS 28
abbrev sLonelyOf : Stmt := topS 30
abbrev sLonely : Stmt := topS 31
abbrev sApart : Stmt := topS 33
abbrev sPaper : Stmt := topS 34
abbrev sEnough : Stmt := topS 35
abbrev sShows : Stmt := topS 36
abbrev sPurse : Stmt := topS 38
abbrev sTake : Stmt := topS 39
abbrev sRow : Stmt := topS 41
abbrev sAsked : Stmt := topS 42
abbrev sLaw : Stmt := topS 45
/-- a def of the top, as it stands behind it -/
structure DA (K : PySem.W.Frag) (mg : Str → Option Value) (x : Str) (st : Stmt) (ps : List Str) where
  f : Addr
  fd : FuncData
  fn : Fun K x x st f fd
  b : Binds K fd ps []
  g : mg x = some (.ref f)
def nm : Knd → Str
  | .plain => "plain"
  | .moved => "moved"
  | .shape => "shape"
structure Txt (K : PySem.W.Frag) (mg : Str → Option Value) where
  divisor : DA K mg "divisor" sDivisor ["one", "other"]
  made : DA K mg "made" sMade ["top", "bottom"]
  less : DA K mg "is_less" sLess ["one", "other"]
  mKind : DA K mg "must_kind" sMKind ["kind"]
  mGap : DA K mg "must_gap" sMGap ["gap"]
  mLen : DA K mg "must_length" sMLen ["length"]
  count : DA K mg "count_of" sCount ["row", "length"]
  stretch : DA K mg "stretch" sStretch ["row", "length", "place"]
  uneven : DA K mg "uneven" sUneven ["numbers"]
  plain : DA K mg "plain_far" sPlain ["one", "other"]
  moved : DA K mg "moved_far" sMoved ["one", "other"]
  shape : DA K mg "shape_far" sShape ["one", "other"]
  farTold : DA K mg "far_told" sFarTold ["kind", "one", "other"]
  stretches : DA K mg "stretches" sStretches ["row", "length"]
  mAsk : DA K mg "must_ask" sMAsk ["kind", "gap", "length"]
  nearest : DA K mg "nearest_of" sNearest ["some", "kind", "gap", "place"]
  tableOf : DA K mg "table_of" sTableOf ["some", "kind", "gap"]
  table : DA K mg "table" sTable ["row", "kind", "gap", "length"]
  lonelyOf : DA K mg "lonely_of" sLonelyOf ["rows", "free"]
  lonely : DA K mg "lonely" sLonely ["row", "kind", "gap", "length"]
  apart : DA K mg "two_apart" sApart ["some", "gap"]
  paper : DA K mg "lonely_paper" sPaper ["row", "kind", "gap", "length"]
  enough : DA K mg "near_enough" sEnough ["some", "kind", "gap", "best", "p", "q"]
  shows_ : DA K mg "shows_lonely" sShows ["row", "kind", "gap", "length", "told"]
  purse : DA K mg "_law_purse" sPurse ["_law_script"]
  take : DA K mg "_law_take" sTake ["_law_purse_here", "_law_many"]
  row : DA K mg "_law_row" sRow ["_law_purse_here", "_law_most"]
  asked : DA K mg "_law_asked" sAsked ["_law_purse_here", "_law_most"]
  kinds : Addr
  gKinds : mg "KINDS" = some (.ref kinds)
  tKinds : ∀ H : Hp, SqT K H kinds [.str "plain", .str "moved", .str "shape"]
  gGap : ∃ t, mg "MOST_GAP" = some (.int 200 t)
  gLen : ∃ t, mg "MOST_LENGTH" = some (.int 40 t)
  abs : mg "abs" = none
  len : mg "len" = none
  max : mg "max" = none
  min : mg "min" = none
  sum : mg "sum" = none
  zip : mg "zip" = none
  int : mg "int" = none
  range : mg "range" = none
  enumerate : mg "enumerate" = none
  all : mg "all" = none
  list : mg "list" = none
/-! ### what stands at an address -/
def FrAt (H : Hp) (v : V) (f : Frc) : Prop := ∃ p, v = .ref p ∧ H p = some (.tup [.int f.1, .int f.2])
def RowAt (H : Hp) (v : V) : Option (Frc × Nat) → Prop
  | none => v = .non
  | some (f, q) => ∃ r vf, v = .ref r ∧ H r = some (.tup [vf, .int (q : Nat)]) ∧ FrAt H vf f
def BestAt (H : Hp) (v : V) : Option (Frc × Nat × Nat) → Prop
  | none => v = .non
  | some (f, p, q) => ∃ r vf, v = .ref r ∧ H r = some (.tup [vf, .int (p : Nat), .int (q : Nat)]) ∧ FrAt H vf f
structure RowsAt (H : Hp) (vs : List V) (rows : Rows) : Prop where
  len : vs.length = rows.length
  at_ : ∀ (i : Nat) v r, vs[i]? = some v → rows[i]? = some r → RowAt H v r
structure StsAt (H : Hp) (as : List Addr) (ss : List (List Int)) : Prop where
  len : as.length = ss.length
  at_ : ∀ (i : Nat) x xs, as[i]? = some x → ss[i]? = some xs → H x = some (.lst (xs.map V.int))
theorem FrAt.same {H H' : Hp} {v : V} {f : Frc} (h : FrAt H v f) (s : Same H H') : FrAt H' v f := by
  obtain ⟨p, e, h⟩ := h
  exact ⟨p, e, s _ _ h⟩
theorem RowAt.same {H H' : Hp} {v : V} {r : Option (Frc × Nat)} (h : RowAt H v r) (s : Same H H') : RowAt H' v r := by
  cases r with
  | none => exact h
  | some b =>
    obtain ⟨f, q⟩ := b
    obtain ⟨r, vf, e, h, hf⟩ := h
    exact ⟨r, vf, e, s _ _ h, hf.same s⟩
theorem BestAt.same {H H' : Hp} {v : V} {r : Option (Frc × Nat × Nat)} (h : BestAt H v r) (s : Same H H') : BestAt H' v r := by
  cases r with
  | none => exact h
  | some b =>
    obtain ⟨f, p, q⟩ := b
    obtain ⟨r, vf, e, h, hf⟩ := h
    exact ⟨r, vf, e, s _ _ h, hf.same s⟩
theorem RowsAt.same {H H' : Hp} {vs : List V} {rows : Rows} (h : RowsAt H vs rows) (s : Same H H') : RowsAt H' vs rows :=
  ⟨h.len, fun i v r a b => (h.at_ i v r a b).same s⟩
theorem StsAt.same {H H' : Hp} {as : List Addr} {ss : List (List Int)} (h : StsAt H as ss) (s : Same H H') : StsAt H' as ss :=
  ⟨h.len, fun i v r a b => s _ _ (h.at_ i v r a b)⟩
end Rw
namespace L2
open PySem PySem.Spec PyProof.Rows
theorem same_upd {H : Hp} {p : Addr} {o : HO} (h : H p = none) : Same H (upd H p o) := fun b x e => by
  rw [upd_ne (ne_of_none e h)]
  exact e
/-- a new object behind the heap H0 -/
theorem Same.new {H0 H : Hp} {p : Addr} {o : HO} (s : Same H0 H) (h : H p = none) : Same H0 (upd H p o) := s.trans (same_upd h)
/-- an object that is none of H0's changes -/
theorem Same.chg {H0 H : Hp} {p : Addr} {o : HO} (s : Same H0 H) (h : H0 p = none) : Same H0 (upd H p o) := fun b x e => by
  rw [upd_ne (ne_of_none e h)]
  exact s b x e
end L2
namespace Rw
open PySem PySem.Spec PyProof.Rows L2
theorem ne_upd {H : Hp} {a b : Addr} {o u : HO} (h : H a = some u) (n : H b = none) : upd H b o a = some u := by
  rw [upd_ne (ne_of_none h n)]
  exact h
theorem seq_of {K : PySem.W.Frag} {H : Hp} {a : Addr} {xs : List V} (h : H a = some (.lst xs)) : SqL K H a xs := .inl (.inl h)
theorem set_of {K : PySem.W.Frag} {H : Hp} {a : Addr} {xs : List V} (h : H a = some (.tup xs)) : SqT K H a xs := .inl (.inl h)
section
variable {X : Cx}
/-- a call of a def of the top -/
theorem pcall {x : Str} {st : Stmt} {ps : List Str} {k : Nat} {sp : Sp} {p pos : Pos} {e : Expr} {es : List Expr} {t : TA} (D : DA X.K X.mg x st ps) (F : FnOk X.prog X.w X.K X.mg X.base CX0 k D.f D.fd ps sp) (hr : Room k X.A) (ha : PA X (e :: es) t)
    (hg : Gl X x := by rfl) (hdb : (x == ("__debug__" : Str)) = false := by decide) (he : starEach (e :: es) X.env = (false, eval e X.env) :: starEach es X.env := by rfl) (hpl : (backTo pos (starEach es X.env)).any (·.1) = false := by rfl) :
    PE X (.Call (.Name x p) (e :: es) [] pos) (tCall sp [] E0 t) :=
  pe_call F hr hg D.g D.fn.kp D.b .nil pass0 ha hdb he hpl
end
end Rw
namespace Rw
open PySem PySem.Spec PyProof.Rows L2
section
variable {P : Program} {w : World} {K : PySem.W.Frag} {mg : Str → Option Value} {base : Heap}
/-! ### divisor -/
def spDivisor : Sp := fun vs H Q _ => ∃ a b : Int, vs = [.int a, .int b] ∧ Q (.int (Int.gcd a b : Nat)) H
theorem scDivisor : FnScope ["one", "other"] ["one", "other"] (defScope sDivisor) := ⟨rfl, rfl, rfl, by decide +kernel, rfl, by decide +kernel, by decide +kernel⟩
theorem abs_nat (a : Int) : (if a < 0 then -a else a) = (a.natAbs : Int) := by
  split <;> omega
theorem ok_divisor (T : Txt K mg) : FnOk P w K mg base CX0 1 T.divisor.f T.divisor.fd ["one", "other"] spDivisor := by
  refine T.divisor.fn.ok scDivisor (fun vs H Q E h => ?_) (fun cdv A outer s H vs Q E hr h => ?_)
  · obtain ⟨a, b, rfl, _⟩ := h
    rfl
  · obtain ⟨a, b, rfl, q⟩ := h
    refine ⟨_, pss_cons (ps_set (i := 0) scDivisor.nd rfl (.inl rfl) (pe_callB call_abs (by rfl) T.abs (by decide +kernel) (pa_cons (pv 0) pa_nil)))
      (pss_cons (ps_set (i := 1) scDivisor.nd rfl (.inl rfl) (pe_callB call_abs (by rfl) T.abs (by decide +kernel) (pa_cons (pv 1) pa_nil)))
      (pss_cons (ps_while PassesOwn.never (pt_cmpR op_gt (pv 1) pe_int (nomark _))
        (pss_one (ps_par (i := 0) (j := 1) (by rfl) scDivisor.nd rfl rfl (by decide) rfl rfl (pa_cons (pv 1) (pa_cons (pe_op op_mod (pv 0) (pv 1)) pa_nil)) (by rfl))))
      (pss_one (ps_ret (pv 0))))), ?_⟩
    refine ⟨_, rfl, _, rfl, ?_⟩
    refine ⟨_, rfl, _, rfl, ?_⟩
    refine ⟨fun m σ H' => ∃ x : Nat, σ = [some (.int (x : Nat)), some (.int (m : Nat))] ∧ H' = H ∧ Nat.gcd x m = Int.gcd a b, ⟨b.natAbs, a.natAbs, ?_, rfl, rfl⟩, fun m σ H' hW => ?_⟩
    · rw [abs_nat, abs_nat]
      rfl
    · obtain ⟨x, rfl, rfl, e⟩ := hW
      refine ⟨_, rfl, _, _, rfl, rfl, _, rfl, ?_⟩
      refine ite2 (fun h => ?_) (fun h => ?_)
      · have hm : 0 < m := by
          have h := of_decide_eq_true h
          omega
        refine ⟨fun σ' H2 => ∃ x' m' : Nat, σ' = [some (.int (x' : Nat)), some (.int (m' : Nat))] ∧ H2 = H' ∧ Nat.gcd x' m' = Int.gcd a b ∧ m' < m, fun σ' H2 hN => ?_, ?_⟩
        · obtain ⟨x', m', e1, e2, e3, hl⟩ := hN
          exact ⟨m', hl, x', e1, e2, e3⟩
        · refine ⟨_, rfl, _, rfl, _, rfl, _, _, rfl, rfl, (by show (0 : Int) < (m : Nat); omega), _, _, rfl, ?_⟩
          refine ⟨m, x % m, ?_, rfl, ?_, Nat.mod_lt _ hm⟩
          · show [some (V.int (m : Nat)), some (V.int ((x : Int) % (m : Int)))] = _
            rw [Int.natCast_emod]
          · rw [Nat.gcd_comm, ← Nat.gcd_rec, Nat.gcd_comm]
            exact e
      · have hm : m = 0 := by
          have h : ¬ ((0 : Int) < (m : Nat)) := fun z => h (decide_eq_true z)
          omega
        subst hm
        rw [Nat.gcd_zero_right] at e
        subst e
        exact ⟨_, rfl, q⟩
/-! ### made -/
def spMade : Sp := fun vs H Q _ => ∃ t b : Int, vs = [.int t, .int b] ∧ 0 < b ∧ Bd 1000 b ∧ ∀ p, H p = none → Q (.ref p) (upd H p (.tup [.int (madeM t b).1, .int (madeM t b).2]))
theorem scMade : FnScope ["top", "bottom", "by"] ["top", "bottom"] (defScope sMade) := ⟨rfl, rfl, rfl, by decide +kernel, rfl, by decide +kernel, by decide +kernel⟩
theorem ok_made (T : Txt K mg) : FnOk P w K mg base CX0 2 T.made.f T.made.fd ["top", "bottom"] spMade := by
  refine T.made.fn.ok scMade (fun vs H Q E h => ?_) (fun cdv A outer s H vs Q E hr h => ?_)
  · obtain ⟨a, b, rfl, _⟩ := h
    rfl
  · obtain ⟨t, b, rfl, hb, hB, q⟩ := h
    refine ⟨_, pss_cons (ps_set (i := 2) scMade.nd rfl (.inl rfl) (pcall T.divisor (ok_divisor T) hr (pa_cons (pv 0) (pa_cons (pv 1) pa_nil))))
      (pss_cons (ps_if (pt_cmpR op_lt (pv 1) pe_int (nomark _)) (pss_one (ps_set (i := 2) scMade.nd rfl (.inl rfl) (pe_un un_neg (pv 2)))) pss_nil)
      (pss_one (ps_ret (pe_tup (pa_cons (pe_op op_fdivW (pv 0) (pv 2)) (pa_cons (pe_op op_fdivW (pv 1) (pv 2)) pa_nil)))))), ?_⟩
    refine ⟨_, rfl, _, rfl, t, b, rfl, ?_⟩
    refine ⟨_, rfl, _, _, rfl, rfl, _, rfl, ?_⟩
    refine ite2 (fun h => absurd (of_decide_eq_true h) (by omega)) (fun _ => ?_)
    have g := gcd_pos (t := t) hb
    have gd : Bd 1000 ((Int.gcd t b : Nat) : Int) := hB.of_le (by
      have := Nat.le_of_dvd (by omega) (Int.gcd_dvd_natAbs_right t b)
      omega)
    have cd : CDivW t ((Int.gcd t b : Nat) : Int) := wide_div (by omega) gd (by decide) (by decide)
    have cd2 : CDivW b ((Int.gcd t b : Nat) : Int) := wide_div (by omega) gd (by decide) (by decide)
    refine ⟨_, rfl, _, rfl, _, _, rfl, rfl, cd, ?_⟩
    refine ⟨_, rfl, _, rfl, _, _, rfl, rfl, cd2, (by show 2 ≤ sizeLine; decide), fun p hp => ?_⟩
    exact q p hp
/-! ### is_less -/
def spLess : Sp := fun vs H Q _ => ∃ (v u : V) (f g : Frc), vs = [v, u] ∧ FrAt H v f ∧ FrAt H u g ∧ Good f ∧ Good g ∧ Q (.bl (lessM f g)) H
theorem scLess : FnScope ["one", "other"] ["one", "other"] (defScope sLess) := ⟨rfl, rfl, rfl, by decide +kernel, rfl, by decide +kernel, by decide +kernel⟩
theorem ok_less (T : Txt K mg) : FnOk P w K mg base CX0 1 T.less.f T.less.fd ["one", "other"] spLess := by
  refine T.less.fn.ok scLess (fun vs H Q E h => ?_) (fun cdv A outer s H vs Q E hr h => ?_)
  · obtain ⟨a, b, f, g, rfl, _⟩ := h
    rfl
  · obtain ⟨v, u, f, g, rfl, ⟨p, rfl, hf⟩, ⟨r, rfl, hg⟩, gf, gg, q⟩ := h
    refine ⟨_, pss_one (ps_ret (pe_cmpR op_lt (pe_op op_mulW (pe_ix ix_tup (pv 0) pe_int (fun _ _ => rfl)) (pe_ix ix_tup (pv 1) pe_int (fun _ _ => rfl)))
      (pe_op op_mulW (pe_ix ix_tup (pv 1) pe_int (fun _ _ => rfl)) (pe_ix ix_tup (pv 0) pe_int (fun _ _ => rfl))) (nomark _))), ?_⟩
    have c1 : CMulW f.1 g.2 := wide_mul gf.b1 gg.b2 (by decide) (by decide) (by decide)
    have c2 : CMulW g.1 f.2 := wide_mul gg.b1 gf.b2 (by decide) (by decide) (by decide)
    refine ⟨_, rfl, p, _, _, _, rfl, rfl, set_of hf, atI_nat (j := 0) rfl, ?_⟩
    refine ⟨_, rfl, r, _, _, _, rfl, rfl, set_of hg, atI_nat (j := 1) rfl, _, _, rfl, rfl, c1, ?_⟩
    refine ⟨_, rfl, r, _, _, _, rfl, rfl, set_of hg, atI_nat (j := 0) rfl, ?_⟩
    refine ⟨_, rfl, p, _, _, _, rfl, rfl, set_of hf, atI_nat (j := 1) rfl, _, _, rfl, rfl, c2, _, _, rfl, rfl, ?_⟩
    exact q
/-! ### what is asked -/
def spMKind : Sp := fun vs H Q _ => ∃ k : Knd, vs = [.str (nm k)] ∧ Q .non H
theorem scMKind : FnScope ["kind"] ["kind"] (defScope sMKind) := ⟨rfl, rfl, rfl, by decide +kernel, rfl, by decide +kernel, by decide +kernel⟩
theorem in_kinds (k : Knd) : inV (.str (nm k)) [.str "plain", .str "moved", .str "shape"] = true := by
  cases k <;> decide +kernel
theorem ok_mKind (T : Txt K mg) : FnOk P w K mg base CX0 1 T.mKind.f T.mKind.fd ["kind"] spMKind := by
  refine T.mKind.fn.ok scMKind (fun vs H Q E h => ?_) (fun cdv A outer s H vs Q E hr h => ?_)
  · obtain ⟨k, rfl, _⟩ := h
    rfl
  · obtain ⟨k, rfl, q⟩ := h
    refine ⟨_, pss_one (ps_if (pt_cmpR op_notIn_seq (pv 0) (pe_glob (v := .ref T.kinds) (by rfl) T.gKinds rfl) (by rfl)) (pss_one ps_never) pss_nil), ?_⟩
    refine ⟨_, rfl, T.kinds, _, rfl, .inr (T.tKinds H), rfl, rfl, _, rfl, ?_⟩
    rw [in_kinds]
    exact iteF q
def spMGap : Sp := fun vs H Q _ => ∃ g : Nat, vs = [.int (g : Nat)] ∧ 1 ≤ g ∧ g ≤ 200 ∧ Q .non H
theorem scMGap : FnScope ["gap"] ["gap"] (defScope sMGap) := ⟨rfl, rfl, rfl, by decide +kernel, rfl, by decide +kernel, by decide +kernel⟩
theorem ok_mGap (T : Txt K mg) : FnOk P w K mg base CX0 1 T.mGap.f T.mGap.fd ["gap"] spMGap := by
  refine T.mGap.fn.ok scMGap (fun vs H Q E h => ?_) (fun cdv A outer s H vs Q E hr h => ?_)
  · obtain ⟨k, rfl, _⟩ := h
    rfl
  · obtain ⟨g, rfl, h1, h2, q⟩ := h
    obtain ⟨t, hg⟩ := T.gGap
    refine ⟨_, pss_one (ps_if (pt_not (pt_chain op_le op_le pe_int (pv 0) (pe_glob (v := .int 200) (by rfl) hg ⟨_, rfl⟩))) (pss_one ps_never) pss_nil), ?_⟩
    refine ⟨_, rfl, _, _, rfl, rfl, _, rfl, ?_⟩
    rw [decide_eq_true (show (1 : Int) ≤ (g : Nat) by omega)]
    refine iteT ⟨_, _, rfl, rfl, _, rfl, ?_⟩
    rw [decide_eq_true (show ((g : Nat) : Int) ≤ 200 by omega)]
    exact iteF q
def spMLen : Sp := fun vs H Q _ => ∃ g : Nat, vs = [.int (g : Nat)] ∧ 1 ≤ g ∧ g ≤ 40 ∧ Q .non H
theorem scMLen : FnScope ["length"] ["length"] (defScope sMLen) := ⟨rfl, rfl, rfl, by decide +kernel, rfl, by decide +kernel, by decide +kernel⟩
theorem ok_mLen (T : Txt K mg) : FnOk P w K mg base CX0 1 T.mLen.f T.mLen.fd ["length"] spMLen := by
  refine T.mLen.fn.ok scMLen (fun vs H Q E h => ?_) (fun cdv A outer s H vs Q E hr h => ?_)
  · obtain ⟨k, rfl, _⟩ := h
    rfl
  · obtain ⟨g, rfl, h1, h2, q⟩ := h
    obtain ⟨t, hg⟩ := T.gLen
    refine ⟨_, pss_one (ps_if (pt_not (pt_chain op_le op_le pe_int (pv 0) (pe_glob (v := .int 40) (by rfl) hg ⟨_, rfl⟩))) (pss_one ps_never) pss_nil), ?_⟩
    refine ⟨_, rfl, _, _, rfl, rfl, _, rfl, ?_⟩
    rw [decide_eq_true (show (1 : Int) ≤ (g : Nat) by omega)]
    refine iteT ⟨_, _, rfl, rfl, _, rfl, ?_⟩
    rw [decide_eq_true (show ((g : Nat) : Int) ≤ 40 by omega)]
    exact iteF q
def spMAsk : Sp := fun vs H Q _ => ∃ (k : Knd) (g L : Nat), vs = [.str (nm k), .int (g : Nat), .int (L : Nat)] ∧ 1 ≤ g ∧ g ≤ 200 ∧ 1 ≤ L ∧ L ≤ 40 ∧ Q .non H
theorem scMAsk : FnScope ["kind", "gap", "length"] ["kind", "gap", "length"] (defScope sMAsk) := ⟨rfl, rfl, rfl, by decide +kernel, rfl, by decide +kernel, by decide +kernel⟩
theorem ok_mAsk (T : Txt K mg) : FnOk P w K mg base CX0 2 T.mAsk.f T.mAsk.fd ["kind", "gap", "length"] spMAsk := by
  refine T.mAsk.fn.ok scMAsk (fun vs H Q E h => ?_) (fun cdv A outer s H vs Q E hr h => ?_)
  · obtain ⟨k, g, L, rfl, _⟩ := h
    rfl
  · obtain ⟨k, g, L, rfl, h1, h2, h3, h4, q⟩ := h
    refine ⟨_, pss_cons (ps_expr (pcall T.mKind (ok_mKind T) hr (pa_cons (pv 0) pa_nil))) (pss_cons (ps_expr (pcall T.mGap (ok_mGap T) hr (pa_cons (pv 1) pa_nil)))
      (pss_one (ps_expr (pcall T.mLen (ok_mLen T) hr (pa_cons (pv 2) pa_nil))))), ?_⟩
    refine ⟨_, rfl, k, rfl, ?_⟩
    refine ⟨_, rfl, g, rfl, h1, h2, ?_⟩
    exact ⟨_, rfl, L, rfl, h3, h4, q⟩
end
end Rw
namespace Rw
open PySem PySem.Spec PyProof.Rows L2
/-! ### comprehensions of ints -/
theorem map_take_succ {xs : List Int} {i : Nat} {z : Int} (h : xs[i]? = some z) : (xs.take (i + 1)).map V.int = (xs.take i).map V.int ++ [V.int z] := by
  rw [List.take_add_one, h, List.map_append]
  rfl
theorem small_take {xs : List Int} {i : Nat} (h : xs.length ≤ 1000) : ((xs.take i).map V.int).length < sizeLine := by
  rw [List.length_map, List.length_take]
  exact small1000 (Nat.le_trans (Nat.min_le_right _ _) h)
theorem zip_get {f : Int → Int → Int} {xs ys : List Int} {i : Nat} {x y : Int} (hx : xs[i]? = some x) (hy : ys[i]? = some y) : (List.zipWith f xs ys)[i]? = some (f x y) := by
  rw [List.getElem?_zipWith, hx, hy]
theorem map_get {xs : List Int} {i : Nat} {v : V} (h : (xs.map V.int)[i]? = some v) : ∃ x, v = .int x ∧ xs[i]? = some x := by
  rw [List.getElem?_map] at h
  cases e : xs[i]? with
  | none =>
    rw [e] at h
    cases h
  | some x =>
    rw [e] at h
    exact ⟨x, (Option.some.inj h).symm, rfl⟩
theorem lc_listI {K : PySem.W.Frag} {a D : Addr} {xs : List Int} {te : TE} {vs : List Nat} {σ : L2.St} {H1 : Hp} {Qd : Hp → Prop} {i : Nat} (f : Int → Int) (hD : H1 D = none) (ha : H1 a = some (.lst (xs.map V.int))) (hz : xs.length ≤ 1000)
    (hw : ∀ x, wipe ((wipe σ vs).set i (some x)) vs = wipe σ vs) (he : ∀ (x : Int) (H3 : Hp) (Q : VK), x ∈ xs → Q (.int (f x)) H3 → te ((wipe σ vs).set i (some (.int x))) H3 Q)
    (hd : ∀ H, Same H1 H → H D = some (.lst ((xs.map f).map V.int)) → Qd H) :
    ∃ W : Nat → Nat → Hp → Prop, (∃ m, W 0 m (upd H1 D (.lst []))) ∧ ∀ k m H, W k m H →
      ((Itl K a).stop k H ∧ Qd H) ∨ ((Itl K a).go k H ∧ ∃ Nx : Hp → Prop, (∀ H', Nx H' → ∃ m', m' < m ∧ W (k + 1) m' H') ∧ ∀ x H', (Itl K a).yld k H x H' → gName i x (wipe σ vs) H' fun σ2 H2 => wipe σ2 vs = wipe σ vs ∧ tYes σ2 H2 fun b H3 =>
        if b = true then te σ2 H3 fun y H4 => ∃ acc, H4 D = some (.lst acc) ∧ acc.length < sizeLine ∧ Nx (upd H4 D (.lst (acc ++ [y]))) else Nx H3) := by
  refine lc_list (K := K) (a := a) (xs := xs.map V.int) (fun k H => Same H1 H ∧ H D = some (.lst (((xs.map f).take k).map V.int))) ⟨same_upd hD, upd_same⟩ (fun k H _ h => seq_of (h.1 _ _ ha)) (fun k v H hk h => ?_) (fun H h => ?_)
  · obtain ⟨x, rfl, hx⟩ := map_get hk
    refine ⟨hw _, he x H _ (List.mem_of_getElem? hx) ⟨_, h.2, small_take (by rw [List.length_map]; exact hz), h.1.chg hD, ?_⟩⟩
    rw [upd_same, map_take_succ (z := f x) (by rw [List.getElem?_map, hx]; rfl)]
  · refine hd H h.1 ?_
    have e : (xs.map f).take (xs.map V.int).length = xs.map f := List.take_of_length_le (by rw [List.length_map, List.length_map]; exact Nat.le_refl _)
    rw [← e]
    exact h.2
theorem lc_zipI {K : PySem.W.Frag} {a b D : Addr} {xs ys : List Int} {te : TE} {vs : List Nat} {σ : L2.St} {H1 : Hp} {Qd : Hp → Prop} {i j : Nat} (f : Int → Int → Int) (hD : H1 D = none) (ha : H1 a = some (.lst (xs.map V.int))) (hb : H1 b = some (.lst (ys.map V.int)))
    (hl : xs.length = ys.length) (hz : xs.length ≤ 1000)
    (hw : ∀ x y, wipe (((wipe σ vs).set i (some x)).set j (some y)) vs = wipe σ vs) (he : ∀ (x y : Int) (H3 : Hp) (Q : VK), x ∈ xs → y ∈ ys → Q (.int (f x y)) H3 → te (((wipe σ vs).set i (some (.int x))).set j (some (.int y))) H3 Q)
    (hd : ∀ H, Same H1 H → H D = some (.lst ((List.zipWith f xs ys).map V.int)) → Qd H) :
    ∃ W : Nat → Nat → Hp → Prop, (∃ m, W 0 m (upd H1 D (.lst []))) ∧ ∀ k m H, W k m H →
      ((Itz K a b).stop k H ∧ Qd H) ∨ ((Itz K a b).go k H ∧ ∃ Nx : Hp → Prop, (∀ H', Nx H' → ∃ m', m' < m ∧ W (k + 1) m' H') ∧ ∀ x H', (Itz K a b).yld k H x H' → gTup K 2 (gCons (gName i) (gCons (gName j) gNil)) x (wipe σ vs) H' fun σ2 H2 => wipe σ2 vs = wipe σ vs ∧ tYes σ2 H2 fun b H3 =>
        if b = true then te σ2 H3 fun y H4 => ∃ acc, H4 D = some (.lst acc) ∧ acc.length < sizeLine ∧ Nx (upd H4 D (.lst (acc ++ [y]))) else Nx H3) := by
  have zl : (List.zipWith f xs ys).length = xs.length := zip_len rfl hl.symm
  refine ⟨fun k m H => m = xs.length - k ∧ k ≤ xs.length ∧ Same H1 H ∧ H D = some (.lst (((List.zipWith f xs ys).take k).map V.int)), ⟨xs.length, rfl, Nat.zero_le _, same_upd hD, upd_same⟩, ?_⟩
  rintro k m H ⟨rfl, hk, s, h⟩
  have qx : SqL K H a (xs.map V.int) := seq_of (s _ _ ha)
  have qy : SqL K H b (ys.map V.int) := seq_of (s _ _ hb)
  by_cases hlt : k < xs.length
  · have hx : xs[k]? = some xs[k] := List.getElem?_eq_getElem hlt
    have hlt2 : k < ys.length := by omega
    have hy : ys[k]? = some ys[k] := List.getElem?_eq_getElem hlt2
    have hx' : (xs.map V.int)[k]? = some (.int xs[k]) := by rw [List.getElem?_map, hx]; rfl
    have hy' : (ys.map V.int)[k]? = some (.int ys[k]) := by rw [List.getElem?_map, hy]; rfl
    refine .inr ⟨⟨_, _, _, _, qx, qy, hx', hy'⟩, fun H' => Same H1 H' ∧ H' D = some (.lst (((List.zipWith f xs ys).take (k + 1)).map V.int)), fun H' p' => ⟨xs.length - (k + 1), by omega, rfl, hlt, p'⟩, fun v H' y => ?_⟩
    obtain ⟨T, x', y', rfl, hT, rfl, f1, f2⟩ := y
    have e1 : x' = .int xs[k] := Option.some.inj ((f1 _ qx).symm.trans hx')
    have e2 : y' = .int ys[k] := Option.some.inj ((f2 _ qy).symm.trans hy')
    subst e1 e2
    refine ⟨T, _, rfl, set_of upd_same, rfl, _, _, rfl, _, _, rfl, rfl, hw _ _, he _ _ _ _ (List.mem_of_getElem? hx) (List.mem_of_getElem? hy) ⟨_, ne_upd h hT, small_take (by rw [zl]; exact hz), (s.new hT).chg hD, ?_⟩⟩
    rw [upd_same, map_take_succ (zip_get hx hy)]
  · have e : k = xs.length := by omega
    subst e
    refine .inl ⟨⟨_, _, qx, qy, Or.inl (by rw [List.length_map]; exact Nat.le_refl _)⟩, hd H s ?_⟩
    rw [List.take_of_length_le (by rw [zl]; exact Nat.le_refl _)] at h
    exact h
theorem bd64 {x : Int} {k : Nat} (h : Bd k x) (e : k ≤ 60) : -(2 ^ 64) < x ∧ x < 2 ^ 64 := by
  have h' : x.natAbs < 2 ^ 60 := h.mono e
  omega
theorem mulw {x y : Int} {j k : Nat} (a : Bd j x) (b : Bd k y) (hj : j ≤ 1000) (hk : k ≤ 1000) : CMulW x y := wide_mul (a.mono hj) (b.mono hk) (by decide) (by decide) (by decide)
section
variable {P : Program} {w : World} {K : PySem.W.Frag} {mg : Str → Option Value} {base : Heap}
/-! ### uneven -/
def spUneven : Sp := fun vs H Q _ => ∃ (a : Addr) (xs : List Int), vs = [.ref a] ∧ H a = some (.lst (xs.map V.int)) ∧ (∀ x ∈ xs, Bd 41 x) ∧ xs.length ≤ 40 ∧ ∀ H', Same H H' → Q (.int (unev xs)) H'
theorem scUneven : FnScope ["numbers", "total", "number"] ["numbers"] (defScope sUneven) := ⟨rfl, rfl, rfl, by decide +kernel, rfl, by decide +kernel, by decide +kernel⟩
theorem ok_uneven (T : Txt K mg) : FnOk P w K mg base CX0 1 T.uneven.f T.uneven.fd ["numbers"] spUneven := by
  refine T.uneven.fn.ok scUneven (fun vs H Q E h => ?_) (fun cdv A outer s H vs Q E hr h => ?_)
  · obtain ⟨a, xs, rfl, _⟩ := h
    rfl
  · obtain ⟨a, xs, rfl, ha, hb, hl, q⟩ := h
    refine ⟨_, pss_cons (ps_set (i := 1) scUneven.nd rfl (.inl rfl) (pe_callB (cr_sum rfl) (by rfl) T.sum (by decide +kernel) (pa_cons (pv 0) pa_nil)))
      (pss_one (ps_ret (pe_op op_sub (pe_op op_mulW (pe_callB call_len_seq (by rfl) T.len PySem.boot_len (pa_cons (pv 0) pa_nil))
          (pe_callB (cr_sum rfl) (by rfl) T.sum (by decide +kernel) (pa_cons
            (pe_lc (own := [("number", 2)]) (g := gName 2) (tt := tYes) rfl scUneven.nd (pi_list (pv 0)) (blkOk_by (own := [("number", 2)]) (N := ["numbers", "total", "number"]) (sc := defScope sUneven) (by decide +kernel))
              (fun _ _ _ _ _ => pg_name (i := 2) scUneven.nd rfl (Or.inl rfl)) (fun _ _ _ _ _ => pts_nil) (fun _ _ _ _ _ => pe_op op_mul (pv 2) (pv 2))) pa_nil)))
        (pe_op op_mulW (pv 1) (pv 1))))), ?_⟩
    refine ⟨_, rfl, a, xs, rfl, seq_of ha, ?_⟩
    refine ⟨_, rfl, a, _, rfl, .inl (seq_of ha), ?_⟩
    refine ⟨_, rfl, a, rfl, ⟨_, seq_of ha⟩, fun D hD => lc_listI (fun x => x * x) hD ha (by omega) (fun _ => rfl) (fun x H3 Q hx hq => ?_) (fun H2 s2 h2 => ?_)⟩
    · exact ⟨_, rfl, _, rfl, _, _, rfl, rfl, .inl (bd64 (hb x hx) (by decide)), hq⟩
    · have b1 : Bd 6 ((xs.length : Nat) : Int) := bd_len hl
      have b2 : Bd 88 (sqs xs).sum := (bd_sum (bd_sqs hb) (by rw [sqs, List.length_map]; exact hl)).mono (by decide)
      have b3 : Bd 47 xs.sum := bd_sum hb hl
      refine ⟨D, sqs xs, rfl, seq_of h2, _, _, rfl, rfl, ?_, ?_⟩
      · rw [List.length_map]
        exact mulw b1 b2 (by decide) (by decide)
      · refine ⟨_, rfl, _, rfl, _, _, rfl, rfl, mulw b3 b3 (by decide) (by decide), _, _, rfl, rfl, ?_⟩
        rw [List.length_map]
        exact q H2 s2
/-! ### plain_far, moved_far, shape_far -/
def spFar (k : Knd) : Sp := fun vs H Q _ => ∃ (a b : Addr) (xs ys : List Int) (L : Nat), vs = [.ref a, .ref b] ∧ H a = some (.lst (xs.map V.int)) ∧ H b = some (.lst (ys.map V.int)) ∧ Okl L xs ∧ Okl L ys ∧ 1 ≤ L ∧ L ≤ 40 ∧
  ∀ H' v, Same H H' → FrAt H' v (farM k xs ys) → Q v H'
theorem scPlain : FnScope ["one", "other", "a", "b"] ["one", "other"] (defScope sPlain) := ⟨rfl, rfl, rfl, by decide +kernel, rfl, by decide +kernel, by decide +kernel⟩
theorem ok_plain (T : Txt K mg) : FnOk P w K mg base CX0 3 T.plain.f T.plain.fd ["one", "other"] (spFar .plain) := by
  refine T.plain.fn.ok scPlain (fun vs H Q E h => ?_) (fun cdv A outer s H vs Q E hr h => ?_)
  · obtain ⟨a, b, xs, ys, L, rfl, _⟩ := h
    rfl
  · obtain ⟨a, b, xs, ys, L, rfl, ha, hb, ox, oy, h1, h40, q⟩ := h
    refine ⟨_, pss_one (ps_ret (pcall T.made (ok_made T) hr (pa_cons (pe_callB (cr_sum rfl) (by rfl) T.sum (by decide +kernel) (pa_cons
          (pe_lc (own := [("a", 2), ("b", 3)]) (g := gTup K 2 (gCons (gName 2) (gCons (gName 3) gNil))) (tt := tYes) rfl scPlain.nd (pi_zip (by rfl) T.zip (pa_cons (pv 0) (pa_cons (pv 1) pa_nil))) (blkOk_by (own := [("a", 2), ("b", 3)]) (N := ["one", "other", "a", "b"]) (sc := defScope sPlain) (by decide +kernel))
            (fun _ _ _ _ _ => pg_tup rfl (pgs_cons (pg_name (i := 2) scPlain.nd rfl (Or.inl rfl)) (pgs_cons (pg_name (i := 3) scPlain.nd rfl (Or.inl rfl)) pgs_nil))) (fun _ _ _ _ _ => pts_nil)
            (fun _ _ _ _ _ => pe_op op_mul (pe_op op_sub (pv 2) (pv 3)) (pe_op op_sub (pv 2) (pv 3)))) pa_nil))
        (pa_cons (pe_callB call_len_seq (by rfl) T.len PySem.boot_len (pa_cons (pv 0) pa_nil)) pa_nil)))), ?_⟩
    refine ⟨_, rfl, _, rfl, a, b, _, _, rfl, seq_of ha, seq_of hb, fun D hD => lc_zipI (fun x y => (x - y) * (x - y)) hD ha hb (ox.len.trans oy.len.symm) (by rw [ox.len]; omega) (fun _ _ => rfl) (fun x y H3 Q hx hy hq => ?_) (fun H2 s2 h2 => ?_)⟩
    · exact ⟨_, rfl, _, rfl, _, _, rfl, rfl, _, rfl, _, rfl, _, _, rfl, rfl, _, _, rfl, rfl, .inl (bd64 ((ox.bd x hx).sub (oy.bd y hy)) (by decide)), hq⟩
    · refine ⟨D, sqd xs ys, rfl, seq_of h2, _, rfl, a, _, rfl, .inl (seq_of (s2 _ _ ha)), _, _, rfl, ?_, ?_, fun p hp => ?_⟩
      · rw [List.length_map, ox.len]
        omega
      · rw [List.length_map]
        exact (bd_len (by rw [ox.len]; exact h40)).mono (by decide)
      · refine q _ _ (s2.new hp) ⟨p, rfl, ?_⟩
        rw [upd_same, List.length_map]
        rfl
theorem scMoved : FnScope ["one", "other", "a", "b"] ["one", "other"] (defScope sMoved) := ⟨rfl, rfl, rfl, by decide +kernel, rfl, by decide +kernel, by decide +kernel⟩
theorem ok_moved (T : Txt K mg) : FnOk P w K mg base CX0 3 T.moved.f T.moved.fd ["one", "other"] (spFar .moved) := by
  refine T.moved.fn.ok scMoved (fun vs H Q E h => ?_) (fun cdv A outer s H vs Q E hr h => ?_)
  · obtain ⟨a, b, xs, ys, L, rfl, _⟩ := h
    rfl
  · obtain ⟨a, b, xs, ys, L, rfl, ha, hb, ox, oy, h1, h40, q⟩ := h
    refine ⟨_, pss_one (ps_ret (pcall T.made (ok_made T) hr (pa_cons (pcall T.uneven (ok_uneven T) (hr.mono (by decide)) (pa_cons
          (pe_lc (own := [("a", 2), ("b", 3)]) (g := gTup K 2 (gCons (gName 2) (gCons (gName 3) gNil))) (tt := tYes) rfl scMoved.nd (pi_zip (by rfl) T.zip (pa_cons (pv 0) (pa_cons (pv 1) pa_nil))) (blkOk_by (own := [("a", 2), ("b", 3)]) (N := ["one", "other", "a", "b"]) (sc := defScope sMoved) (by decide +kernel))
            (fun _ _ _ _ _ => pg_tup rfl (pgs_cons (pg_name (i := 2) scMoved.nd rfl (Or.inl rfl)) (pgs_cons (pg_name (i := 3) scMoved.nd rfl (Or.inl rfl)) pgs_nil))) (fun _ _ _ _ _ => pts_nil)
            (fun _ _ _ _ _ => pe_op op_sub (pv 2) (pv 3))) pa_nil))
        (pa_cons (pe_op op_mulW (pe_callB call_len_seq (by rfl) T.len PySem.boot_len (pa_cons (pv 0) pa_nil)) (pe_callB call_len_seq (by rfl) T.len PySem.boot_len (pa_cons (pv 0) pa_nil))) pa_nil)))), ?_⟩
    have hxl : xs.length ≤ 40 := by rw [ox.len]; exact h40
    have hxp : (0 : Int) < (xs.length : Int) := by rw [ox.len]; omega
    refine ⟨_, rfl, _, rfl, a, b, _, _, rfl, seq_of ha, seq_of hb, fun D hD => lc_zipI (fun x y => x - y) hD ha hb (ox.len.trans oy.len.symm) (by omega) (fun _ _ => rfl) (fun x y H3 Q hx hy hq => ?_) (fun H2 s2 h2 => ?_)⟩
    · exact ⟨_, rfl, _, rfl, _, _, rfl, rfl, hq⟩
    · refine ⟨D, dif xs ys, rfl, h2, bd_dif ox.bd oy.bd, by rw [dif, zip_len ox.len oy.len]; exact h40, fun H3 s3 => ?_⟩
      have ha3 := s3 _ _ (s2 _ _ ha)
      refine ⟨_, rfl, a, _, rfl, .inl (seq_of ha3), _, rfl, a, _, rfl, .inl (seq_of ha3), _, _, rfl, rfl, ?_, _, _, rfl, ?_, ?_, fun p hp => ?_⟩
      · rw [List.length_map]
        exact mulw (bd_len hxl) (bd_len hxl) (by decide) (by decide)
      · rw [List.length_map]
        exact Int.mul_pos hxp hxp
      · rw [List.length_map]
        exact ((bd_len hxl).mul (bd_len hxl)).mono (by decide)
      · refine q _ _ ((s2.trans s3).new hp) ⟨p, rfl, ?_⟩
        rw [upd_same, List.length_map]
        rfl
end
end Rw
namespace Rw
open PySem PySem.Spec PyProof.Rows L2
section
variable {P : Program} {w : World} {K : PySem.W.Frag} {mg : Str → Option Value} {base : Heap}
theorem dint (i j : Int) : decide (V.int i = V.int j) = decide (i = j) := by
  by_cases e : i = j
  · rw [e, decide_eq_true rfl, decide_eq_true rfl]
  · rw [decide_eq_false e, decide_eq_false (fun z => e (V.int.inj z))]
theorem scShape : FnScope ["one", "other", "first", "second", "both", "a", "b"] ["one", "other"] (defScope sShape) := ⟨rfl, rfl, rfl, by decide +kernel, rfl, by decide +kernel, by decide +kernel⟩
theorem ok_shape (T : Txt K mg) : FnOk P w K mg base CX0 3 T.shape.f T.shape.fd ["one", "other"] (spFar .shape) := by
  refine T.shape.fn.ok scShape (fun vs H Q E h => ?_) (fun cdv A outer s H vs Q E hr h => ?_)
  · obtain ⟨a, b, xs, ys, L, rfl, _⟩ := h
    rfl
  · obtain ⟨a, b, xs, ys, L, rfl, ha, hb, ox, oy, h1, h40, q⟩ := h
    refine ⟨_, pss_cons (ps_set (i := 2) scShape.nd rfl (.inl rfl) (pcall T.uneven (ok_uneven T) (hr.mono (by decide)) (pa_cons (pv 0) pa_nil)))
      (pss_cons (ps_set (i := 3) scShape.nd rfl (.inl rfl) (pcall T.uneven (ok_uneven T) (hr.mono (by decide)) (pa_cons (pv 1) pa_nil)))
      (pss_cons (ps_if (PW.pt (pw_or (pt_cmpR op_eq (pv 2) pe_int (nomark _)) (pw_or1 (pt_cmpR op_eq (pv 3) pe_int (nomark _)))))
        (pss_one (ps_ret (pe_tup (pa_cons (pe_callTy call_int1 (by rfl) T.int (by decide +kernel) (pa_cons (pe_cmpR op_ne (pv 2) (pv 3) (nomark _)) pa_nil)) (pa_cons pe_int pa_nil))))) pss_nil)
      (pss_cons (ps_set (i := 4) scShape.nd rfl (.inl rfl) (pe_op op_sub (pe_op op_mulW (pe_callB call_len_seq (by rfl) T.len PySem.boot_len (pa_cons (pv 0) pa_nil))
          (pe_callB (cr_sum rfl) (by rfl) T.sum (by decide +kernel) (pa_cons
            (pe_lc (own := [("a", 5), ("b", 6)]) (g := gTup K 2 (gCons (gName 5) (gCons (gName 6) gNil))) (tt := tYes) rfl scShape.nd (pi_zip (by rfl) T.zip (pa_cons (pv 0) (pa_cons (pv 1) pa_nil))) (blkOk_by (own := [("a", 5), ("b", 6)]) (N := ["one", "other", "first", "second", "both", "a", "b"]) (sc := defScope sShape) (by decide +kernel))
              (fun _ _ _ _ _ => pg_tup rfl (pgs_cons (pg_name (i := 5) scShape.nd rfl (Or.inl rfl)) (pgs_cons (pg_name (i := 6) scShape.nd rfl (Or.inl rfl)) pgs_nil))) (fun _ _ _ _ _ => pts_nil)
              (fun _ _ _ _ _ => pe_op op_mul (pv 5) (pv 6))) pa_nil)))
          (pe_op op_mulW (pe_callB (cr_sum rfl) (by rfl) T.sum (by decide +kernel) (pa_cons (pv 0) pa_nil)) (pe_callB (cr_sum rfl) (by rfl) T.sum (by decide +kernel) (pa_cons (pv 1) pa_nil)))))
      (pss_one (ps_ret (pcall T.made (ok_made T) hr (pa_cons (pe_op op_sub (pe_op op_mulW (pv 2) (pv 3)) (pe_op op_mulW (pv 4) (pe_callB call_abs (by rfl) T.abs (by decide +kernel) (pa_cons (pv 4) pa_nil))))
        (pa_cons (pe_op op_mulW (pv 2) (pv 3)) pa_nil)))))))), ?_⟩
    have hxl : xs.length ≤ 40 := by rw [ox.len]; exact h40
    have hyl : ys.length ≤ 40 := by rw [oy.len]; exact h40
    have bx : Bd 93 (unev xs) := (bd_unev ox.bd hxl).mono (by decide)
    have by_ : Bd 93 (unev ys) := (bd_unev oy.bd hyl).mono (by decide)
    have bo : Bd 93 (both xs ys) := bd_both ox oy h40
    refine ⟨_, rfl, a, xs, rfl, ha, fun x hx => (ox.bd x hx).mono (by decide), hxl, fun H1 s1 => ?_⟩
    refine ⟨_, rfl, b, ys, rfl, s1 _ _ hb, fun x hx => (oy.bd x hx).mono (by decide), hyl, fun H2 s2 => ?_⟩
    have s12 := s1.trans s2
    have fin : ∀ p, H2 p = none → (unev xs = 0 ∨ unev ys = 0) → Q (.ref p) (upd H2 p (.tup [.int (if (!decide (V.int (unev xs) = V.int (unev ys))) = true then 1 else 0), .int 1])) := fun p hp hz => by
      refine q _ _ (s12.new hp) ⟨p, rfl, ?_⟩
      rw [upd_same]
      show _ = some (HO.tup [V.int (shapeM xs ys).1, V.int (shapeM xs ys).2])
      unfold shapeM
      rw [if_pos hz, dint]
      by_cases e : unev xs = unev ys
      · rw [decide_eq_true e, if_pos e]
        rfl
      · rw [decide_eq_false e, if_neg e]
        rfl
    refine ⟨_, rfl, rfl, _, rfl, ?_⟩
    rw [dint]
    refine ite2 (fun h0 => ?_) (fun h0 => ?_)
    · exact ⟨_, rfl, _, rfl, rfl, .inr ⟨_, rfl, (by show 2 ≤ sizeLine; decide), fun p hp => fin p hp (.inl (of_decide_eq_true h0))⟩⟩
    · refine ⟨_, rfl, rfl, _, rfl, ?_⟩
      rw [dint]
      refine ite2 (fun h0' => ?_) (fun h0' => ?_)
      · exact ⟨_, rfl, _, rfl, rfl, .inr ⟨_, rfl, (by show 2 ≤ sizeLine; decide), fun p hp => fin p hp (.inr (of_decide_eq_true h0'))⟩⟩
      · have n1 : unev xs ≠ 0 := fun z => h0 (decide_eq_true z)
        have n2 : unev ys ≠ 0 := fun z => h0' (decide_eq_true z)
        have p1 : 0 < unev xs := by have := unev_nn xs; omega
        have p2 : 0 < unev ys := by have := unev_nn ys; omega
        have ha2 := s12 _ _ ha
        have hb2 := s12 _ _ hb
        refine ⟨_, rfl, a, _, rfl, .inl (seq_of ha2), ?_⟩
        refine ⟨_, rfl, _, rfl, a, b, _, _, rfl, seq_of ha2, seq_of hb2, fun D hD => lc_zipI (fun x y => x * y) hD ha2 hb2 (ox.len.trans oy.len.symm) (by omega) (fun _ _ => rfl) (fun x y H3 Q hx hy hq => ?_) (fun H3 s3 h3 => ?_)⟩
        · exact ⟨_, rfl, _, rfl, _, _, rfl, rfl, .inl (bd64 (ox.bd x hx) (by decide)), hq⟩
        · have ha3 := s3 _ _ ha2
          have hb3 := s3 _ _ hb2
          have bp : Bd 86 (prd xs ys).sum := (bd_sum (bd_prd ox.bd oy.bd) (by rw [prd, zip_len ox.len oy.len]; exact h40)).mono (by decide)
          refine ⟨D, prd xs ys, rfl, seq_of h3, _, _, rfl, rfl, ?_, ?_⟩
          · rw [List.length_map]
            exact mulw (bd_len hxl) bp (by decide) (by decide)
          · refine ⟨_, rfl, a, xs, rfl, seq_of ha3, _, rfl, b, ys, rfl, seq_of hb3, _, _, rfl, rfl, mulw (bd_sum ox.bd hxl) (bd_sum oy.bd hyl) (by decide) (by decide), _, _, rfl, rfl, ?_⟩
            have eb : (((xs.map V.int).length : Nat) : Int) * (prd xs ys).sum - xs.sum * ys.sum = both xs ys := by
              rw [List.length_map]
              rfl
            dsimp only
            rw [eb]
            have bxy : Bd 186 (unev xs * unev ys) := (Bd.mul bx by_).mono (by decide)
            refine ⟨_, rfl, _, rfl, _, _, rfl, rfl, mulw bx by_ (by decide) (by decide), ?_⟩
            refine ⟨_, rfl, _, rfl, _, rfl, _, _, rfl, rfl, mulw bo (bd_abs bo) (by decide) (by decide), _, _, rfl, rfl, ?_⟩
            refine ⟨_, rfl, _, rfl, _, _, rfl, rfl, mulw bx by_ (by decide) (by decide), _, _, rfl, Int.mul_pos p1 p2, bxy.mono (by decide), fun p hp => ?_⟩
            refine q _ _ ((s12.trans s3).new hp) ⟨p, rfl, ?_⟩
            rw [upd_same]
            show _ = some (HO.tup [V.int (shapeM xs ys).1, V.int (shapeM xs ys).2])
            have es : shapeM xs ys = madeM (unev xs * unev ys - both xs ys * iabs (both xs ys)) (unev xs * unev ys) := by
              unfold shapeM
              exact if_neg (fun z => z.elim n1 n2)
            rw [es]
            rfl
/-! ### far_told -/
def spFarTold : Sp := fun vs H Q _ => ∃ (k : Knd) (a b : Addr) (xs ys : List Int) (L : Nat), vs = [.str (nm k), .ref a, .ref b] ∧ H a = some (.lst (xs.map V.int)) ∧ H b = some (.lst (ys.map V.int)) ∧ Okl L xs ∧ Okl L ys ∧ 1 ≤ L ∧ L ≤ 40 ∧
  ∀ H' v, Same H H' → FrAt H' v (farM k xs ys) → Q v H'
theorem scFarTold : FnScope ["kind", "one", "other"] ["kind", "one", "other"] (defScope sFarTold) := ⟨rfl, rfl, rfl, by decide +kernel, rfl, by decide +kernel, by decide +kernel⟩
theorem nmp_p : decide (V.str (nm .plain) = V.str "plain") = true := by decide +kernel
theorem nmm_p : decide (V.str (nm .moved) = V.str "plain") = false := by decide +kernel
theorem nms_p : decide (V.str (nm .shape) = V.str "plain") = false := by decide +kernel
theorem nmm_m : decide (V.str (nm .moved) = V.str "moved") = true := by decide +kernel
theorem nms_m : decide (V.str (nm .shape) = V.str "moved") = false := by decide +kernel
theorem ok_farTold (T : Txt K mg) : FnOk P w K mg base CX0 4 T.farTold.f T.farTold.fd ["kind", "one", "other"] spFarTold := by
  refine T.farTold.fn.ok scFarTold (fun vs H Q E h => ?_) (fun cdv A outer s H vs Q E hr h => ?_)
  · obtain ⟨k, a, b, xs, ys, L, rfl, _⟩ := h
    rfl
  · obtain ⟨k, a, b, xs, ys, L, rfl, ha, hb, ox, oy, h1, h40, q⟩ := h
    refine ⟨_, pss_cons (ps_if (pt_cmpR op_eq (pv 0) pe_str (nomark _)) (pss_one (ps_ret (pcall T.plain (ok_plain T) hr (pa_cons (pv 1) (pa_cons (pv 2) pa_nil))))) pss_nil)
      (pss_cons (ps_if (pt_cmpR op_eq (pv 0) pe_str (nomark _)) (pss_one (ps_ret (pcall T.moved (ok_moved T) hr (pa_cons (pv 1) (pa_cons (pv 2) pa_nil))))) pss_nil)
      (pss_one (ps_ret (pcall T.shape (ok_shape T) hr (pa_cons (pv 1) (pa_cons (pv 2) pa_nil)))))), ?_⟩
    refine ⟨_, rfl, rfl, _, rfl, ?_⟩
    cases k with
    | plain =>
      rw [nmp_p]
      exact iteT ⟨_, rfl, _, rfl, a, b, xs, ys, L, rfl, ha, hb, ox, oy, h1, h40, q⟩
    | moved =>
      rw [nmm_p]
      refine iteF ⟨_, rfl, rfl, _, rfl, ?_⟩
      rw [nmm_m]
      exact iteT ⟨_, rfl, _, rfl, a, b, xs, ys, L, rfl, ha, hb, ox, oy, h1, h40, q⟩
    | shape =>
      rw [nms_p]
      refine iteF ⟨_, rfl, rfl, _, rfl, ?_⟩
      rw [nms_m]
      exact iteF ⟨_, rfl, _, rfl, a, b, xs, ys, L, rfl, ha, hb, ox, oy, h1, h40, q⟩
/-! ### count_of, stretch, stretches -/
def spCount : Sp := fun vs H Q _ => ∃ (a : Addr) (ns : List Int) (L : Nat), vs = [.ref a, .int (L : Nat)] ∧ H a = some (.lst (ns.map V.int)) ∧ Q (.int ((ns.length + 1 - L : Nat) : Int)) H
theorem scCount : FnScope ["row", "length"] ["row", "length"] (defScope sCount) := ⟨rfl, rfl, rfl, by decide +kernel, rfl, by decide +kernel, by decide +kernel⟩
theorem ok_count (T : Txt K mg) : FnOk P w K mg base CX0 1 T.count.f T.count.fd ["row", "length"] spCount := by
  refine T.count.fn.ok scCount (fun vs H Q E h => ?_) (fun cdv A outer s H vs Q E hr h => ?_)
  · obtain ⟨a, ns, L, rfl, _⟩ := h
    rfl
  · obtain ⟨a, ns, L, rfl, ha, q⟩ := h
    refine ⟨_, pss_one (ps_ret (pe_callB (call_max2 rfl) (by rfl) T.max (by decide +kernel) (pa_cons pe_int (pa_cons (pe_op op_add (pe_op op_sub (pe_callB call_len_seq (by rfl) T.len PySem.boot_len (pa_cons (pv 0) pa_nil)) (pv 1)) pe_int) pa_nil)))), ?_⟩
    refine ⟨_, rfl, a, _, rfl, .inl (seq_of ha), _, rfl, _, _, rfl, rfl, _, _, rfl, rfl, _, _, rfl, ?_⟩
    have e : (if (((ns.map V.int).length : Nat) : Int) - ((L : Nat) : Int) + 1 > 0 then (((ns.map V.int).length : Nat) : Int) - ((L : Nat) : Int) + 1 else 0) = ((ns.length + 1 - L : Nat) : Int) := by
      rw [List.length_map]
      split <;> omega
    rw [e]
    exact q
def spStretch : Sp := fun vs H Q _ => ∃ (a : Addr) (ns : List Int) (L p : Nat), vs = [.ref a, .int (L : Nat), .int (p : Nat)] ∧ H a = some (.lst (ns.map V.int)) ∧ p + L ≤ ns.length ∧ ∀ r, H r = none → Q (.ref r) (upd H r (.lst (((ns.drop p).take L).map V.int)))
theorem scStretch : FnScope ["row", "length", "place"] ["row", "length", "place"] (defScope sStretch) := ⟨rfl, rfl, rfl, by decide +kernel, rfl, by decide +kernel, by decide +kernel⟩
theorem cut_eq {ns : List Int} {p L : Nat} (h : p + L ≤ ns.length) : cutV (ns.map V.int) (some ((p : Nat) : Int)) (some (((p : Nat) : Int) + ((L : Nat) : Int))) = ((ns.drop p).take L).map V.int := by
  unfold cutV
  have e : ((p : Nat) : Int) + ((L : Nat) : Int) = ((p + L : Nat) : Int) := by omega
  rw [e, HT.sIx_nat, HT.sIx_nat, List.length_map, Nat.min_eq_left h, Nat.min_eq_left (by omega), Nat.add_sub_cancel_left, List.map_take, List.map_drop]
theorem ok_stretch (T : Txt K mg) : FnOk P w K mg base CX0 1 T.stretch.f T.stretch.fd ["row", "length", "place"] spStretch := by
  refine T.stretch.fn.ok scStretch (fun vs H Q E h => ?_) (fun cdv A outer s H vs Q E hr h => ?_)
  · obtain ⟨a, ns, L, p, rfl, _⟩ := h
    rfl
  · obtain ⟨a, ns, L, p, rfl, ha, hl, q⟩ := h
    refine ⟨_, pss_one (ps_ret (pe_slice sl_list (pv 0) (po_some (pv 2)) (po_some (pe_op op_add (pv 2) (pv 1))))), ?_⟩
    refine ⟨_, rfl, _, rfl, _, rfl, _, rfl, _, rfl, _, _, rfl, rfl, _, rfl, a, _, rfl, seq_of ha, fun r hr => ?_⟩
    rw [cut_eq hl]
    exact q r hr
def spStretches : Sp := fun vs H Q _ => ∃ (a : Addr) (ns : List Int) (L : Nat), vs = [.ref a, .int (L : Nat)] ∧ H a = some (.lst (ns.map V.int)) ∧ ns.length ≤ 100 ∧ 1 ≤ L ∧
  ∀ H' D as, Same H H' → H' D = some (.lst (as.map V.ref)) → StsAt H' as (strM ns L) → Q (.ref D) H'
theorem scStretches : FnScope ["row", "length", "place"] ["row", "length"] (defScope sStretches) := ⟨rfl, rfl, rfl, by decide +kernel, rfl, by decide +kernel, by decide +kernel⟩
theorem get_snoc {α : Type} {l : List α} {x y : α} {j : Nat} (h : (l ++ [x])[j]? = some y) : l[j]? = some y ∨ (j = l.length ∧ y = x) := by
  rcases Nat.lt_trichotomy j l.length with h1 | h1 | h1
  · rw [List.getElem?_append_left h1] at h
    exact .inl h
  · subst h1
    rw [List.getElem?_append_right (Nat.le_refl _), Nat.sub_self] at h
    exact .inr ⟨rfl, (Option.some.inj h).symm⟩
  · rw [List.getElem?_eq_none (by rw [List.length_append, List.length_singleton]; omega)] at h
    cases h
theorem StsAt.snoc {H : Hp} {as : List Addr} {ss : List (List Int)} {i : Nat} {x : Addr} {xs : List Int} (h : StsAt H as (ss.take i)) (hs : ss[i]? = some xs) (hx : H x = some (.lst (xs.map V.int))) : StsAt H (as ++ [x]) (ss.take (i + 1)) := by
  have hi : i < ss.length := (List.getElem?_eq_some_iff.mp hs).1
  have e : ss.take (i + 1) = ss.take i ++ [xs] := by
    rw [List.take_add_one, hs]
    rfl
  refine ⟨by rw [e, List.length_append, List.length_append, h.len]; rfl, fun j y ys hy hys => ?_⟩
  rw [e] at hys
  rcases get_snoc hy with a | ⟨a, rfl⟩
  · rcases get_snoc hys with b | ⟨b, rfl⟩
    · exact h.at_ j y ys a b
    · have := (List.getElem?_eq_some_iff.mp a).1
      have := h.len
      omega
  · rcases get_snoc hys with b | ⟨b, rfl⟩
    · have := (List.getElem?_eq_some_iff.mp b).1
      have := h.len
      omega
    · exact hx
theorem ok_stretches (T : Txt K mg) : FnOk P w K mg base CX0 2 T.stretches.f T.stretches.fd ["row", "length"] spStretches := by
  refine T.stretches.fn.ok scStretches (fun vs H Q E h => ?_) (fun cdv A outer s H vs Q E hr h => ?_)
  · obtain ⟨a, ns, L, rfl, _⟩ := h
    rfl
  · obtain ⟨a, ns, L, rfl, ha, hn, hL, q⟩ := h
    refine ⟨_, pss_one (ps_ret (pe_lc (own := [("place", 2)]) (g := gName 2) (tt := tYes) rfl scStretches.nd (pi_range1 (by rfl) T.range (pa_cons (pcall T.count (ok_count T) hr (pa_cons (pv 0) (pa_cons (pv 1) pa_nil))) pa_nil))
      (blkOk_by (own := [("place", 2)]) (N := ["row", "length", "place"]) (sc := defScope sStretches) (by decide +kernel))
      (fun _ _ _ _ _ => pg_name (i := 2) scStretches.nd rfl (Or.inl rfl)) (fun _ _ _ _ _ => pts_nil)
      (fun _ _ _ _ _ => pcall T.stretch (ok_stretch T) hr (pa_cons (pv 0) (pa_cons (pv 1) (pa_cons (pv 2) pa_nil)))))), ?_⟩
    refine ⟨_, rfl, _, rfl, a, ns, L, rfl, ha, _, rfl, by omega, by omega, fun D hD => lc_range (lo := 0) (n := ns.length + 1 - L) (fun i H' => ∃ as, Same H H' ∧ H' D = some (.lst (as.map V.ref)) ∧ (∀ x ∈ as, x ≠ D) ∧ StsAt H' as ((strM ns L).take i))
      ⟨[], same_upd hD, upd_same, fun x hx => (nomatch hx), rfl, fun i x xs h _ => by simp at h⟩ (fun i H' hi hP => ?_) (fun H' hP => ?_)⟩
    · obtain ⟨as, sm, hd, hnd, hs⟩ := hP
      have hg : (strM ns L)[i]? = some ((ns.drop i).take L) := strM_get hi
      have hal : as.length ≤ 1000 := by
        rw [hs.len, List.length_take, strM_len]
        omega
      refine ⟨rfl, _, rfl, _, rfl, _, rfl, a, ns, L, i, ?_, sm _ _ ha, by omega, fun r hr => ?_⟩
      · show [V.ref a, V.int (L : Nat), V.int (0 + (i : Nat))] = _
        rw [Int.zero_add]
      · have hx : upd (upd H' r (.lst (((ns.drop i).take L).map V.int))) D (.lst (as.map V.ref ++ [V.ref r])) r = some (.lst (((ns.drop i).take L).map V.int)) := by
          rw [upd_ne (ne_of_none hd hr).symm, upd_same]
        refine ⟨_, ne_upd hd hr, by rw [List.length_map]; exact small1000 hal, as ++ [r], (sm.new hr).chg hD, by rw [upd_same, List.map_append]; rfl, fun x hx => ?_, ?_⟩
        · rcases List.mem_append.mp hx with z | z
          · exact hnd x z
          · rw [List.mem_singleton.mp z]
            exact (ne_of_none hd hr).symm
        · have hs' : StsAt (upd (upd H' r (.lst (((ns.drop i).take L).map V.int))) D (.lst (as.map V.ref ++ [V.ref r]))) as ((strM ns L).take i) := by
            refine ⟨hs.len, fun j y ys hy hys => ?_⟩
            rw [upd_ne (hnd y (List.mem_of_getElem? hy))]
            exact ne_upd (hs.at_ j y ys hy hys) hr
          exact hs'.snoc hg hx
    · obtain ⟨as, sm, hd, hnd, hs⟩ := hP
      rw [List.take_of_length_le (by rw [strM_len]; exact Nat.le_refl _)] at hs
      exact q H' D as sm hd hs
end
end Rw
namespace Rw
open PySem PySem.Spec PyProof.Rows L2
/-- a loop over enumerate of a list -/
theorem for_enum {K : PySem.W.Frag} {a : Addr} {xs : List V} {g : TG} {tb : TS} {D : Ends} {σ : L2.St} {H : Hp} (Pv : Nat → L2.St → Hp → Prop) (h0 : Pv 0 σ H) (hq : ∀ i σ H, Pv i σ H → SqL K H a xs)
    (hs : ∀ (i : Nat) (x : V) (T : Addr) (σ : L2.St) (H : Hp), xs[i]? = some x → Pv i σ H → H T = none → g (.ref T) σ (upd H T (.tup [.int (i : Nat), x])) fun σ2 H2 => tb { D with nx := Pv (i + 1), ct := Pv (i + 1), bk := D.nx } σ2 H2) (hd : ∀ σ H, Pv xs.length σ H → D.nx σ H) :
    ∃ W : Nat → Nat → L2.St → Hp → Prop, (∃ m, W 0 m σ H) ∧ ∀ i m σ H, W i m σ H →
      ((Ite K a).stop i H ∧ D.nx σ H) ∨ ((Ite K a).go i H ∧ ∃ N : L2.St → Hp → Prop, (∀ σ' H', N σ' H' → ∃ m', m' < m ∧ W (i + 1) m' σ' H') ∧ ∀ v H', (Ite K a).yld i H v H' → g v σ H' fun σ2 H2 => tb { D with nx := N, ct := N, bk := D.nx } σ2 H2) := by
  refine ⟨fun i m σ H => m = xs.length - i ∧ i ≤ xs.length ∧ Pv i σ H, ⟨xs.length, rfl, Nat.zero_le _, h0⟩, ?_⟩
  rintro i m σ H ⟨rfl, hi, p⟩
  have qx := hq i σ H p
  by_cases hlt : i < xs.length
  · have hx : xs[i]? = some xs[i] := List.getElem?_eq_getElem hlt
    refine .inr ⟨⟨xs, _, qx, hx⟩, Pv (i + 1), fun σ' H' p' => ⟨xs.length - (i + 1), by omega, rfl, hlt, p'⟩, fun v H' y => ?_⟩
    obtain ⟨T, x', rfl, hT, rfl, f1⟩ := y
    exact hs i x' T σ H (f1 xs qx) p hT
  · have e : i = xs.length := by omega
    subst e
    exact .inl ⟨⟨xs, qx, Nat.le_refl _⟩, hd σ H p⟩
theorem refs_get {as : List Addr} {i : Nat} {v : V} (h : (as.map V.ref)[i]? = some v) : ∃ x, v = .ref x ∧ as[i]? = some x := by
  rw [List.getElem?_map] at h
  cases e : as[i]? with
  | none =>
    rw [e] at h
    cases h
  | some x =>
    rw [e] at h
    exact ⟨x, (Option.some.inj h).symm, rfl⟩
theorem refs_at {as : List Addr} {i : Nat} {x : Addr} (h : as[i]? = some x) : (as.map V.ref)[i]? = some (.ref x) := by
  rw [List.getElem?_map, h]
  rfl
def FF (k : Knd) (ss : List (List Int)) (p q : Nat) : Frc := farM k (ss.getD p []) (ss.getD q [])
theorem getD_of {ss : List (List Int)} {p : Nat} {xs : List Int} (h : ss[p]? = some xs) : ss.getD p [] = xs := by
  simp [List.getD, h]
theorem FF_good {k : Knd} {ss : List (List Int)} {L : Nat} (ho : ∀ xs ∈ ss, Okl L xs) (h1 : 1 ≤ L) (h40 : L ≤ 40) {p q : Nat} (hp : p < ss.length) (hq : q < ss.length) : Good (FF k ss p q) := by
  have e1 : ss[p]? = some ss[p] := List.getElem?_eq_getElem hp
  have e2 : ss[q]? = some ss[q] := List.getElem?_eq_getElem hq
  unfold FF
  rw [getD_of e1, getD_of e2]
  exact far_good k (ho _ (List.getElem_mem hp)) (ho _ (List.getElem_mem hq)) h1 h40
theorem StsAt.get {H : Hp} {as : List Addr} {ss : List (List Int)} (h : StsAt H as ss) {p : Nat} (hp : p < ss.length) : ∃ (x : Addr) (xs : List Int), as[p]? = some x ∧ ss[p]? = some xs ∧ xs ∈ ss ∧ H x = some (.lst (xs.map V.int)) := by
  have hl := h.len
  have e1 : ss[p]? = some ss[p] := List.getElem?_eq_getElem hp
  have e2 : as[p]? = some (as[p]'(by omega)) := List.getElem?_eq_getElem (by omega)
  exact ⟨_, _, e2, e1, List.getElem_mem hp, h.at_ p _ _ e2 e1⟩
theorem abs_apt (g p q : Nat) : decide (((g : Nat) : Int) ≤ (if ((q : Nat) : Int) - ((p : Nat) : Int) < 0 then -(((q : Nat) : Int) - ((p : Nat) : Int)) else ((q : Nat) : Int) - ((p : Nat) : Int))) = decide (apt g p q) := by
  rw [Bool.eq_iff_iff, decide_eq_true_eq, decide_eq_true_eq]
  unfold apt
  split <;> omega
theorem nearUp_succ (F : Nat → Nat → Frc) (g p i : Nat) : nearUp F g p (i + 1) = if apt g p i then bestNear F p i (nearUp F g p i) else nearUp F g p i := rfl
section
variable {P : Program} {w : World} {K : PySem.W.Frag} {mg : Str → Option Value} {base : Heap}
/-! ### nearest_of -/
def spNearest : Sp := fun vs H Q _ => ∃ (a : Addr) (as : List Addr) (k : Knd) (g p : Nat) (ss : List (List Int)) (L : Nat), vs = [.ref a, .str (nm k), .int (g : Nat), .int (p : Nat)] ∧ H a = some (.lst (as.map V.ref)) ∧ StsAt H as ss ∧ (∀ xs ∈ ss, Okl L xs) ∧ 1 ≤ L ∧ L ≤ 40 ∧ p < ss.length ∧
  ∀ H' v, Same H H' → RowAt H' v (nearUp (FF k ss) g p ss.length) → Q v H'
theorem scNearest : FnScope ["some", "kind", "gap", "place", "best", "q", "other", "here"] ["some", "kind", "gap", "place"] (defScope sNearest) := ⟨rfl, rfl, rfl, by decide +kernel, rfl, by decide +kernel, by decide +kernel⟩
theorem ok_nearest (T : Txt K mg) : FnOk P w K mg base CX0 5 T.nearest.f T.nearest.fd ["some", "kind", "gap", "place"] spNearest := by
  refine T.nearest.fn.ok scNearest (fun vs H Q E h => ?_) (fun cdv A outer s H vs Q E hr h => ?_)
  · obtain ⟨a, as, k, g, p, ss, L, rfl, _⟩ := h
    rfl
  · obtain ⟨a, as, k, g, p, ss, L, rfl, ha, hs, ho, h1, h40, hp, q⟩ := h
    refine ⟨_, pss_cons (ps_set (i := 4) scNearest.nd rfl (.inl rfl) pe_non)
      (pss_cons (ps_for (g := gTup K 2 (gCons (gName 5) (gCons (gName 6) gNil))) PassesOwn.never rfl (pi_enum (by rfl) T.enumerate (pa_cons (pv 0) pa_nil)) (pg_tup rfl (pgs_cons (pg_name (i := 5) scNearest.nd rfl (Or.inl rfl)) (pgs_cons (pg_name (i := 6) scNearest.nd rfl (Or.inl rfl)) pgs_nil)))
        (pss_one (ps_if (pt_cmpR op_ge (pe_callB call_abs (by rfl) T.abs (by decide +kernel) (pa_cons (pe_op op_sub (pv 5) (pv 3)) pa_nil)) (pv 2) (nomark _))
          (pss_cons (ps_set (i := 7) scNearest.nd rfl (.inl rfl) (pcall T.farTold (ok_farTold T) hr (pa_cons (pv 1) (pa_cons (pe_ix ix_list (pv 0) (pv 3) (fun _ _ => rfl)) (pa_cons (pv 6) pa_nil)))))
            (pss_one (ps_if (PW.pt (pw_or (pt_cmpR op_isN (pv 4) pe_non (nomark _)) (pw_or1 (pt_val (pcall T.less (ok_less T) (hr.mono (by decide)) (pa_cons (pv 7) (pa_cons (pe_ix ix_tup (pv 4) pe_int (fun _ _ => rfl)) pa_nil)))))))
              (pss_one (ps_set (i := 4) scNearest.nd rfl (.inl rfl) (pe_tup (pa_cons (pv 7) (pa_cons (pv 5) pa_nil))))) pss_nil)))
          pss_nil)))
      (pss_one (ps_ret (pv 4)))), ?_⟩
    refine ⟨_, rfl, a, _, rfl, seq_of ha, for_enum (K := K) (a := a) (xs := as.map V.ref)
      (fun i σ H' => ∃ (v : V) (y5 y6 y7 : Option V), σ = [some (.ref a), some (.str (nm k)), some (.int (g : Nat)), some (.int (p : Nat)), some v, y5, y6, y7] ∧ Same H H' ∧ RowAt H' v (nearUp (FF k ss) g p i))
      ⟨.non, none, none, none, rfl, Same.refl H, rfl⟩ (fun i σ H' hP => ?_) (fun i x t σ H' hx hP ht => ?_) (fun σ H' hP => ?_)⟩
    · obtain ⟨v, y5, y6, y7, rfl, sm, hv⟩ := hP
      exact seq_of (sm _ _ ha)
    · obtain ⟨v, y5, y6, y7, rfl, sm, hv⟩ := hP
      obtain ⟨b, rfl, hb⟩ := refs_get hx
      have hi : i < ss.length := by
        rw [← hs.len]
        exact (List.getElem?_eq_some_iff.mp hb).1
      have smt := sm.new (o := .tup [.int (i : Nat), .ref b]) ht
      have hvt := hv.same (same_upd (o := .tup [.int (i : Nat), .ref b]) ht)
      generalize hH2 : upd H' t (.tup [.int (i : Nat), .ref b]) = H2 at smt hvt
      have hat : H2 t = some (.tup [.int (i : Nat), .ref b]) := by rw [← hH2]; exact upd_same
      refine ⟨t, _, rfl, set_of hat, rfl, _, _, rfl, _, _, rfl, rfl, ?_⟩
      refine ⟨_, rfl, _, rfl, _, _, rfl, rfl, _, rfl, _, rfl, _, _, rfl, rfl, _, rfl, ?_⟩
      rw [abs_apt]
      refine ite2 (fun hA => ?_) (fun hA => ?_)
      · have hA := of_decide_eq_true hA
        obtain ⟨c, xs, hc, hxs, mxs, hcx⟩ := (hs.same smt).get hp
        obtain ⟨b', ys, hb', hys, mys, hby⟩ := (hs.same smt).get hi
        have eb : b' = b := Option.some.inj (hb'.symm.trans hb)
        subst eb
        refine ⟨_, rfl, _, rfl, _, rfl, a, _, _, _, rfl, rfl, seq_of (smt _ _ ha), atI_nat (j := p) (refs_at hc), _, rfl, k, c, b', xs, ys, L, rfl, hcx, hby, ho _ mxs, ho _ mys, h1, h40, fun H3 u s3 hu => ?_⟩
        have eF : farM k xs ys = FF k ss p i := by
          unfold FF
          rw [getD_of hxs, getD_of hys]
        rw [eF] at hu
        have sm3 := smt.trans s3
        have gF : Good (FF k ss p i) := FF_good ho h1 h40 hp hi
        have upn : nearUp (FF k ss) g p (i + 1) = bestNear (FF k ss) p i (nearUp (FF k ss) g p i) := by rw [nearUp_succ, if_pos hA]
        have make : ∀ r, H3 r = none → bestNear (FF k ss) p i (nearUp (FF k ss) g p i) = some (FF k ss p i, i) →
            ∃ (v : V) (y5 y6 y7 : Option V), [some (.ref a), some (.str (nm k)), some (.int (g : Nat)), some (.int (p : Nat)), some (.ref r), some (.int (i : Nat)), some (.ref b'), some u] = [some (.ref a), some (.str (nm k)), some (.int (g : Nat)), some (.int (p : Nat)), some v, y5, y6, y7] ∧
              Same H (upd H3 r (.tup [u, .int (i : Nat)])) ∧ RowAt (upd H3 r (.tup [u, .int (i : Nat)])) v (nearUp (FF k ss) g p (i + 1)) := fun r hr e => by
          refine ⟨.ref r, _, _, _, rfl, sm3.new hr, ?_⟩
          rw [upn, e]
          exact ⟨r, u, rfl, upd_same, hu.same (same_upd hr)⟩
        have hv3 := hvt.same s3
        refine ⟨_, rfl, rfl, _, rfl, ?_⟩
        cases e : nearUp (FF k ss) g p i with
        | none =>
          rw [e] at hv3 make
          obtain rfl : v = .non := hv3
          refine ite2 (fun _ => ?_) (fun h => absurd (decide_eq_true rfl) h)
          exact ⟨_, rfl, _, rfl, (by show 2 ≤ sizeLine; decide), fun r hr => make r hr rfl⟩
        | some b0 =>
          obtain ⟨f0, q0⟩ := b0
          rw [e] at hv3 make
          obtain ⟨r, vf, rfl, hr, hf⟩ := hv3
          obtain ⟨hq0, _, ef0⟩ := nearUp_some e
          have gf0 : Good f0 := by
            rw [ef0]
            exact FF_good ho h1 h40 hp (by omega)
          refine ite2 (fun h => absurd (of_decide_eq_true h) (fun z => nomatch z)) (fun _ => ?_)
          refine ⟨_, rfl, _, rfl, r, _, _, _, rfl, rfl, set_of hr, atI_nat (j := 0) rfl, u, vf, _, _, rfl, hu, hf, gF, gf0, _, rfl, ?_⟩
          refine ite2 (fun hl => ?_) (fun hl => ?_)
          · refine ⟨_, rfl, _, rfl, (by show 2 ≤ sizeLine; decide), fun r hr => make r hr ?_⟩
            exact if_pos hl
          · refine ⟨.ref r, _, _, _, rfl, sm3, ?_⟩
            rw [upn, e]
            have e2 : bestNear (FF k ss) p i (some (f0, q0)) = some (f0, q0) := if_neg hl
            rw [e2]
            exact ⟨r, vf, rfl, hr, hf⟩
      · refine ⟨v, _, _, _, rfl, smt, ?_⟩
        rw [nearUp_succ, if_neg (fun z => hA (decide_eq_true z))]
        exact hvt
    · obtain ⟨v, y5, y6, y7, rfl, sm, hv⟩ := hP
      rw [List.length_map, hs.len] at hv
      exact ⟨_, rfl, q H' v sm hv⟩
end
end Rw
namespace Rw
open PySem PySem.Spec PyProof.Rows L2
/-- every tuple stands as it stood -/
def TK (H H' : Hp) : Prop := ∀ b xs, H b = some (.tup xs) → H' b = some (.tup xs)
theorem TK.of {H H' : Hp} (s : Same H H') : TK H H' := fun b xs h => s _ _ h
theorem TK.lst {H : Hp} {D : Addr} {xs ys : List V} (h : H D = some (.lst xs)) : TK H (upd H D (.lst ys)) := fun b zs e => by
  rw [upd_ne (ne_of e h (by intro z; cases z))]
  exact e
theorem TK.trans {H H1 H2 : Hp} (a : TK H H1) (b : TK H1 H2) : TK H H2 := fun c xs h => b c xs (a c xs h)
theorem FrAt.tk {H H' : Hp} {v : V} {f : Frc} (h : FrAt H v f) (s : TK H H') : FrAt H' v f := by
  obtain ⟨p, e, h⟩ := h
  exact ⟨p, e, s _ _ h⟩
theorem RowAt.tk {H H' : Hp} {v : V} {r : Option (Frc × Nat)} (h : RowAt H v r) (s : TK H H') : RowAt H' v r := by
  cases r with
  | none => exact h
  | some b =>
    obtain ⟨f, q⟩ := b
    obtain ⟨r, vf, e, h, hf⟩ := h
    exact ⟨r, vf, e, s _ _ h, hf.tk s⟩
theorem RowsAt.tk {H H' : Hp} {vs : List V} {rows : Rows} (h : RowsAt H vs rows) (s : TK H H') : RowsAt H' vs rows :=
  ⟨h.len, fun i v r a b => (h.at_ i v r a b).tk s⟩
theorem RowsAt.snoc {H : Hp} {vs : List V} {rows : Rows} {i : Nat} {v : V} {r : Option (Frc × Nat)} (h : RowsAt H vs (rows.take i)) (hs : rows[i]? = some r) (hx : RowAt H v r) : RowsAt H (vs ++ [v]) (rows.take (i + 1)) := by
  have e : rows.take (i + 1) = rows.take i ++ [r] := by
    rw [List.take_add_one, hs]
    rfl
  refine ⟨by rw [e, List.length_append, List.length_append, h.len]; rfl, fun j y ys hy hys => ?_⟩
  rw [e] at hys
  rcases get_snoc hy with a | ⟨a, rfl⟩
  · rcases get_snoc hys with b | ⟨b, rfl⟩
    · exact h.at_ j y ys a b
    · have := (List.getElem?_eq_some_iff.mp a).1
      have := h.len
      omega
  · rcases get_snoc hys with b | ⟨b, rfl⟩
    · have := (List.getElem?_eq_some_iff.mp b).1
      have := h.len
      omega
    · exact hx
def GoodRows (rows : Rows) : Prop := ∀ (k : Nat) (f : Frc) (q : Nat), rows[k]? = some (some (f, q)) → Good f
structure Ask (H : Hp) (a : Addr) (ns : List Int) (g L : Nat) : Prop where
  row : H a = some (.lst (ns.map V.int))
  bd : ∀ x ∈ ns, Bd 40 x
  len : ns.length ≤ 100
  g1 : 1 ≤ g
  g2 : g ≤ 200
  l1 : 1 ≤ L
  l2 : L ≤ 40
theorem Ask.same {H H' : Hp} {a : Addr} {ns : List Int} {g L : Nat} (h : Ask H a ns g L) (s : Same H H') : Ask H' a ns g L := ⟨s _ _ h.row, h.bd, h.len, h.g1, h.g2, h.l1, h.l2⟩
def rowsA (ns : List Int) (k : Knd) (g L : Nat) : Rows := rowsM (FF k (strM ns L)) g (strM ns L).length
theorem rowsA_len (ns : List Int) (k : Knd) (g L : Nat) : (rowsA ns k g L).length = ns.length + 1 - L := by
  unfold rowsA
  rw [rowsM_len, strM_len]
theorem rowsM_good {k : Knd} {ss : List (List Int)} {L g : Nat} (ho : ∀ xs ∈ ss, Okl L xs) (h1 : 1 ≤ L) (h40 : L ≤ 40) : GoodRows (rowsM (FF k ss) g ss.length) := fun p f q h => by
  have hp : p < ss.length := by
    have := (List.getElem?_eq_some_iff.mp h).1
    rw [rowsM_len] at this
    exact this
  rw [rowsM_get hp] at h
  obtain ⟨a, _, e⟩ := nearUp_some (Option.some.inj h)
  rw [e]
  exact FF_good ho h1 h40 hp a
theorem Ask.good {H : Hp} {a : Addr} {ns : List Int} {g L : Nat} (h : Ask H a ns g L) (k : Knd) : GoodRows (rowsA ns k g L) := rowsM_good (strM_ok h.bd) h.l1 h.l2
section
variable {P : Program} {w : World} {K : PySem.W.Frag} {mg : Str → Option Value} {base : Heap}
/-! ### table_of, table -/
def spTableOf : Sp := fun vs H Q _ => ∃ (a : Addr) (as : List Addr) (k : Knd) (g : Nat) (ss : List (List Int)) (L : Nat), vs = [.ref a, .str (nm k), .int (g : Nat)] ∧ H a = some (.lst (as.map V.ref)) ∧ StsAt H as ss ∧ (∀ xs ∈ ss, Okl L xs) ∧ 1 ≤ L ∧ L ≤ 40 ∧ ss.length ≤ 100 ∧
  ∀ H' D us, Same H H' → H' D = some (.lst us) → RowsAt H' us (rowsM (FF k ss) g ss.length) → Q (.ref D) H'
theorem scTableOf : FnScope ["some", "kind", "gap", "place"] ["some", "kind", "gap"] (defScope sTableOf) := ⟨rfl, rfl, rfl, by decide +kernel, rfl, by decide +kernel, by decide +kernel⟩
theorem ok_tableOf (T : Txt K mg) : FnOk P w K mg base CX0 6 T.tableOf.f T.tableOf.fd ["some", "kind", "gap"] spTableOf := by
  refine T.tableOf.fn.ok scTableOf (fun vs H Q E h => ?_) (fun cdv A outer s H vs Q E hr h => ?_)
  · obtain ⟨a, as, k, g, ss, L, rfl, _⟩ := h
    rfl
  · obtain ⟨a, as, k, g, ss, L, rfl, ha, hs, ho, h1, h40, hn, q⟩ := h
    refine ⟨_, pss_one (ps_ret (pe_lc (own := [("place", 3)]) (g := gName 3) (tt := tYes) rfl scTableOf.nd (pi_range1 (by rfl) T.range (pa_cons (pe_callB call_len_seq (by rfl) T.len PySem.boot_len (pa_cons (pv 0) pa_nil)) pa_nil))
      (blkOk_by (own := [("place", 3)]) (N := ["some", "kind", "gap", "place"]) (sc := defScope sTableOf) (by decide +kernel))
      (fun _ _ _ _ _ => pg_name (i := 3) scTableOf.nd rfl (Or.inl rfl)) (fun _ _ _ _ _ => pts_nil)
      (fun _ _ _ _ _ => pcall T.nearest (ok_nearest T) hr (pa_cons (pv 0) (pa_cons (pv 1) (pa_cons (pv 2) (pa_cons (pv 3) pa_nil))))))), ?_⟩
    have hal : (as.map V.ref).length = ss.length := by rw [List.length_map]; exact hs.len
    refine ⟨_, rfl, a, _, rfl, .inl (seq_of ha), _, rfl, by omega, by omega, fun D hD => lc_range (lo := 0) (n := (as.map V.ref).length) (fun i H' => ∃ us, Same H H' ∧ H' D = some (.lst us) ∧ RowsAt H' us ((rowsM (FF k ss) g ss.length).take i))
      ⟨[], same_upd hD, upd_same, rfl, fun i x xs h _ => by simp at h⟩ (fun i H' hi hP => ?_) (fun H' hP => ?_)⟩
    · obtain ⟨us, sm, hd, hu⟩ := hP
      have hi : i < ss.length := by omega
      have hul : us.length ≤ 1000 := by
        rw [hu.len, List.length_take, rowsM_len]
        omega
      refine ⟨rfl, _, rfl, _, rfl, _, rfl, _, rfl, a, as, k, g, i, ss, L, ?_, sm _ _ ha, hs.same sm, ho, h1, h40, hi, fun H2 v s2 hv => ?_⟩
      · show [V.ref a, V.str (nm k), V.int (g : Nat), V.int (0 + (i : Nat))] = _
        rw [Int.zero_add]
      · have hd2 := s2 _ _ hd
        have tk : TK H2 (upd H2 D (.lst (us ++ [v]))) := TK.lst hd2
        exact ⟨us, hd2, small1000 hul, us ++ [v], (sm.trans s2).chg hD, upd_same, ((hu.same s2).tk tk).snoc (rowsM_get hi) (hv.tk tk)⟩
    · obtain ⟨us, sm, hd, hu⟩ := hP
      rw [List.take_of_length_le (by rw [rowsM_len]; omega)] at hu
      exact q H' D us sm hd hu
def spTable : Sp := fun vs H Q _ => ∃ (a : Addr) (ns : List Int) (k : Knd) (g L : Nat), vs = [.ref a, .str (nm k), .int (g : Nat), .int (L : Nat)] ∧ Ask H a ns g L ∧
  ∀ H' D us, Same H H' → H' D = some (.lst us) → RowsAt H' us (rowsA ns k g L) → Q (.ref D) H'
theorem scTable : FnScope ["row", "kind", "gap", "length"] ["row", "kind", "gap", "length"] (defScope sTable) := ⟨rfl, rfl, rfl, by decide +kernel, rfl, by decide +kernel, by decide +kernel⟩
theorem ok_table (T : Txt K mg) : FnOk P w K mg base CX0 7 T.table.f T.table.fd ["row", "kind", "gap", "length"] spTable := by
  refine T.table.fn.ok scTable (fun vs H Q E h => ?_) (fun cdv A outer s H vs Q E hr h => ?_)
  · obtain ⟨a, ns, k, g, L, rfl, _⟩ := h
    rfl
  · obtain ⟨a, ns, k, g, L, rfl, hA, q⟩ := h
    refine ⟨_, pss_cons (ps_expr (pcall T.mAsk (ok_mAsk T) (hr.mono (by decide)) (pa_cons (pv 1) (pa_cons (pv 2) (pa_cons (pv 3) pa_nil)))))
      (pss_one (ps_ret (pcall T.tableOf (ok_tableOf T) hr (pa_cons (pcall T.stretches (ok_stretches T) (hr.mono (by decide)) (pa_cons (pv 0) (pa_cons (pv 3) pa_nil))) (pa_cons (pv 1) (pa_cons (pv 2) pa_nil)))))), ?_⟩
    refine ⟨_, rfl, _, rfl, _, rfl, k, g, L, rfl, hA.g1, hA.g2, hA.l1, hA.l2, ?_⟩
    refine ⟨_, rfl, _, rfl, a, ns, L, rfl, hA.row, hA.len, hA.l1, fun H1 D as s1 hD hs => ?_⟩
    refine ⟨_, rfl, _, rfl, D, as, k, g, strM ns L, L, rfl, hD, hs, strM_ok hA.bd, hA.l1, hA.l2, ?_, fun H2 R us s2 hR hu => ?_⟩
    · have := hA.len
      have := hA.l1
      rw [strM_len]
      omega
    · exact q H2 R us (s1.trans s2) hR hu
/-! ### lonely_of, lonely -/
theorem rgV_get {n i : Nat} {x : V} (h : (rgV 0 ((n : Nat) : Int))[i]? = some x) : i < n ∧ x = .int (i : Nat) := by
  unfold rgV at h
  rw [List.getElem?_map] at h
  by_cases hi : i < (((n : Nat) : Int) - 0).toNat
  · rw [List.getElem?_range hi] at h
    have e : V.int (0 + ((i : Nat) : Int)) = x := Option.some.inj h
    rw [Int.zero_add] at e
    exact ⟨by omega, e.symm⟩
  · rw [List.getElem?_eq_none (by rw [List.length_range]; omega)] at h
    cases h
def spLonelyOf : Sp := fun vs H Q _ => ∃ (t f : Addr) (us : List V) (rows : Rows), vs = [.ref t, .ref f] ∧ H t = some (.lst us) ∧ RowsAt H us rows ∧ H f = some (.lst (rgV 0 ((rows.length : Nat) : Int))) ∧ GoodRows rows ∧
  ∀ H' v, Same H H' → BestAt H' v (loneUp rows rows.length) → Q v H'
theorem scLonelyOf : FnScope ["rows", "free", "best", "p"] ["rows", "free"] (defScope sLonelyOf) := ⟨rfl, rfl, rfl, by decide +kernel, rfl, by decide +kernel, by decide +kernel⟩
theorem loneUp_at {rows : Rows} {i : Nat} {f : Frc} {q : Nat} (h : rows[i]? = some (some (f, q))) : loneUp rows (i + 1) = bestLone f i q (loneUp rows i) := by
  rw [loneUp, h]
theorem loneUp_no {rows : Rows} {i : Nat} (h : rows[i]? = some none) : loneUp rows (i + 1) = loneUp rows i := by
  rw [loneUp, h]
theorem ok_lonelyOf (T : Txt K mg) : FnOk P w K mg base CX0 2 T.lonelyOf.f T.lonelyOf.fd ["rows", "free"] spLonelyOf := by
  refine T.lonelyOf.fn.ok scLonelyOf (fun vs H Q E h => ?_) (fun cdv A outer s H vs Q E hr h => ?_)
  · obtain ⟨t, f, us, rows, rfl, _⟩ := h
    rfl
  · obtain ⟨t, f, us, rows, rfl, ht, hu, hf, hG, q⟩ := h
    refine ⟨_, pss_cons (ps_set (i := 2) scLonelyOf.nd rfl (.inl rfl) pe_non)
      (pss_cons (ps_for PassesOwn.never rfl (pi_list (pv 1)) (pg_name (i := 3) scLonelyOf.nd rfl (Or.inl rfl))
        (pss_one (ps_if (PW.pt (pw_and (pt_cmpR op_notN (pe_ix ix_list (pv 0) (pv 3) (fun _ _ => rfl)) pe_non (nomark _)) (pw_and1 (PW.pt (pw_or (pt_cmpR op_isN (pv 2) pe_non (nomark _))
              (pw_or1 (pt_val (pcall T.less (ok_less T) hr (pa_cons (pe_ix ix_tup (pv 2) pe_int (fun _ _ => rfl)) (pa_cons (pe_ix ix_tup (pe_ix ix_list (pv 0) (pv 3) (fun _ _ => rfl)) pe_int (fun _ _ => rfl)) pa_nil))))))))))
          (pss_one (ps_set (i := 2) scLonelyOf.nd rfl (.inl rfl) (pe_tup (pa_cons (pe_ix ix_tup (pe_ix ix_list (pv 0) (pv 3) (fun _ _ => rfl)) pe_int (fun _ _ => rfl)) (pa_cons (pv 3) (pa_cons (pe_ix ix_tup (pe_ix ix_list (pv 0) (pv 3) (fun _ _ => rfl)) pe_int (fun _ _ => rfl)) pa_nil)))))) pss_nil)))
      (pss_one (ps_ret (pv 2)))), ?_⟩
    refine ⟨_, rfl, f, rfl, ⟨_, seq_of hf⟩, for_list (K := K) (a := f) (xs := rgV 0 ((rows.length : Nat) : Int))
      (fun i σ H' => ∃ (v : V) (y3 : Option V), σ = [some (.ref t), some (.ref f), some v, y3] ∧ Same H H' ∧ BestAt H' v (loneUp rows i))
      ⟨.non, none, rfl, Same.refl H, rfl⟩ (fun i σ H' _ hP => ?_) (fun i x σ H' hx hP => ?_) (fun σ H' hP => ?_)⟩
    · obtain ⟨v, y3, rfl, sm, hv⟩ := hP
      exact seq_of (sm _ _ hf)
    · obtain ⟨v, y3, rfl, sm, hv⟩ := hP
      obtain ⟨hi, rfl⟩ := rgV_get hx
      have ht' := sm _ _ ht
      have hul : us.length = rows.length := hu.len
      have gu : us[i]? = some (us[i]'(by omega)) := List.getElem?_eq_getElem (by omega)
      have gr : rows[i]? = some rows[i] := List.getElem?_eq_getElem hi
      generalize us[i]'(by omega) = u at gu
      generalize rows[i] = r at gr
      have hr' := (hu.at_ i u r gu gr).same sm
      refine ⟨_, rfl, _, rfl, t, _, _, _, rfl, rfl, seq_of ht', atI_nat (j := i) gu, rfl, _, rfl, ?_⟩
      cases r with
      | none =>
        obtain rfl : u = .non := hr'
        refine ite2 (fun h => ?_) (fun _ => ?_)
        · rw [decide_eq_true rfl] at h
          cases h
        · refine ⟨v, _, rfl, sm, ?_⟩
          rw [loneUp_no gr]
          exact hv
      | some b =>
        obtain ⟨f1, q1⟩ := b
        obtain ⟨r1, vf1, rfl, hr1, hf1⟩ := hr'
        have G1 := hG _ _ _ gr
        have up : loneUp rows (i + 1) = bestLone f1 i q1 (loneUp rows i) := loneUp_at gr
        refine ite2 (fun _ => ?_) (fun h => absurd (by rw [decide_eq_false (fun z => nomatch z)]; rfl) h)
        have make : bestLone f1 i q1 (loneUp rows i) = some (f1, i, q1) → ∀ o, H' o = none →
            ∃ (v : V) (y3 : Option V), [some (.ref t), some (.ref f), some (.ref o), some (.int (i : Nat))] = [some (.ref t), some (.ref f), some v, y3] ∧ Same H (upd H' o (.tup [vf1, .int (i : Nat), .int (q1 : Nat)])) ∧
              BestAt (upd H' o (.tup [vf1, .int (i : Nat), .int (q1 : Nat)])) v (loneUp rows (i + 1)) := fun e o ho => by
          refine ⟨.ref o, _, rfl, sm.new ho, ?_⟩
          rw [up, e]
          exact ⟨o, vf1, rfl, upd_same, hf1.same (same_upd ho)⟩
        refine ⟨_, rfl, rfl, _, rfl, ?_⟩
        cases e : loneUp rows i with
        | none =>
          rw [e] at hv make
          obtain rfl : v = .non := hv
          refine ite2 (fun _ => ?_) (fun h => absurd (decide_eq_true rfl) h)
          refine ⟨_, rfl, _, rfl, t, _, _, _, rfl, rfl, seq_of ht', atI_nat (j := i) gu, r1, _, _, _, rfl, rfl, set_of hr1, atI_nat (j := 0) rfl, _, rfl, ?_⟩
          exact ⟨_, rfl, _, rfl, t, _, _, _, rfl, rfl, seq_of ht', atI_nat (j := i) gu, r1, _, _, _, rfl, rfl, set_of hr1, atI_nat (j := 1) rfl, (by show 3 ≤ sizeLine; decide), fun o ho => make rfl o ho⟩
        | some b0 =>
          obtain ⟨f0, p0, q0⟩ := b0
          rw [e] at hv make
          obtain ⟨r0, vf0, rfl, hr0, hf0⟩ := hv
          have G0 := hG _ _ _ (loneUp_some hG e).at_
          refine ite2 (fun h => absurd (of_decide_eq_true h) (fun z => nomatch z)) (fun _ => ?_)
          refine ⟨_, rfl, r0, _, _, _, rfl, rfl, set_of hr0, atI_nat (j := 0) rfl, _, rfl, _, rfl, t, _, _, _, rfl, rfl, seq_of ht', atI_nat (j := i) gu, r1, _, _, _, rfl, rfl, set_of hr1, atI_nat (j := 0) rfl,
            vf0, vf1, f0, f1, rfl, hf0, hf1, G0, G1, _, rfl, ?_⟩
          refine ite2 (fun hl => ?_) (fun hl => ?_)
          · refine ⟨_, rfl, _, rfl, t, _, _, _, rfl, rfl, seq_of ht', atI_nat (j := i) gu, r1, _, _, _, rfl, rfl, set_of hr1, atI_nat (j := 0) rfl, _, rfl, ?_⟩
            exact ⟨_, rfl, _, rfl, t, _, _, _, rfl, rfl, seq_of ht', atI_nat (j := i) gu, r1, _, _, _, rfl, rfl, set_of hr1, atI_nat (j := 1) rfl, (by show 3 ≤ sizeLine; decide), fun o ho => make (if_pos hl) o ho⟩
          · refine ⟨.ref r0, _, rfl, sm, ?_⟩
            rw [up, e]
            have e2 : bestLone f1 i q1 (some (f0, p0, q0)) = some (f0, p0, q0) := if_neg hl
            rw [e2]
            exact ⟨r0, vf0, rfl, hr0, hf0⟩
    · obtain ⟨v, y3, rfl, sm, hv⟩ := hP
      rw [rgV_length] at hv
      exact ⟨_, rfl, q H' v sm hv⟩
def spLonely : Sp := fun vs H Q _ => ∃ (a : Addr) (ns : List Int) (k : Knd) (g L : Nat), vs = [.ref a, .str (nm k), .int (g : Nat), .int (L : Nat)] ∧ Ask H a ns g L ∧
  ∀ H' v, Same H H' → BestAt H' v (loneUp (rowsA ns k g L) (rowsA ns k g L).length) → Q v H'
theorem scLonely : FnScope ["row", "kind", "gap", "length", "rows"] ["row", "kind", "gap", "length"] (defScope sLonely) := ⟨rfl, rfl, rfl, by decide +kernel, rfl, by decide +kernel, by decide +kernel⟩
theorem ok_lonely (T : Txt K mg) : FnOk P w K mg base CX0 7 T.lonely.f T.lonely.fd ["row", "kind", "gap", "length"] spLonely := by
  refine T.lonely.fn.ok scLonely (fun vs H Q E h => ?_) (fun cdv A outer s H vs Q E hr h => ?_)
  · obtain ⟨a, ns, k, g, L, rfl, _⟩ := h
    rfl
  · obtain ⟨a, ns, k, g, L, rfl, hA, q⟩ := h
    refine ⟨_, pss_cons (ps_expr (pcall T.mAsk (ok_mAsk T) (hr.mono (by decide)) (pa_cons (pv 1) (pa_cons (pv 2) (pa_cons (pv 3) pa_nil)))))
      (pss_cons (ps_set (i := 4) scLonely.nd rfl (.inl rfl) (pcall T.tableOf (ok_tableOf T) hr (pa_cons (pcall T.stretches (ok_stretches T) (hr.mono (by decide)) (pa_cons (pv 0) (pa_cons (pv 3) pa_nil))) (pa_cons (pv 1) (pa_cons (pv 2) pa_nil)))))
      (pss_one (ps_ret (pcall T.lonelyOf (ok_lonelyOf T) (hr.mono (by decide)) (pa_cons (pv 4) (pa_cons (pe_listRg rfl (by rfl) T.list (prg_1 (by rfl) T.range (pe_callB call_len_seq (by rfl) T.len PySem.boot_len (pa_cons (pv 4) pa_nil)))) pa_nil)))))), ?_⟩
    refine ⟨_, rfl, _, rfl, _, rfl, k, g, L, rfl, hA.g1, hA.g2, hA.l1, hA.l2, ?_⟩
    refine ⟨_, rfl, _, rfl, a, ns, L, rfl, hA.row, hA.len, hA.l1, fun H1 D as s1 hD hs => ?_⟩
    refine ⟨_, rfl, _, rfl, D, as, k, g, strM ns L, L, rfl, hD, hs, strM_ok hA.bd, hA.l1, hA.l2, ?_, fun H2 R us s2 hR hu => ?_⟩
    · have := hA.len
      have := hA.l1
      rw [strM_len]
      omega
    · have hu : RowsAt H2 us (rowsA ns k g L) := hu
      have hl : us.length = ns.length + 1 - L := by rw [hu.len, rowsA_len]
      have := hA.len
      refine ⟨_, rfl, _, rfl, R, _, rfl, .inl (seq_of hR), _, rfl, RgOk.of_le (by omega) (by omega) (by omega) (by omega), fun o ho => ?_⟩
      refine ⟨R, o, us, rowsA ns k g L, rfl, ne_upd hR ho, hu.same (same_upd ho), ?_, hA.good k, fun H3 v s3 hv => q H3 v (((s1.trans s2).new ho).trans s3) hv⟩
      rw [upd_same, hu.len]
end
end Rw
namespace Rw
open PySem PySem.Spec PyProof.Rows L2
def nearV : Option (Frc × Nat) → V
  | none => .non
  | some b => .int ((b.2 : Nat) : Int)
/-- two places as a tuple -/
def PrAt (H : Hp) (v : V) (p : Nat × Nat) : Prop := ∃ r, v = .ref r ∧ H r = some (.tup [.int ((p.1 : Nat) : Int), .int ((p.2 : Nat) : Int)])
inductive PrsAt (H : Hp) : List V → List (Nat × Nat) → Prop
  | nil : PrsAt H [] []
  | cons {v vs p ps} : PrAt H v p → PrsAt H vs ps → PrsAt H (v :: vs) (p :: ps)
theorem PrAt.tk {H H' : Hp} {v : V} {p : Nat × Nat} (h : PrAt H v p) (s : TK H H') : PrAt H' v p := by
  obtain ⟨r, e, h⟩ := h
  exact ⟨r, e, s _ _ h⟩
theorem PrsAt.tk {H H' : Hp} (s : TK H H') : ∀ {vs : List V} {ps : List (Nat × Nat)}, PrsAt H vs ps → PrsAt H' vs ps
  | _, _, .nil => .nil
  | _, _, .cons a b => .cons (a.tk s) (PrsAt.tk s b)
theorem PrsAt.append {H : Hp} : ∀ {vs us : List V} {ps qs : List (Nat × Nat)}, PrsAt H vs ps → PrsAt H us qs → PrsAt H (vs ++ us) (ps ++ qs)
  | _, _, _, _, .nil, b => b
  | _, _, _, _, .cons a r, b => .cons a (PrsAt.append r b)
theorem PrsAt.len {H : Hp} : ∀ {vs : List V} {ps : List (Nat × Nat)}, PrsAt H vs ps → vs.length = ps.length
  | _, _, .nil => rfl
  | _, _, .cons _ b => by rw [List.length_cons, List.length_cons, PrsAt.len b]
section
variable {P : Program} {w : World} {K : PySem.W.Frag} {mg : Str → Option Value} {base : Heap}
/-! ### two_apart -/
def spApart : Sp := fun vs H Q _ => ∃ (a : Addr) (xs : List V) (g : Nat), vs = [.ref a, .int (g : Nat)] ∧ H a = some (.lst xs) ∧ xs.length ≤ 100 ∧ g ≤ 200 ∧
  ∀ H' D us ps, Same H H' → H' D = some (.lst us) → PrsAt H' us ps → (ps = [] ↔ xs.length ≤ g) → Q (.ref D) H'
theorem scApart : FnScope ["some", "gap", "found", "p", "q"] ["some", "gap"] (defScope sApart) := ⟨rfl, rfl, rfl, by decide +kernel, rfl, by decide +kernel, by decide +kernel⟩
theorem ok_apart (T : Txt K mg) : FnOk P w K mg base CX0 1 T.apart.f T.apart.fd ["some", "gap"] spApart := by
  refine T.apart.fn.ok scApart (fun vs H Q E h => ?_) (fun cdv A outer s H vs Q E hr h => ?_)
  · obtain ⟨a, xs, g, rfl, _⟩ := h
    rfl
  · obtain ⟨a, xs, g, rfl, ha, hn, hg, q⟩ := h
    refine ⟨_, pss_cons (ps_set (i := 2) scApart.nd rfl (.inl rfl) (pe_lst pa_nil))
      (pss_cons (ps_for (g := gName 3) PassesOwn.never rfl (pi_range1 (by rfl) T.range (pa_cons (pe_callB call_len_seq (by rfl) T.len PySem.boot_len (pa_cons (pv 0) pa_nil)) pa_nil)) (pg_name (i := 3) scApart.nd rfl (Or.inr rfl))
        (pss_one (ps_set (i := 2) scApart.nd rfl (.inl rfl) (pe_op op_cat (pv 2)
          (pe_lc (own := [("q", 4)]) (g := gName 4) (tt := tYes) rfl scApart.nd (pi_range2 (by rfl) T.range (pa_cons (pe_op op_add (pv 3) (pv 1)) (pa_cons (pe_callB call_len_seq (by rfl) T.len PySem.boot_len (pa_cons (pv 0) pa_nil)) pa_nil)))
            (blkOk_by (own := [("q", 4)]) (N := ["some", "gap", "found", "p", "q"]) (sc := defScope sApart) (by decide +kernel))
            (fun _ _ _ _ _ => pg_name (i := 4) scApart.nd rfl (Or.inl rfl)) (fun _ _ _ _ _ => pts_nil) (fun _ _ _ _ _ => pe_tup (pa_cons (pv 3) (pa_cons (pv 4) pa_nil))))))))
      (pss_one (ps_ret (pv 2)))), ?_⟩
    refine ⟨Nat.zero_le _, fun o ho => ?_⟩
    have s1 : Same H (upd H o (.lst [])) := same_upd ho
    refine ⟨_, rfl, a, _, rfl, .inl (seq_of (s1 _ _ ha)), _, rfl, by omega, by omega, for_range (lo := 0) (n := xs.length)
      (fun i σ H' => ∃ (F : Addr) (us : List V) (ps : List (Nat × Nat)) (y3 : Option V), σ = [some (.ref a), some (.int (g : Nat)), some (.ref F), y3, none] ∧ Same H H' ∧ H' F = some (.lst us) ∧ PrsAt H' us ps ∧ (ps = [] ↔ i = 0 ∨ xs.length ≤ g) ∧ ps.length ≤ i * 100)
      ⟨o, [], [], none, rfl, s1, upd_same, .nil, ⟨fun _ => .inl rfl, fun _ => rfl⟩, Nat.zero_le _⟩ (fun i σ H' hi hP => ?_) (fun σ H' hP => ?_)⟩
    · obtain ⟨F, us, ps, y3, rfl, sm, hF, hp, he, hl⟩ := hP
      have ha' := sm _ _ ha
      rw [Int.zero_add]
      refine ⟨_, rfl, _, rfl, _, rfl, _, _, rfl, rfl, _, rfl, a, _, rfl, .inl (seq_of ha'), _, _, rfl, ⟨by omega, by omega, by omega, by omega⟩, fun D hD => ?_⟩
      have en : (((xs.length : Nat) : Int) - (((i : Nat) : Int) + ((g : Nat) : Int))).toNat = xs.length - (i + g) := by omega
      rw [en]
      refine lc_range (lo := ((i : Nat) : Int) + ((g : Nat) : Int)) (n := xs.length - (i + g)) (fun j H2 => ∃ ws qs, Same H' H2 ∧ H2 D = some (.lst ws) ∧ PrsAt H2 ws qs ∧ qs.length = j)
        ⟨[], [], same_upd hD, upd_same, .nil, rfl⟩ (fun j H2 hj hP2 => ?_) (fun H2 hP2 => ?_)
      · obtain ⟨ws, qs, s2, hd, hq, hql⟩ := hP2
        refine ⟨rfl, _, rfl, _, rfl, (by show 2 ≤ sizeLine; decide), fun r hr => ?_⟩
        have hd' : upd H2 r (.tup [.int (i : Nat), .int (((i : Nat) : Int) + ((g : Nat) : Int) + ((j : Nat) : Int))]) D = some (.lst ws) := ne_upd hd hr
        refine ⟨ws, hd', ?_, ws ++ [.ref r], qs ++ [(i, i + g + j)], (s2.new hr).chg hD, upd_same, ?_, by rw [List.length_append, hql]; rfl⟩
        · rw [hq.len, hql]
          exact small1000 (by omega)
        · have tk1 := TK.of (same_upd (H := H2) (o := .tup [.int (i : Nat), .int (((i : Nat) : Int) + ((g : Nat) : Int) + ((j : Nat) : Int))]) hr)
          have tk2 : TK _ (upd (upd H2 r (.tup [.int (i : Nat), .int (((i : Nat) : Int) + ((g : Nat) : Int) + ((j : Nat) : Int))])) D (.lst (ws ++ [.ref r]))) := TK.lst hd'
          refine PrsAt.append (hq.tk (tk1.trans tk2)) (.cons ⟨r, rfl, tk2 _ _ ?_⟩ .nil)
          rw [upd_same]
          have e : ((i : Nat) : Int) + ((g : Nat) : Int) + ((j : Nat) : Int) = ((i + g + j : Nat) : Int) := by omega
          rw [e]
      · obtain ⟨ws, qs, s2, hd, hq, hql⟩ := hP2
        have hF2 := s2 _ _ hF
        have hus := hp.len
        have hws := hq.len
        have hi100 : i * 100 ≤ 10000 := by omega
        refine ⟨F, D, us, ws, rfl, rfl, hF2, hd, ?_, fun p hpn => ?_⟩
        · rw [hus, hws, sizeLine_eq]
          omega
        · have tk := (TK.of s2).trans (TK.of (same_upd (H := H2) (o := .lst (us ++ ws)) hpn))
          refine ⟨p, us ++ ws, ps ++ qs, _, rfl, (sm.trans s2).new hpn, upd_same, PrsAt.append (hp.tk tk) (hq.tk (TK.of (same_upd hpn))), ?_, ?_⟩
          · rw [List.append_eq_nil_iff, he, ← List.length_eq_zero_iff, hql]
            omega
          · rw [List.length_append, hql, Nat.succ_mul]
            omega
    · obtain ⟨F, us, ps, y3, rfl, sm, hF, hp, he, hl⟩ := hP
      refine ⟨_, rfl, q H' F us ps sm hF hp ?_⟩
      rw [he]
      constructor
      · rintro (z | z)
        · omega
        · exact z
      · exact .inr
/-! ### lonely_paper -/
def spPaper : Sp := fun vs H Q _ => ∃ (a : Addr) (ns : List Int) (k : Knd) (g L : Nat), vs = [.ref a, .str (nm k), .int (g : Nat), .int (L : Nat)] ∧ Ask H a ns g L ∧
  ∀ H' t v D, Same H H' → H' t = some (.tup [v, .ref D]) → BestAt H' v (loneUp (rowsA ns k g L) (rowsA ns k g L).length) → H' D = some (.lst ((rowsA ns k g L).map nearV)) → Q (.ref t) H'
theorem scPaper : FnScope ["row", "kind", "gap", "length", "rows", "nears", "one"] ["row", "kind", "gap", "length"] (defScope sPaper) := ⟨rfl, rfl, rfl, by decide +kernel, rfl, by decide +kernel, by decide +kernel⟩
theorem nears_take {rows : Rows} {i : Nat} {r : Option (Frc × Nat)} (h : rows[i]? = some r) : (rows.map nearV).take (i + 1) = (rows.map nearV).take i ++ [nearV r] := by
  rw [List.take_add_one, List.getElem?_map, h]
  rfl
theorem ok_paper (T : Txt K mg) : FnOk P w K mg base CX0 7 T.paper.f T.paper.fd ["row", "kind", "gap", "length"] spPaper := by
  refine T.paper.fn.ok scPaper (fun vs H Q E h => ?_) (fun cdv A outer s H vs Q E hr h => ?_)
  · obtain ⟨a, ns, k, g, L, rfl, _⟩ := h
    rfl
  · obtain ⟨a, ns, k, g, L, rfl, hA, q⟩ := h
    refine ⟨_, pss_cons (ps_expr (pcall T.mAsk (ok_mAsk T) (hr.mono (by decide)) (pa_cons (pv 1) (pa_cons (pv 2) (pa_cons (pv 3) pa_nil)))))
      (pss_cons (ps_set (i := 4) scPaper.nd rfl (.inl rfl) (pcall T.tableOf (ok_tableOf T) hr (pa_cons (pcall T.stretches (ok_stretches T) (hr.mono (by decide)) (pa_cons (pv 0) (pa_cons (pv 3) pa_nil))) (pa_cons (pv 1) (pa_cons (pv 2) pa_nil)))))
      (pss_cons (ps_set (i := 5) scPaper.nd rfl (.inl rfl) (pe_lst pa_nil))
      (pss_cons (ps_for PassesOwn.never rfl (pi_list (pv 4)) (pg_name (i := 6) scPaper.nd rfl (Or.inl rfl))
        (pss_one (ps_if (pt_cmpR op_isN (pv 6) pe_non (nomark _))
          (pss_one (ps_expr (pe_bm PySem.F.plainAttrs_list PySem.F.slot_list_append PySem.F.type_list_append mt_append (pv 5) (pa_cons pe_non pa_nil))))
          (pss_one (ps_expr (pe_bm PySem.F.plainAttrs_list PySem.F.slot_list_append PySem.F.type_list_append mt_append (pv 5) (pa_cons (pe_ix ix_tup (pv 6) pe_int (fun _ _ => rfl)) pa_nil)))))))
      (pss_one (ps_ret (pe_tup (pa_cons (pcall T.lonelyOf (ok_lonelyOf T) (hr.mono (by decide)) (pa_cons (pv 4) (pa_cons (pe_listRg rfl (by rfl) T.list (prg_1 (by rfl) T.range (pe_callB call_len_seq (by rfl) T.len PySem.boot_len (pa_cons (pv 4) pa_nil)))) pa_nil))) (pa_cons (pv 5) pa_nil)))))))), ?_⟩
    refine ⟨_, rfl, _, rfl, _, rfl, k, g, L, rfl, hA.g1, hA.g2, hA.l1, hA.l2, ?_⟩
    refine ⟨_, rfl, _, rfl, a, ns, L, rfl, hA.row, hA.len, hA.l1, fun H1 D as s1 hD hs => ?_⟩
    refine ⟨_, rfl, _, rfl, D, as, k, g, strM ns L, L, rfl, hD, hs, strM_ok hA.bd, hA.l1, hA.l2, ?_, fun H2 R us s2 hR hu => ?_⟩
    · have := hA.len
      have := hA.l1
      rw [strM_len]
      omega
    · have hu : RowsAt H2 us (rowsA ns k g L) := hu
      have hl : us.length = ns.length + 1 - L := by rw [hu.len, rowsA_len]
      have hn := hA.len
      have hG := hA.good k
      have s12 := s1.trans s2
      generalize rowsA ns k g L = rows at hu hl hG q
      have hul : us.length = rows.length := hu.len
      refine ⟨Nat.zero_le _, fun N hN => ?_⟩
      have sN : Same H2 (upd H2 N (.lst [])) := same_upd hN
      refine ⟨_, rfl, R, rfl, ⟨_, seq_of (sN _ _ hR)⟩, for_list (K := K) (a := R) (xs := us)
        (fun i σ H' => ∃ y6 : Option V, σ = [some (.ref a), some (.str (nm k)), some (.int (g : Nat)), some (.int (L : Nat)), some (.ref R), some (.ref N), y6] ∧ Same H2 H' ∧ H' N = some (.lst ((rows.map nearV).take i)))
        ⟨none, rfl, sN, upd_same⟩ (fun i σ H' _ hP => ?_) (fun i x σ H' hx hP => ?_) (fun σ H' hP => ?_)⟩
      · obtain ⟨y6, rfl, sm, h⟩ := hP
        exact seq_of (sm _ _ hR)
      · obtain ⟨y6, rfl, sm, h⟩ := hP
        have hi : i < us.length := (List.getElem?_eq_some_iff.mp hx).1
        have gr : rows[i]? = some (rows[i]'(by omega)) := List.getElem?_eq_getElem (by omega)
        generalize rows[i]'(by omega) = r at gr
        have hr' := (hu.at_ i x r hx gr).same sm
        have sz : ((rows.map nearV).take i).length < sizeLine := by
          rw [List.length_take, List.length_map]
          exact small1000 (by omega)
        have fin : ∀ v, v = nearV r → ∃ y6 : Option V, [some (.ref a), some (.str (nm k)), some (.int (g : Nat)), some (.int (L : Nat)), some (.ref R), some (.ref N), some x] = [some (.ref a), some (.str (nm k)), some (.int (g : Nat)), some (.int (L : Nat)), some (.ref R), some (.ref N), y6] ∧
            Same H2 (upd H' N (.lst ((rows.map nearV).take i ++ [v]))) ∧ upd H' N (.lst ((rows.map nearV).take i ++ [v])) N = some (.lst ((rows.map nearV).take (i + 1))) := fun v e => by
          refine ⟨_, rfl, sm.chg hN, ?_⟩
          rw [upd_same, nears_take gr, e]
        refine ⟨_, rfl, rfl, _, rfl, ?_⟩
        cases r with
        | none =>
          obtain rfl : x = .non := hr'
          refine ite2 (fun _ => ?_) (fun h => absurd (decide_eq_true rfl) h)
          exact ⟨_, rfl, .inl ⟨rfl, _, seq_of h⟩, N, _, _, rfl, rfl, h, sz, fin _ rfl⟩
        | some b =>
          obtain ⟨f1, q1⟩ := b
          obtain ⟨r1, vf1, rfl, hr1, hf1⟩ := hr'
          refine ite2 (fun h => absurd (of_decide_eq_true h) (fun z => nomatch z)) (fun _ => ?_)
          exact ⟨_, rfl, .inl ⟨rfl, _, seq_of h⟩, _, rfl, r1, _, _, _, rfl, rfl, set_of hr1, atI_nat (j := 1) rfl, N, _, _, rfl, rfl, h, sz, fin _ rfl⟩
      · obtain ⟨y6, rfl, sm, h⟩ := hP
        rw [List.take_of_length_le (by rw [List.length_map, hul]; exact Nat.le_refl _)] at h
        have hR' := sm _ _ hR
        refine ⟨_, rfl, _, rfl, R, _, rfl, .inl (seq_of hR'), _, rfl, RgOk.of_le (by omega) (by omega) (by omega) (by omega), fun o ho => ?_⟩
        refine ⟨R, o, us, rows, rfl, ne_upd hR' ho, (hu.same sm).same (same_upd ho), ?_, hG, fun H3 v s3 hv => ?_⟩
        · rw [upd_same, hul]
        · refine ⟨_, rfl, (by show 2 ≤ sizeLine; decide), fun t ht => ?_⟩
          have h3 : H3 N = some (.lst (rows.map nearV)) := s3 _ _ (ne_upd h ho)
          exact q _ t v N ((((s12.trans sm).new ho).trans s3).new ht) upd_same (hv.same (same_upd ht)) (ne_upd h3 ht)
/-! ### near_enough -/
def okR (r : Option (Frc × Nat)) (f : Frc) (p k : Nat) : Bool := match r with
  | some (f', _) => lessM f' f || (decide (f' = f) && decide (p < k))
  | none => true
theorem okM_of {rows : Rows} {f : Frc} {p k : Nat} {r : Option (Frc × Nat)} (h : rows[k]? = some r) : okM rows f p k = okR r f p k := by
  unfold okM okR
  rw [h]
  cases r <;> rfl
def frD (f : Frc) : PyData := .tuple [.int f.1, .int f.2]
theorem FrAt.dp {H : Hp} {v : V} {f : Frc} (h : FrAt H v f) : Dp K H v (frD f) := by
  obtain ⟨p, rfl, h⟩ := h
  exact .tup (set_of h) (.cons (.int _) (.cons (.int _) .nil))
theorem frD_shaped (f : Frc) : SeqAt.shaped (frD f) = true := rfl
theorem frD_eqv (f g : Frc) : PyData.eqv (frD f) (frD g) = decide (f = g) := by
  obtain ⟨a, b⟩ := f
  obtain ⟨c, d⟩ := g
  rw [Bool.eq_iff_iff]
  simp [frD, PyData.eqv, PyData.eqvAll]
def spEnough : Sp := fun vs H Q _ => ∃ (a : Addr) (as : List Addr) (k : Knd) (g : Nat) (ss : List (List Int)) (L : Nat) (r : Addr) (vf : V) (f : Frc) (pb qb p : Nat),
  vs = [.ref a, .str (nm k), .int (g : Nat), .ref r, .int (p : Nat), nearV (nearUp (FF k ss) g p ss.length)] ∧ H a = some (.lst (as.map V.ref)) ∧ StsAt H as ss ∧ (∀ xs ∈ ss, Okl L xs) ∧ 1 ≤ L ∧ L ≤ 40 ∧
  H r = some (.tup [vf, .int (pb : Nat), .int (qb : Nat)]) ∧ FrAt H vf f ∧ Good f ∧ p < ss.length ∧
  ∀ H', Same H H' → Q (.bl (okR (nearUp (FF k ss) g p ss.length) f pb p)) H'
theorem scEnough : FnScope ["some", "kind", "gap", "best", "p", "q", "here"] ["some", "kind", "gap", "best", "p", "q"] (defScope sEnough) := ⟨rfl, rfl, rfl, by decide +kernel, rfl, by decide +kernel, by decide +kernel⟩
theorem ok_enough (T : Txt K mg) : FnOk P w K mg base CX0 5 T.enough.f T.enough.fd ["some", "kind", "gap", "best", "p", "q"] spEnough := by
  refine T.enough.fn.ok scEnough (fun vs H Q E h => ?_) (fun cdv A outer s H vs Q E hr h => ?_)
  · obtain ⟨a, as, k, g, ss, L, r, vf, f, pb, qb, p, rfl, _⟩ := h
    rfl
  · obtain ⟨a, as, k, g, ss, L, r, vf, f, pb, qb, p, rfl, ha, hs, ho, h1, h40, hrr, hf, gf, hp, q⟩ := h
    refine ⟨_, pss_cons (ps_if (pt_cmpR op_isN (pv 5) pe_non (nomark _)) (pss_one (ps_ret (pe_and (pe_cmpR op_lt (pe_op op_sub (pv 4) (pv 2)) pe_int (nomark _)) (pe_one (pe_cmpR op_ge (pe_op op_add (pv 4) (pv 2)) (pe_callB call_len_seq (by rfl) T.len PySem.boot_len (pa_cons (pv 0) pa_nil)) (nomark _)))))) pss_nil)
      (pss_cons (ps_if (PW.pt (pw_or (pt_not (pt_chain op_le op_lt pe_int (pv 5) (pe_callB call_len_seq (by rfl) T.len PySem.boot_len (pa_cons (pv 0) pa_nil)))) (pw_or1 (pt_cmpR op_lt (pe_callB call_abs (by rfl) T.abs (by decide +kernel) (pa_cons (pe_op op_sub (pv 4) (pv 5)) pa_nil)) (pv 2) (nomark _)))))
        (pss_one (ps_ret pe_bl)) pss_nil)
      (pss_cons (ps_set (i := 6) scEnough.nd rfl (.inl rfl) (pcall T.farTold (ok_farTold T) hr (pa_cons (pv 1) (pa_cons (pe_ix ix_list (pv 0) (pv 4) (fun _ _ => rfl)) (pa_cons (pe_ix ix_list (pv 0) (pv 5) (fun _ _ => rfl)) pa_nil)))))
      (pss_one (ps_ret (pe_or (pcall T.less (ok_less T) (hr.mono (by decide)) (pa_cons (pv 6) (pa_cons (pe_ix ix_tup (pv 3) pe_int (fun _ _ => rfl)) pa_nil)))
        (pe_one (pe_and (pe_cmpR (op_eqD hr.units) (pv 6) (pe_ix ix_tup (pv 3) pe_int (fun _ _ => rfl)) (nomark _)) (pe_one (pe_cmpR op_gt (pv 4) (pe_ix ix_tup (pv 3) pe_int (fun _ _ => rfl)) (nomark _)))))))))), ?_⟩
    have hal : (as.map V.ref).length = ss.length := by rw [List.length_map]; exact hs.len
    refine ⟨_, rfl, rfl, _, rfl, ?_⟩
    cases e : nearUp (FF k ss) g p ss.length with
    | none =>
      rw [e] at q
      refine ite2 (fun _ => ?_) (fun h => absurd (decide_eq_true rfl) h)
      have no := nearUp_none e
      refine ⟨_, rfl, _, rfl, _, _, rfl, rfl, _, _, rfl, rfl, _, rfl, ?_⟩
      refine ite2 (fun _ => ?_) (fun h => absurd (decide_eq_true ?_) h)
      · refine ⟨_, rfl, _, rfl, _, _, rfl, rfl, _, rfl, a, _, rfl, .inl (seq_of ha), _, _, rfl, rfl, ?_⟩
        have e2 : decide ((((as.map V.ref).length : Nat) : Int) ≤ ((p : Nat) : Int) + ((g : Nat) : Int)) = true := decide_eq_true (by
          rw [hal]
          by_cases z : p + g < ss.length
          · exact absurd (.inl (Nat.le_refl _)) (no (p + g) z)
          · omega)
        dsimp only
        rw [e2]
        exact q H (Same.refl H)
      · by_cases z : g ≤ p
        · exact absurd (.inr (show (p - g) + g ≤ p by omega)) (no (p - g) (by omega))
        · omega
    | some b =>
      obtain ⟨f', qn⟩ := b
      rw [e] at q
      obtain ⟨hqn, hap, ef⟩ := nearUp_some e
      refine ite2 (fun h => absurd (of_decide_eq_true h) (fun z => nomatch z)) (fun _ => ?_)
      refine ⟨_, rfl, _, _, rfl, rfl, _, rfl, ?_⟩
      refine ite2 (fun _ => ?_) (fun h => absurd (decide_eq_true (show (0 : Int) ≤ ((qn : Nat) : Int) by omega)) h)
      refine ⟨_, rfl, a, _, rfl, .inl (seq_of ha), _, _, rfl, rfl, _, rfl, ?_⟩
      rw [decide_eq_true (show ((qn : Nat) : Int) < (((as.map V.ref).length : Nat) : Int) by rw [hal]; omega)]
      refine iteF ⟨_, rfl, _, rfl, _, _, rfl, rfl, _, rfl, _, rfl, _, _, rfl, rfl, _, rfl, ?_⟩
      refine ite2 (fun h => ?_) (fun _ => ?_)
      · have h := of_decide_eq_true h
        exfalso
        unfold apt at hap
        split at h <;> omega
      · obtain ⟨c, xs, hc, hxs, mxs, hcx⟩ := hs.get hp
        obtain ⟨b', ys, hb', hys, mys, hby⟩ := hs.get hqn
        refine ⟨_, rfl, _, rfl, _, rfl, a, _, _, _, rfl, rfl, seq_of ha, atI_nat (j := p) (refs_at hc), _, rfl, _, rfl, a, _, _, _, rfl, rfl, seq_of ha, atI_nat (j := qn) (refs_at hb'),
          k, c, b', xs, ys, L, rfl, hcx, hby, ho _ mxs, ho _ mys, h1, h40, fun H3 u s3 hu => ?_⟩
        have eF : farM k xs ys = f' := by
          rw [ef]
          unfold FF
          rw [getD_of hxs, getD_of hys]
        rw [eF] at hu
        have gf' : Good f' := by
          rw [ef]
          exact FF_good ho h1 h40 hp hqn
        have hr3 := s3 _ _ hrr
        have hf3 := hf.same s3
        have q' : ∀ z, z = okR (some (f', qn)) f pb p → Q (.bl z) H3 := fun z e => by
          rw [e]
          exact q H3 s3
        refine ⟨_, rfl, _, rfl, r, _, _, _, rfl, rfl, set_of hr3, atI_nat (j := 0) rfl, u, vf, f', f, rfl, hu, hf3, gf', gf, _, rfl, ?_⟩
        refine ite2 (fun hl => q' _ ?_) (fun hl => ?_)
        · show true = (lessM f' f || (decide (f' = f) && decide (pb < p)))
          rw [hl]
          rfl
        · refine ⟨_, rfl, _, rfl, r, _, _, _, rfl, rfl, set_of hr3, atI_nat (j := 0) rfl, frD f', frD f, hu.dp, hf3.dp, rfl, rfl, _, rfl, ?_⟩
          rw [frD_eqv]
          refine ite2 (fun he => ?_) (fun he => q' _ ?_)
          · refine ⟨_, rfl, _, rfl, r, _, _, _, rfl, rfl, set_of hr3, atI_nat (j := 1) rfl, _, _, rfl, rfl, q' _ ?_⟩
            show decide (((pb : Nat) : Int) < ((p : Nat) : Int)) = (lessM f' f || (decide (f' = f) && decide (pb < p)))
            rw [he, Bool.eq_false_iff.mpr hl]
            rw [Bool.eq_iff_iff]
            simp
          · show false = (lessM f' f || (decide (f' = f) && decide (pb < p)))
            rw [Bool.eq_false_iff.mpr hl, Bool.eq_false_iff.mpr he]
            rfl
end
end Rw
namespace Rw
open PySem PySem.Spec PyProof.Rows L2
theorem nears_get {rows : Rows} {i : Nat} {r : Option (Frc × Nat)} (h : rows[i]? = some r) : (rows.map nearV)[i]? = some (nearV r) := by
  rw [List.getElem?_map, h]
  rfl
theorem nears_of {rows : Rows} {i : Nat} {v : V} (h : (rows.map nearV)[i]? = some v) : ∃ r, rows[i]? = some r ∧ v = nearV r := by
  rw [List.getElem?_map] at h
  cases e : rows[i]? with
  | none =>
    rw [e] at h
    cases h
  | some r =>
    rw [e] at h
    exact ⟨r, rfl, (Option.some.inj h).symm⟩
theorem nearV_non (r : Option (Frc × Nat)) : decide (nearV r = .non) = r.isNone := by
  cases r with
  | none => exact decide_eq_true rfl
  | some b => exact decide_eq_false (fun z => nomatch z)
def prD (p : Nat × Nat) : PyData := .tuple [.int ((p.1 : Nat) : Int), .int ((p.2 : Nat) : Int)]
theorem PrsAt.dp {K : PySem.W.Frag} {H : Hp} : ∀ {vs : List V} {ps : List (Nat × Nat)}, PrsAt H vs ps → DpAll K H vs (ps.map prD)
  | _, _, .nil => .nil
  | _, _, .cons ⟨r, e, h⟩ b => by
    subst e
    exact .cons (.tup (set_of h) (.cons (.int _) (.cons (.int _) .nil))) (PrsAt.dp b)
theorem prs_lay : ∀ ps : List (Nat × Nat), PyData.canLayAll0 (ps.map prD) = true
  | [] => rfl
  | p :: r => by
    have ih := prs_lay r
    rw [List.map_cons]
    simp only [PyData.canLayAll0, ih, prD, PyData.canLay0, Bool.and_true, Bool.and_self]
theorem prs_depth : ∀ ps : List (Nat × Nat), PyData.depthAll (ps.map prD) ≤ 1
  | [] => Nat.zero_le _
  | p :: r => by
    have ih := prs_depth r
    rw [List.map_cons]
    simp only [PyData.depthAll, prD, PyData.depth]
    omega
theorem prs_shaped (ps : List (Nat × Nat)) : SeqAt.shaped (.list (ps.map prD)) = true := by
  unfold SeqAt.shaped
  have h := prs_depth ps
  rw [Bool.and_eq_true, decide_eq_true_eq]
  refine ⟨?_, ?_⟩
  · rw [PyData.canLay0]
    exact prs_lay ps
  · rw [PyData.depth]
    omega
theorem prs_nil (ps : List (Nat × Nat)) : PyData.eqv (.list (ps.map prD)) (.list []) = decide (ps = []) := by
  cases ps with
  | nil => rfl
  | cons p r => simp [PyData.eqv, PyData.eqvAll]
theorem filt_succ {rows : Rows} {f : Frc} {p i : Nat} : (((List.range (i + 1)).filter fun k => !decide (k = p)).map fun k => okM rows f p k) =
    (((List.range i).filter fun k => !decide (k = p)).map fun k => okM rows f p k) ++ (if i = p then [] else [okM rows f p i]) := by
  rw [List.range_succ, List.filter_append, List.map_append]
  by_cases e : i = p
  · rw [if_pos e, e]
    simp
  · rw [if_neg e]
    simp [e]
section
variable {P : Program} {w : World} {K : PySem.W.Frag} {mg : Str → Option Value} {base : Heap}
def spShows : Sp := fun vs H Q _ => ∃ (a : Addr) (ns : List Int) (k : Knd) (g L : Nat) (t : Addr) (bv : V) (N : Addr) (best : Option (Frc × Nat × Nat)), vs = [.ref a, .str (nm k), .int (g : Nat), .int (L : Nat), .ref t] ∧ Ask H a ns g L ∧
  H t = some (.tup [bv, .ref N]) ∧ BestAt H bv best ∧ H N = some (.lst ((rowsA ns k g L).map nearV)) ∧ (∀ f p q, best = some (f, p, q) → (rowsA ns k g L)[p]? = some (some (f, q))) ∧
  ∀ H', Same H H' → Q (.bl (showsM (rowsA ns k g L) best)) H'
theorem scShows : FnScope ["row", "kind", "gap", "length", "told", "some", "best", "nears", "q", "here", "p", "k"] ["row", "kind", "gap", "length", "told"] (defScope sShows) := ⟨rfl, rfl, rfl, by decide +kernel, rfl, by decide +kernel, by decide +kernel⟩
theorem ok_shows (T : Txt K mg) : FnOk P w K mg base CX0 6 T.shows_.f T.shows_.fd ["row", "kind", "gap", "length", "told"] spShows := by
  refine T.shows_.fn.ok scShows (fun vs H Q E h => ?_) (fun cdv A outer s H vs Q E hr h => ?_)
  · obtain ⟨a, ns, k, g, L, t, bv, N, best, rfl, _⟩ := h
    rfl
  · obtain ⟨a, ns, k, g, L, t, bv, N, best, rfl, hA, ht, hb, hN, hbo, q⟩ := h
    refine ⟨_, pss_cons (ps_expr (pcall T.mAsk (ok_mAsk T) (hr.mono (by decide)) (pa_cons (pv 1) (pa_cons (pv 2) (pa_cons (pv 3) pa_nil)))))
      (pss_cons (ps_set (i := 5) scShows.nd rfl (.inr rfl) (pcall T.stretches (ok_stretches T) (hr.mono (by decide)) (pa_cons (pv 0) (pa_cons (pv 3) pa_nil))))
      (pss_cons (ps_asg (g := gTup K 2 (gCons (gName 6) (gCons (gName 7) gNil))) (pv 4) (pg_tup rfl (pgs_cons (pg_name (i := 6) scShows.nd rfl (Or.inr rfl)) (pgs_cons (pg_name (i := 7) scShows.nd rfl (Or.inr rfl)) pgs_nil))))
      (pss_cons (ps_if (pt_cmpR op_ne (pe_callB call_len_seq (by rfl) T.len PySem.boot_len (pa_cons (pv 7) pa_nil)) (pe_callB call_len_seq (by rfl) T.len PySem.boot_len (pa_cons (pv 5) pa_nil)) (nomark _)) (pss_one (ps_ret pe_bl)) pss_nil)
      (pss_cons (ps_if (pt_cmpR op_isN (pv 6) pe_non (nomark _))
        (pss_one (ps_ret (pe_and (pe_cmpR (op_eqD hr.units) (pcall T.apart (ok_apart T) (hr.mono (by decide)) (pa_cons (pv 5) (pa_cons (pv 2) pa_nil))) (pe_lst pa_nil) (nomark _))
          (pe_one (pe_callB (cr_all rfl) (by rfl) T.all (by decide +kernel) (pa_cons (pe_lc (own := [("q", 8)]) (g := gName 8) (tt := tYes) rfl scShows.nd (pi_list (pv 7))
            (blkOk_by (own := [("q", 8)]) (N := ["row", "kind", "gap", "length", "told", "some", "best", "nears", "q", "here", "p", "k"]) (sc := defScope sShows) (by decide +kernel))
            (fun _ _ _ _ _ => pg_name (i := 8) scShows.nd rfl (Or.inl rfl)) (fun _ _ _ _ _ => pts_nil) (fun _ _ _ _ _ => pe_cmpR op_isN (pv 8) pe_non (nomark _))) pa_nil)))))) pss_nil)
      (pss_cons (ps_asg (g := gTup K 3 (gCons (gName 9) (gCons (gName 10) (gCons (gName 8) gNil)))) (pv 6) (pg_tup rfl (pgs_cons (pg_name (i := 9) scShows.nd rfl (Or.inl rfl)) (pgs_cons (pg_name (i := 10) scShows.nd rfl (Or.inr rfl)) (pgs_cons (pg_name (i := 8) scShows.nd rfl (Or.inl rfl)) pgs_nil)))))
      (pss_cons (ps_if (PW.pt (pw_or (pt_not (pt_chain op_le op_lt pe_int (pv 10) (pe_callB call_len_seq (by rfl) T.len PySem.boot_len (pa_cons (pv 5) pa_nil))))
          (pw_or (pt_cmpR (op_neD hr.units) (pcall T.nearest (ok_nearest T) hr (pa_cons (pv 5) (pa_cons (pv 1) (pa_cons (pv 2) (pa_cons (pv 10) pa_nil))))) (pe_tup (pa_cons (pv 9) (pa_cons (pv 8) pa_nil))) (nomark _))
          (pw_or1 (pt_cmpR op_ne (pe_ix ix_list (pv 7) (pv 10) (fun _ _ => rfl)) (pv 8) (nomark _))))))
        (pss_one (ps_ret pe_bl)) pss_nil)
      (pss_one (ps_ret (pe_callB (cr_all rfl) (by rfl) T.all (by decide +kernel) (pa_cons (pe_lc (own := [("k", 11)]) (g := gName 11) (tt := tTest (tOp rNe (tVar 11) (tVar 10))) rfl scShows.nd (pi_range1 (by rfl) T.range (pa_cons (pe_callB call_len_seq (by rfl) T.len PySem.boot_len (pa_cons (pv 5) pa_nil)) pa_nil))
            (blkOk_by (own := [("k", 11)]) (N := ["row", "kind", "gap", "length", "told", "some", "best", "nears", "q", "here", "p", "k"]) (sc := defScope sShows) (by decide +kernel))
            (fun _ _ _ _ _ => pg_name (i := 11) scShows.nd rfl (Or.inl rfl)) (fun _ _ _ _ _ => pts_one (pt_cmpR op_ne (pv 11) (pv 10) (nomark _)))
            (fun _ _ _ _ _ => pcall T.enough (ok_enough T) hr (pa_cons (pv 5) (pa_cons (pv 1) (pa_cons (pv 2) (pa_cons (pv 6) (pa_cons (pv 11) (pa_cons (pe_ix (r := rIxL K) ix_list (pv 7) (pv 11) (fun _ _ => rfl)) pa_nil)))))))) pa_nil)))))))))), ?_⟩
    refine ⟨_, rfl, _, rfl, _, rfl, k, g, L, rfl, hA.g1, hA.g2, hA.l1, hA.l2, ?_⟩
    refine ⟨_, rfl, _, rfl, a, ns, L, rfl, hA.row, hA.len, hA.l1, fun H1 D as s1 hD hs => ?_⟩
    have hn := hA.len
    have h1 := hA.l1
    have h40 := hA.l2
    have hg2 := hA.g2
    have hg1 := hA.g1
    have ho := strM_ok (L := L) hA.bd
    have hG := hA.good k
    have hsl : (strM ns L).length ≤ 100 := by
      rw [strM_len]
      omega
    have erl : (rowsA ns k g L).length = (strM ns L).length := by rw [rowsA, rowsM_len]
    have erg : ∀ i, i < (strM ns L).length → (rowsA ns k g L)[i]? = some (nearUp (FF k (strM ns L)) g i (strM ns L).length) := fun i hi => rowsM_get hi
    generalize rowsA ns k g L = rows at hN hbo q erl erg hG
    generalize strM ns L = ss at hs ho hsl erl erg
    have hal : (as.map V.ref).length = ss.length := by rw [List.length_map]; exact hs.len
    have ht1 := s1 _ _ ht
    have hN1 := s1 _ _ hN
    have hb1 := hb.same s1
    refine ⟨_, rfl, t, _, rfl, set_of ht1, rfl, _, _, rfl, _, _, rfl, rfl, ?_⟩
    refine ⟨_, rfl, N, _, rfl, .inl (seq_of hN1), _, rfl, D, _, rfl, .inl (seq_of hD), rfl, _, rfl, ?_⟩
    refine iteNS (by rw [List.length_map, hal, erl]) ?_
    refine ⟨_, rfl, rfl, _, rfl, ?_⟩
    cases best with
    | none =>
      obtain rfl : bv = .non := hb1
      refine ite2 (fun _ => ?_) (fun h => absurd (decide_eq_true rfl) h)
      refine ⟨_, rfl, _, rfl, D, _, g, rfl, hD, by rw [hal]; exact hsl, hg2, fun H2 R us ps s2 hR hp hpe => ?_⟩
      refine ⟨Nat.zero_le _, fun o ho' => ?_⟩
      have so : Same H2 (upd H2 o (.lst [])) := same_upd ho'
      refine ⟨.list (ps.map prD), .list [], .lst (seq_of (so _ _ hR)) (hp.tk (TK.of so)).dp, .lst (seq_of upd_same) .nil, prs_shaped ps, rfl, _, rfl, ?_⟩
      rw [prs_nil]
      refine ite2 (fun hz => ?_) (fun hz => ?_)
      · have hN2 := so _ _ (s2 _ _ hN1)
        refine ⟨_, rfl, N, rfl, ⟨_, seq_of hN2⟩, fun E hE => lc_list (K := K) (a := N) (xs := rows.map nearV) (fun i H' => Same (upd H2 o (.lst [])) H' ∧ H' E = some (.lst (((rows.map Option.isNone).take i).map V.bl)))
          ⟨same_upd hE, upd_same⟩ (fun i H' _ h => seq_of (h.1 _ _ hN2)) (fun i v H' hv h => ?_) (fun H' h => ?_)⟩
        · obtain ⟨r, hr', rfl⟩ := nears_of hv
          refine ⟨rfl, _, rfl, rfl, _, h.2, ?_, h.1.chg hE, ?_⟩
          · rw [List.length_map, List.length_take, List.length_map]
            exact small1000 (by omega)
          · rw [upd_same, nearV_non, List.take_add_one, List.getElem?_map, hr', List.map_append]
            rfl
        · have e : (rows.map Option.isNone).take (rows.map nearV).length = rows.map Option.isNone := List.take_of_length_le (by rw [List.length_map, List.length_map]; exact Nat.le_refl _)
          have h2 := h.2
          rw [e] at h2
          refine ⟨E, _, rfl, seq_of h2, ?_⟩
          rw [List.all_map]
          exact q H' (((s1.trans s2).trans so).trans h.1)
      · have e : showsM rows none = false := by
          show rows.all Option.isNone = false
          have hng : ¬ ss.length ≤ g := fun z => hz (decide_eq_true (hpe.mpr (by rw [hal]; exact z)))
          rw [List.all_eq_false]
          refine ⟨nearUp (FF k ss) g 0 ss.length, List.mem_of_getElem? (erg 0 (by omega)), ?_⟩
          intro z
          have z2 : nearUp (FF k ss) g 0 ss.length = none := Option.isNone_iff_eq_none.mp z
          exact nearUp_none z2 g (by omega) (.inl (by omega))
        rw [← e]
        exact q _ ((s1.trans s2).trans so)
    | some b =>
      obtain ⟨f, p, qn⟩ := b
      have hrow := hbo f p qn rfl
      have hp : p < ss.length := by
        rw [← erl]
        exact (List.getElem?_eq_some_iff.mp hrow).1
      have gf : Good f := hG _ _ _ hrow
      obtain ⟨r, vf, rfl, hr1, hf1⟩ := hb1
      have eup : nearUp (FF k ss) g p ss.length = some (f, qn) := Option.some.inj ((erg p hp).symm.trans hrow)
      refine ite2 (fun h => absurd (of_decide_eq_true h) (fun z => nomatch z)) (fun _ => ?_)
      refine ⟨_, rfl, r, _, rfl, set_of hr1, rfl, _, _, rfl, _, _, rfl, _, _, rfl, rfl, ?_⟩
      refine ⟨_, rfl, _, _, rfl, rfl, _, rfl, ?_⟩
      refine ite2 (fun _ => ?_) (fun h => absurd (decide_eq_true (show (0 : Int) ≤ ((p : Nat) : Int) by omega)) h)
      refine ⟨_, rfl, D, _, rfl, .inl (seq_of hD), _, _, rfl, rfl, _, rfl, ?_⟩
      rw [decide_eq_true (show ((p : Nat) : Int) < (((as.map V.ref).length : Nat) : Int) by rw [hal]; omega)]
      refine iteF ⟨_, rfl, _, rfl, _, rfl, _, rfl, D, as, k, g, p, ss, L, rfl, hD, hs, ho, h1, h40, hp, fun H2 v s2 hv => ?_⟩
      rw [eup] at hv
      obtain ⟨r2, vf2, rfl, hr2, hf2⟩ := hv
      refine ⟨_, rfl, _, rfl, (by show 2 ≤ sizeLine; decide), fun o ho' => ?_⟩
      have so : Same H2 (upd H2 o (.tup [vf, .int ((qn : Nat) : Int)])) := same_upd ho'
      have s2o := s2.trans so
      refine ⟨.tuple [frD f, .int ((qn : Nat) : Int)], .tuple [frD f, .int ((qn : Nat) : Int)], .tup (set_of (so _ _ hr2)) (.cons (hf2.same so).dp (.cons (.int _) .nil)), .tup (set_of upd_same) (.cons (hf1.same s2o).dp (.cons (.int _) .nil)), rfl, rfl, _, rfl, ?_⟩
      rw [SeqAt.eqv_refl _ rfl]
      have hN2 := s2o _ _ hN1
      refine iteF ⟨_, rfl, _, rfl, N, _, _, _, rfl, rfl, seq_of hN2, atI_nat (j := p) (nears_get hrow), _, rfl, rfl, _, rfl, ?_⟩
      refine iteNS rfl ?_
      have hD2 := s2o _ _ hD
      have hs2 := hs.same s2o
      have hr12 := s2o _ _ hr1
      have hf12 := hf1.same s2o
      have s12 := s1.trans s2o
      generalize upd H2 o (.tup [vf, .int ((qn : Nat) : Int)]) = H3 at hN2 hD2 hs2 hr12 hf12 s12
      refine ⟨_, rfl, D, _, rfl, .inl (seq_of hD2), _, rfl, by omega, by omega, fun E hE => lc_range (lo := 0) (n := (as.map V.ref).length)
        (fun i H' => Same H3 H' ∧ H' E = some (.lst ((((List.range i).filter fun k => !decide (k = p)).map fun k => okM rows f p k).map V.bl)))
        ⟨same_upd hE, upd_same⟩ (fun i H' hi h => ?_) (fun H' h => ?_)⟩
      · have hi : i < ss.length := by omega
        obtain ⟨sm, he⟩ := h
        have gr := erg i hi
        rw [Int.zero_add]
        refine ⟨rfl, _, rfl, _, rfl, rfl, _, rfl, ?_⟩
        rw [dint]
        refine ite2 (fun hne => ?_) (fun hne => ?_)
        · have hne : ¬ (i = p) := fun z => by
            rw [z, decide_eq_true rfl] at hne
            cases hne
          refine ⟨_, rfl, _, rfl, _, rfl, _, rfl, _, rfl, _, rfl, _, rfl, N, _, _, _, rfl, rfl, seq_of (sm _ _ hN2), atI_nat (j := i) (nears_get gr),
            D, as, k, g, ss, L, r, vf, f, p, qn, i, rfl, sm _ _ hD2, hs2.same sm, ho, h1, h40, sm _ _ hr12, hf12.same sm, gf, hi, fun H4 s4 => ?_⟩
          refine ⟨_, s4 _ _ he, ?_, (sm.trans s4).chg hE, ?_⟩
          · rw [List.length_map, List.length_map]
            refine small1000 (Nat.le_trans (List.length_filter_le _ _) ?_)
            rw [List.length_range]
            omega
          · rw [upd_same, filt_succ, if_neg hne, List.map_append, okM_of gr]
            rfl
        · have hne : i = p := Decidable.byContradiction fun z => hne (by
            rw [decide_eq_false (fun y => z (by omega))]
            rfl)
          refine ⟨sm, ?_⟩
          rw [filt_succ, if_pos hne, List.append_nil]
          exact he
      · obtain ⟨sm, he⟩ := h
        refine ⟨E, _, rfl, seq_of he, ?_⟩
        rw [List.all_map, hal, ← erl]
        exact q H' (s12.trans sm)
end
end Rw
namespace Rw
open PySem PySem.Spec PyProof.Rows L2
/-- the purse: two ints -/
def PuAt (H : Hp) (a : Addr) : Prop := ∃ x y : Int, H a = some (.lst [.int x, .int y])
/-- all but what stands at a -/
def SB (a : Addr) (H H' : Hp) : Prop := ∀ b o, b ≠ a → H b = some o → H' b = some o
theorem SB.refl (a : Addr) (H : Hp) : SB a H H := fun _ _ _ h => h
theorem SB.trans {a : Addr} {H H1 H2 : Hp} (x : SB a H H1) (y : SB a H1 H2) : SB a H H2 := fun c o n h => y c o n (x c o n h)
theorem SB.new {a : Addr} {H0 H : Hp} {p : Addr} {o : HO} (s : SB a H0 H) (h : H p = none) : SB a H0 (upd H p o) := fun b x n e => by
  have e' := s b x n e
  rw [upd_ne (ne_of_none e' h)]
  exact e'
theorem SB.chg {a : Addr} {H0 H : Hp} {p : Addr} {o : HO} (s : SB a H0 H) (h : H0 p = none) : SB a H0 (upd H p o) := fun b x n e => by
  rw [upd_ne (ne_of_none e h)]
  exact s b x n e
theorem PuAt.upd {H : Hp} {a p : Addr} {o : HO} (h : PuAt H a) (n : p ≠ a) : PuAt (upd H p o) a := by
  obtain ⟨x, y, h⟩ := h
  exact ⟨x, y, by rw [upd_ne n.symm]; exact h⟩
theorem PuAt.ne {H : Hp} {a p : Addr} (h : PuAt H a) (n : H p = none) : p ≠ a := by
  obtain ⟨x, y, h⟩ := h
  exact (ne_of_none h n).symm
theorem PuAt.new {H : Hp} {a p : Addr} {o : HO} (h : PuAt H a) (n : H p = none) : PuAt (L2.upd H p o) a := h.upd (h.ne n)
theorem ix_const {cs : List Int} {r : Int} (h0 : 0 ≤ r) (h1 : r < (cs.length : Int)) : ∃ c ∈ cs, atI (cs.map V.int) r = some (.int c) := by
  have hl : r.toNat < cs.length := by omega
  refine ⟨cs[r.toNat], List.getElem_mem hl, ?_⟩
  refine at_of (j := r.toNat) (by omega) ?_
  rw [List.getElem?_map, List.getElem?_eq_getElem hl]
  rfl
section
variable {P : Program} {w : World} {K : PySem.W.Frag} {mg : Str → Option Value} {base : Heap}
/-! ### take -/
def spTake : Sp := fun vs H Q _ => ∃ (a : Addr) (m : Int), vs = [.ref a, .int m] ∧ PuAt H a ∧ 0 < m ∧ m < 2147483648 ∧ ∀ H' r, SB a H H' → PuAt H' a → 0 ≤ r → r < m → Q (.int r) H'
theorem scTake : FnScope ["_law_purse_here", "_law_many", "_law_at", "_law_found"] ["_law_purse_here", "_law_many"] (defScope sTake) := ⟨rfl, rfl, rfl, by decide +kernel, rfl, by decide +kernel, by decide +kernel⟩
theorem ok_take (T : Txt K mg) : FnOk P w K mg base CX0 1 T.take.f T.take.fd ["_law_purse_here", "_law_many"] spTake := by
  refine T.take.fn.ok scTake (fun vs H Q E h => ?_) (fun cdv A outer s H vs Q E hr h => ?_)
  · obtain ⟨a, m, rfl, _⟩ := h
    rfl
  · obtain ⟨a, m, rfl, ⟨x, y, ha⟩, hm, hm2, q⟩ := h
    refine ⟨_, pss_cons (ps_set (i := 2) scTake.nd rfl (.inl rfl) (pe_callTy call_int1 (by rfl) T.int (by decide +kernel) (pa_cons (pe_cmpR op_eq (pe_ix ix_list (pv 0) pe_int (fun _ _ => rfl)) pe_int (nomark _)) pa_nil)))
      (pss_cons (ps_set (i := 3) scTake.nd rfl (.inl rfl) (pe_op op_mod (pe_ix ix_list (pv 0) (pv 2) (fun _ _ => rfl)) (pv 1)))
      (pss_cons (ps_asg (pe_op op_fdivW (pe_ix ix_list (pv 0) (pv 2) (fun _ _ => rfl)) (pv 1)) (pg_sub (pv 0) (pv 2) set_list))
      (pss_one (ps_ret (pv 3))))), ?_⟩
    refine ⟨_, rfl, a, _, _, _, rfl, rfl, seq_of ha, atI_nat (j := 0) rfl, rfl, .inr ⟨_, rfl, ?_⟩⟩
    have cd : ∀ z : Int, CDivW z m := fun z => wide_div (b := 31) hm (by show m.natAbs < 2 ^ 31; omega) (by decide) (by decide)
    have sb : ∀ o, SB a H (upd H a o) := fun o b u n e => by
      rw [upd_ne n]
      exact e
    by_cases hx : x = 0
    · rw [decide_eq_true (show V.int x = V.int 0 by rw [hx])]
      refine ⟨_, rfl, _, rfl, a, _, _, _, rfl, rfl, seq_of ha, atI_nat (j := 1) rfl, _, rfl, _, _, rfl, rfl, hm, ?_⟩
      refine ⟨_, rfl, _, rfl, a, _, _, _, rfl, rfl, seq_of ha, atI_nat (j := 1) rfl, _, rfl, _, _, rfl, rfl, cd _, ?_⟩
      refine ⟨_, rfl, _, rfl, a, _, _, 1, rfl, rfl, ha, rfl, ?_⟩
      exact ⟨_, rfl, q _ _ (sb _) ⟨_, _, upd_same⟩ (Int.emod_nonneg _ (by omega)) (Int.emod_lt_of_pos _ hm)⟩
    · rw [decide_eq_false (show ¬ V.int x = V.int 0 from fun z => hx (V.int.inj z))]
      refine ⟨_, rfl, _, rfl, a, _, _, _, rfl, rfl, seq_of ha, atI_nat (j := 0) rfl, _, rfl, _, _, rfl, rfl, hm, ?_⟩
      refine ⟨_, rfl, _, rfl, a, _, _, _, rfl, rfl, seq_of ha, atI_nat (j := 0) rfl, _, rfl, _, _, rfl, rfl, cd _, ?_⟩
      refine ⟨_, rfl, _, rfl, a, _, _, 0, rfl, rfl, ha, rfl, ?_⟩
      exact ⟨_, rfl, q _ _ (sb _) ⟨_, _, upd_same⟩ (Int.emod_nonneg _ (by omega)) (Int.emod_lt_of_pos _ hm)⟩
/-! ### purse -/
def spPurse (K : PySem.W.Frag) : Sp := fun vs H Q _ => ∃ (a : Addr) (ns : List Int), vs = [.ref a] ∧ SqL K H a (ns.map V.int) ∧ ns.length ≤ 63 ∧ ∀ H' p, PuAt H' p → Q (.ref p) H'
theorem scPurse : FnScope ["_law_script", "_law_cells", "_law_number_here", "_law_found", "_law_k", "_law_cell"] ["_law_script"] (defScope sPurse) := ⟨rfl, rfl, rfl, by decide +kernel, rfl, by decide +kernel, by decide +kernel⟩
theorem cut63 (ns : List Int) : cutV (ns.map V.int) none (some 63) = (ns.take (min 63 ns.length)).map V.int := by
  unfold cutV
  rw [HT.sIx_none, show HT.sIx (ns.map V.int).length (ns.map V.int).length (some 63) = min 63 (ns.map V.int).length from HT.sIx_nat _ _ 63, List.drop_zero, Nat.sub_zero, List.length_map, List.map_take]
theorem ok_purse (T : Txt K mg) : FnOk P w K mg base CX0 1 T.purse.f T.purse.fd ["_law_script"] (spPurse K) := by
  refine T.purse.fn.ok scPurse (fun vs H Q E h => ?_) (fun cdv A outer s H vs Q E hr h => ?_)
  · obtain ⟨a, ns, rfl, _⟩ := h
    rfl
  · obtain ⟨a, ns, rfl, ha, hn, q⟩ := h
    refine ⟨_, pss_cons (ps_set (i := 1) scPurse.nd rfl (.inl rfl) (pe_op op_cat (pe_slice sl_list (pv 0) po_none (po_some pe_int)) (pe_lst (pa_cons pe_int pa_nil))))
      (pss_cons (ps_set (i := 2) scPurse.nd rfl (.inl rfl) pe_int) (pss_cons (ps_set (i := 3) scPurse.nd rfl (.inl rfl) pe_int)
      (pss_cons (ps_for PassesOwn.never rfl (pi_range1 (by rfl) T.range (pa_cons pe_int pa_nil)) (pg_name (i := 4) scPurse.nd rfl (Or.inl rfl))
        (pss_cons (ps_set (i := 5) scPurse.nd rfl (.inl rfl) (pe_ix ix_list (pv 1) (pe_op op_mod (pv 4) (pe_callB call_len_seq (by rfl) T.len PySem.boot_len (pa_cons (pv 1) pa_nil))) (fun _ _ => rfl)))
        (pss_cons (ps_set (i := 2) scPurse.nd rfl (.inl rfl) (pe_op op_mod (pe_op op_add (pe_op op_add (pe_op op_add (pe_op op_mul (pv 2) (pv 2)) (pv 5)) (pe_op op_mul pe_int (pv 4))) pe_int) pe_int))
        (pss_one (ps_set (i := 3) scPurse.nd rfl (.inl rfl) (pe_op op_add (pe_op op_mulW (pv 3) pe_int) (pe_op op_mod (pe_op op_mul (pv 2) (pv 2)) pe_int)))))))
      (pss_cons (ps_if (pt_cmpR op_ge (pe_ix ix_list (pv 1) pe_int (fun _ _ => rfl)) (pe_op op_pow pe_int pe_int) (nomark _))
        (pss_one (ps_ret (pe_lst (pa_cons (pe_op op_sub (pe_ix ix_list (pv 1) pe_int (fun _ _ => rfl)) (pe_op op_pow pe_int pe_int)) (pa_cons (pv 3) pa_nil))))) pss_nil)
      (pss_one (ps_ret (pe_lst (pa_cons pe_int (pa_cons (pv 3) pa_nil))))))))), ?_⟩
    refine ⟨_, rfl, _, rfl, a, _, rfl, ha, fun c hc => ?_⟩
    refine ⟨(by show 1 ≤ sizeLine; decide), fun d hd => ?_⟩
    rw [cut63] at hd ⊢
    have hz : (ns.take (min 63 ns.length)).length ≤ 63 := by
      rw [List.length_take]
      omega
    generalize ns.take (min 63 ns.length) = zs at hd hz ⊢
    have hc2 : upd (upd H c (.lst (zs.map V.int))) d (.lst [.int 1]) c = some (.lst (zs.map V.int)) := ne_upd upd_same hd
    refine ⟨c, d, _, _, rfl, rfl, hc2, upd_same, ?_, fun p hp => ?_⟩
    · rw [List.length_map]
      exact Nat.le_of_lt (small1000 (by show zs.length + 1 ≤ 1000; omega))
    have hp3 : upd (upd (upd H c (.lst (zs.map V.int))) d (.lst [.int 1])) p (.lst (zs.map V.int ++ [.int 1])) p = some (.lst ((zs ++ [1]).map V.int)) := by
      rw [upd_same, List.map_append]
      rfl
    have hcl : 0 < (zs ++ [1]).length := by
      rw [List.length_append, List.length_singleton]
      omega
    generalize upd (upd (upd H c (.lst (zs.map V.int))) d (.lst [.int 1])) p (.lst (zs.map V.int ++ [.int 1])) = H3 at hp3
    generalize zs ++ [1] = cs at hp3 hcl
    refine ⟨200, rfl, by decide, by decide, for_range (lo := 0) (n := 200)
      (fun i σ H' => ∃ (nb fd : Int) (y4 y5 : Option V), σ = [some (.ref a), some (.ref p), some (.int nb), some (.int fd), y4, y5] ∧ H' = H3 ∧ Bd 31 nb ∧ Bd (32 * (i + 1)) fd)
      ⟨5, 1, none, none, rfl, rfl, by show (5 : Int).natAbs < 2 ^ 31; decide, by show (1 : Int).natAbs < 2 ^ 32; decide⟩ (fun i σ H' hi hP => ?_) (fun σ H' hP => ?_)⟩
    · obtain ⟨nb, fd, y4, y5, rfl, rfl, hnb, hfd⟩ := hP
      have hml : (0 : Int) < (((cs.map V.int).length : Nat) : Int) := by
        rw [List.length_map]
        omega
      obtain ⟨x, _, hx⟩ := ix_const (cs := cs) (r := (0 + ((i : Nat) : Int)) % (((cs.map V.int).length : Nat) : Int)) (Int.emod_nonneg _ (by omega)) (by
        have := Int.emod_lt_of_pos (0 + ((i : Nat) : Int)) hml
        rw [List.length_map] at this ⊢
        exact this)
      refine ⟨_, rfl, _, rfl, _, rfl, p, _, rfl, .inl (seq_of hp3), _, _, rfl, rfl, hml, p, _, _, _, rfl, rfl, seq_of hp3, hx, ?_⟩
      have m1 : CMul nb nb := .inl (bd64 hnb (by decide))
      refine ⟨_, rfl, _, rfl, _, _, rfl, rfl, m1, _, rfl, _, _, rfl, rfl, _, rfl, _, _, rfl, rfl, .inl ⟨by decide, by decide⟩, _, _, rfl, rfl, _, _, rfl, rfl, _, _, rfl, rfl, (by show (0 : Int) < 2147483629; decide), ?_⟩
      generalize (nb * nb + x + 48271 * (0 + ((i : Nat) : Int)) + 7) = big
      have hnb2 : Bd 31 (big % 2147483629) := by
        have h1 := Int.emod_nonneg big (show (2147483629 : Int) ≠ 0 by decide)
        have h2 := Int.emod_lt_of_pos big (show (0 : Int) < 2147483629 by decide)
        show (big % 2147483629).natAbs < 2 ^ 31
        omega
      have m2 : CMul (big % 2147483629) (big % 2147483629) := .inl (bd64 hnb2 (by decide))
      have bC : Bd 31 (2147483587 : Int) := by show (2147483587 : Int).natAbs < 2 ^ 31; decide
      have m3 : CMulW fd 2147483587 := wide_mul (a := 32 * (i + 1)) (b := 31) hfd bC (by omega) (by omega) (by omega)
      refine ⟨_, rfl, _, _, rfl, rfl, m3, _, rfl, _, rfl, _, _, rfl, rfl, m2, _, _, rfl, rfl, (by show (0 : Int) < 2147483587; decide), _, _, rfl, rfl, ?_⟩
      refine ⟨big % 2147483629, _, _, _, rfl, rfl, hnb2, ?_⟩
      have b1 : Bd (32 * (i + 1) + 31) (fd * 2147483587) := hfd.mul bC
      have b2 : Bd 31 (big % 2147483629 * (big % 2147483629) % 2147483587) := by
        generalize big % 2147483629 * (big % 2147483629) = sq
        have h1 := Int.emod_nonneg sq (show (2147483587 : Int) ≠ 0 by decide)
        have h2 := Int.emod_lt_of_pos sq (show (0 : Int) < 2147483587 by decide)
        show (sq % 2147483587).natAbs < 2 ^ 31
        omega
      exact (b1.add (b2.mono (by omega))).mono (by omega)
    · obtain ⟨nb, fd, y4, y5, rfl, rfl, hnb, hfd⟩ := hP
      obtain ⟨x, _, hx⟩ := ix_const (cs := cs) (r := 0) (Int.le_refl _) (by omega)
      refine ⟨_, rfl, p, _, _, _, rfl, rfl, seq_of hp3, hx, _, _, rfl, rfl, ⟨by decide, by decide, by decide⟩, _, _, rfl, rfl, _, rfl, ?_⟩
      refine ite2 (fun _ => ?_) (fun _ => ?_)
      · refine ⟨_, rfl, p, _, _, _, rfl, rfl, seq_of hp3, hx, _, _, rfl, rfl, ⟨by decide, by decide, by decide⟩, _, _, rfl, rfl, _, rfl, (by show 2 ≤ sizeLine; decide), fun o ho => ?_⟩
        exact q _ o ⟨_, _, upd_same⟩
      · refine ⟨_, rfl, (by show 2 ≤ sizeLine; decide), fun o ho => ?_⟩
        exact q _ o ⟨_, _, upd_same⟩
end
end Rw
namespace Rw
open PySem PySem.Spec PyProof.Rows L2
structure RInv (a tA F : Addr) (ts fs : List Int) (H : Hp) : Prop where
  pu : PuAt H a
  hT : H tA = some (.lst (ts.map V.int))
  hF : H F = some (.lst (fs.map V.int))
  n1 : tA ≠ a
  n2 : F ≠ a
  n3 : tA ≠ F
theorem RInv.take {a tA F : Addr} {ts fs : List Int} {H H' : Hp} (h : RInv a tA F ts fs H) (s : SB a H H') (p : PuAt H' a) : RInv a tA F ts fs H' :=
  ⟨p, s _ _ h.n1 h.hT, s _ _ h.n2 h.hF, h.n1, h.n2, h.n3⟩
theorem RInv.new {a tA F p : Addr} {o : HO} {ts fs : List Int} {H : Hp} (h : RInv a tA F ts fs H) (n : H p = none) : RInv a tA F ts fs (upd H p o) :=
  ⟨h.pu.new n, ne_upd h.hT n, ne_upd h.hF n, h.n1, h.n2, h.n3⟩
theorem RInv.app {a tA F : Addr} {ts fs : List Int} {H : Hp} (h : RInv a tA F ts fs H) (z : Int) : RInv a tA F ts (fs ++ [z]) (upd H F (.lst (fs.map V.int ++ [.int z]))) :=
  ⟨h.pu.upd h.n2, by rw [upd_ne h.n3]; exact h.hT, by rw [upd_same, List.map_append]; rfl, h.n1, h.n2, h.n3⟩
/-- the frame in a turn of the loop, and what holds of it -/
def MidA (a tA F : Addr) (ts fs : List Int) (many sort k : Int) (σ : L2.St) (H : Hp) : Prop := ∃ (b m : Int) (y9 : Option V),
  σ = [some (.ref a), some (.int 14), some (.int many), some (.int sort), some (.int k), some (.ref tA), some (.int b), some (.int m), some (.ref F), y9] ∧ RInv a tA F ts fs H ∧ b.natAbs ≤ 3 ∧ m.natAbs ≤ 10
def MidB (c : Nat) (a tA F : Addr) (ts fs : List Int) (many sort k : Int) (σ : L2.St) (H : Hp) : Prop := ∃ (b m z : Int),
  σ = [some (.ref a), some (.int 14), some (.int many), some (.int sort), some (.int k), some (.ref tA), some (.int b), some (.int m), some (.ref F), some (.int z)] ∧ RInv a tA F ts fs H ∧ b.natAbs ≤ 3 ∧ m.natAbs ≤ 10 ∧ z.natAbs ≤ c
theorem mul_le {x y : Int} {a b : Nat} (h : x.natAbs ≤ a) (k : y.natAbs ≤ b) : (x * y).natAbs ≤ a * b := by
  rw [Int.natAbs_mul]
  exact Nat.mul_le_mul h k
theorem mul_flag {x : Int} {c : Nat} (h : x.natAbs ≤ c) (b : Bool) : (x * (if b = true then 1 else 0)).natAbs ≤ c := by
  cases b
  · simp
  · simpa using h
section
variable {P : Program} {w : World} {K : PySem.W.Frag} {mg : Str → Option Value} {base : Heap}
def spRow : Sp := fun vs H Q _ => ∃ a : Addr, vs = [.ref a, .int 14] ∧ PuAt H a ∧ ∀ (H' : Hp) (F : Addr) (fs : List Int), PuAt H' a → F ≠ a → H' F = some (.lst (fs.map V.int)) → fs.length ≤ 14 → (∀ x ∈ fs, Bd 40 x) → Q (.ref F) H'
theorem scRow : FnScope ["_law_purse_here", "_law_most", "_law_many", "_law_sort", "_law_k", "_law_turn", "_law_by", "_law_more", "_law_found", "_law_number_here"] ["_law_purse_here", "_law_most"] (defScope sRow) := ⟨rfl, rfl, rfl, by decide +kernel, rfl, by decide +kernel, by decide +kernel⟩
theorem ok_row (T : Txt K mg) : FnOk P w K mg base CX0 2 T.row.f T.row.fd ["_law_purse_here", "_law_most"] spRow := by
  refine T.row.fn.ok scRow (fun vs H Q E h => ?_) (fun cdv A outer s H vs Q E hr h => ?_)
  · obtain ⟨a, rfl, _⟩ := h
    rfl
  · obtain ⟨a, rfl, hp, q⟩ := h
    have nd := scRow.nd
    refine ⟨_, pss_cons (ps_set (i := 2) nd rfl (.inl rfl) (pe_callB (call_min2 rfl) (by rfl) T.min (by decide +kernel) (pa_cons (pv 1) (pa_cons
        (pe_ix ix_list (pe_lst (pa_cons pe_int (pa_cons pe_int (pa_cons pe_int (pa_cons pe_int (pa_cons pe_int (pa_cons pe_int (pa_cons pe_int (pa_cons pe_int pa_nil))))))))) (pcall T.take (ok_take T) hr (pa_cons (pv 0) (pa_cons pe_int pa_nil))) (fun _ _ => rfl)) pa_nil))))
      (C8.pss_cut (ps_if (pt_cmpR op_eq (pcall T.take (ok_take T) hr (pa_cons (pv 0) (pa_cons pe_int pa_nil))) pe_int (nomark _)) (pss_one (ps_set (i := 2) nd rfl (.inl rfl) (pcall T.take (ok_take T) hr (pa_cons (pv 0) (pa_cons pe_int pa_nil))))) pss_nil)
      (pss_cons (ps_set (i := 3) nd rfl (.inl rfl) (pcall T.take (ok_take T) hr (pa_cons (pv 0) (pa_cons pe_int pa_nil))))
      (pss_cons (ps_setLc (i := 5) (own := [("_law_k", 4)]) (g := gName 4) (tt := tYes) rfl nd rfl rfl (sw_true rfl rfl rfl (by decide +kernel)) (pi_range1 (by rfl) T.range (pa_cons (pe_op op_add pe_int (pcall T.take (ok_take T) hr (pa_cons (pv 0) (pa_cons pe_int pa_nil)))) pa_nil))
        (blkOk_by (own := [("_law_k", 4)]) (N := ["_law_purse_here", "_law_most", "_law_many", "_law_sort", "_law_k", "_law_turn", "_law_by", "_law_more", "_law_found", "_law_number_here"]) (sc := defScope sRow) (by decide +kernel))
        (fun _ _ _ _ _ => pg_name (i := 4) nd rfl (Or.inl rfl)) (fun _ _ _ _ _ => pts_nil) (fun _ _ _ _ _ => pe_op op_sub (pcall T.take (ok_take T) hr (pa_cons (pv 0) (pa_cons pe_int pa_nil))) pe_int))
      (pss_cons (ps_set (i := 6) nd rfl (.inl rfl) pe_int) (pss_cons (ps_set (i := 7) nd rfl (.inl rfl) pe_int) (pss_cons (ps_set (i := 8) nd rfl (.inl rfl) (pe_lst pa_nil))
      (pss_cons (ps_for PassesOwn.never rfl (pi_range1 (by rfl) T.range (pa_cons (pv 2) pa_nil)) (pg_name (i := 4) nd rfl (Or.inl rfl))
        (C8.pss_cut (ps_if (PW.pt (pw_and (pt_cmpR op_gt (pv 3) pe_int (nomark _)) (pw_and1 (pt_cmpR op_eq (pe_op op_mod (pv 4) (pe_callB call_len_seq (by rfl) T.len PySem.boot_len (pa_cons (pv 5) pa_nil))) pe_int (nomark _)))))
          (pss_cons (ps_set (i := 6) nd rfl (.inl rfl) (pe_ix ix_list (pe_lst (pa_cons pe_int (pa_cons pe_int (pa_cons (pe_un un_neg pe_int) (pa_cons pe_int pa_nil))))) (pcall T.take (ok_take T) hr (pa_cons (pv 0) (pa_cons pe_int pa_nil))) (fun _ _ => rfl)))
            (pss_one (ps_set (i := 7) nd rfl (.inl rfl) (pe_op op_sub (pcall T.take (ok_take T) hr (pa_cons (pv 0) (pa_cons pe_int pa_nil))) pe_int)))) pss_nil)
        (pss_cons (ps_set (i := 9) nd rfl (.inl rfl) (pe_op op_add (pe_op op_mul (pv 6) (pe_ix ix_list (pv 5) (pe_op op_mod (pv 4) (pe_callB call_len_seq (by rfl) T.len PySem.boot_len (pa_cons (pv 5) pa_nil))) (fun _ _ => rfl))) (pv 7)))
        (C8.pss_cut (ps_if (pt_cmpR op_lt (pv 3) pe_int (nomark _)) (pss_one (ps_set (i := 9) nd rfl (.inl rfl) (pe_op op_sub (pcall T.take (ok_take T) hr (pa_cons (pv 0) (pa_cons pe_int pa_nil))) pe_int))) pss_nil)
        (C8.pss_cut (ps_if (pt_cmpR op_eq (pv 3) pe_int (nomark _)) (pss_one (ps_set (i := 9) nd rfl (.inl rfl) (pe_op op_sub (pcall T.take (ok_take T) hr (pa_cons (pv 0) (pa_cons (pe_op op_sub (pe_op op_mul pe_int (pe_op op_pow pe_int pe_int)) pe_int) pa_nil))) (pe_op op_sub (pe_op op_pow pe_int pe_int) pe_int)))) pss_nil)
        (C8.pss_cut (ps_if (pt_cmpR op_eq (pv 3) pe_int (nomark _)) (pss_one (ps_set (i := 9) nd rfl (.inl rfl) (pe_op op_add (pe_ix ix_list (pv 5) pe_int (fun _ _ => rfl)) (pe_op op_mul (pe_ix ix_list (pv 5) pe_int (fun _ _ => rfl)) (pv 4))))) pss_nil)
        (C8.pss_cut (ps_if (PW.pt (pw_or (pt_cmpR op_eq (pv 3) pe_int (nomark _)) (pw_or (pt_cmpR op_eq (pv 3) pe_int (nomark _)) (pw_or1 (pt_cmpR op_eq (pv 3) pe_int (nomark _))))))
          (pss_one (ps_set (i := 9) nd rfl (.inl rfl) (pe_op op_add (pv 9) (pe_op op_mul (pe_op op_sub (pcall T.take (ok_take T) hr (pa_cons (pv 0) (pa_cons pe_int pa_nil))) pe_int)
            (pe_callTy call_int1 (by rfl) T.int (by decide +kernel) (pa_cons (pe_cmpR op_eq (pcall T.take (ok_take T) hr (pa_cons (pv 0) (pa_cons pe_int pa_nil))) pe_int (nomark _)) pa_nil)))))) pss_nil)
        (C8.pss_cut (ps_if (pt_cmpR op_eq (pv 3) pe_int (nomark _))
          (pss_one (ps_set (i := 9) nd rfl (.inl rfl) (pe_op op_add (pe_ix ix_list (pv 5) pe_int (fun _ _ => rfl)) (pe_op op_mul (pe_op op_sub (pcall T.take (ok_take T) hr (pa_cons (pv 0) (pa_cons pe_int pa_nil))) pe_int)
            (pe_callTy call_int1 (by rfl) T.int (by decide +kernel) (pa_cons (pe_cmpR op_eq (pcall T.take (ok_take T) hr (pa_cons (pv 0) (pa_cons pe_int pa_nil))) pe_int (nomark _)) pa_nil)))))) pss_nil)
        (pss_one (ps_expr (pe_bm PySem.F.plainAttrs_list PySem.F.slot_list_append PySem.F.type_list_append mt_append (pv 8) (pa_cons (pv 9) pa_nil))))))))))))
      (pss_one (ps_ret (pv 8)))))))))), ?_⟩
    refine ⟨_, rfl, (by show 8 ≤ sizeLine; decide), fun l hl => ?_⟩
    refine ⟨_, rfl, a, 8, rfl, hp.new hl, by decide, by decide, fun H1 r s1 p1 r0 r1 => ?_⟩
    obtain ⟨c, mc, hc⟩ := ix_const (cs := [8, 12, 16, 5, 20, 24, 3, 30]) r0 r1
    have hc0 : 0 ≤ c := (by decide : ∀ c ∈ ([8, 12, 16, 5, 20, 24, 3, 30] : List Int), 0 ≤ c) c mc
    refine ⟨l, _, _, _, rfl, rfl, seq_of (s1 l _ (hp.ne hl) upd_same), hc, _, _, rfl, ?_⟩
    refine ⟨fun σ' H' => ∃ m : Int, σ' = [some (.ref a), some (.int 14), some (.int m), none, none, none, none, none, none, none] ∧ 0 ≤ m ∧ m ≤ 14 ∧ PuAt H' a, ?_, fun σ' H' hM => ?_⟩
    · refine ⟨_, rfl, a, 16, rfl, p1, by decide, by decide, fun H2 r2 s2 p2 r20 r21 => ⟨rfl, _, rfl, ?_⟩⟩
      refine ite2 (fun _ => ?_) (fun _ => ?_)
      · exact ⟨_, rfl, a, 4, rfl, p2, by decide, by decide, fun H3 r3 s3 p3 r30 r31 => ⟨r3, rfl, r30, by omega, p3⟩⟩
      · refine ⟨_, rfl, ?_, ?_, p2⟩
        · split <;> omega
        · split <;> omega
    obtain ⟨m, rfl, m0, m1, pm⟩ := hM
    refine ⟨_, rfl, a, 8, rfl, pm, by decide, by decide, fun H2 sort s2 p2 so0 so1 => ?_⟩
    refine ⟨_, rfl, a, 5, rfl, p2, by decide, by decide, fun H3 r3 s3 p3 r30 r31 => ⟨_, _, rfl, rfl, _, rfl, by omega, by omega, fun D hD => ?_⟩⟩
    have hDa : D ≠ a := p3.ne hD
    refine lc_range (lo := 0) (n := (2 + r3).toNat) (fun i H' => ∃ ts : List Int, PuAt H' a ∧ H' D = some (.lst (ts.map V.int)) ∧ ts.length = i ∧ ∀ t ∈ ts, t.natAbs ≤ 4)
      ⟨[], p3.new hD, upd_same, rfl, fun _ h => (nomatch h)⟩ (fun i H' hi hP => ?_) (fun H' hP => ?_)
    · obtain ⟨ts, pu, hd, hl, hb⟩ := hP
      refine ⟨rfl, _, rfl, a, 9, rfl, pu, by decide, by decide, fun H5 r5 s5 p5 r50 r51 => ⟨_, _, rfl, rfl, _, s5 D _ hDa hd, ?_, ts ++ [r5 - 4], p5.upd hDa, ?_, ?_, fun t ht => ?_⟩⟩
      · rw [List.length_map]
        exact small1000 (by omega)
      · rw [upd_same, List.map_append]
        rfl
      · rw [List.length_append, hl]
        rfl
      · rcases List.mem_append.mp ht with z | z
        · exact hb t z
        · rw [List.mem_singleton.mp z]
          omega
    obtain ⟨ts, pu, hd, htl, htb⟩ := hP
    have hts : 2 ≤ ts.length := by omega
    have hts2 : ts.length ≤ 100 := by omega
    refine ⟨Nat.zero_le _, fun F hF => ?_⟩
    have R0 : RInv a D F ts [] (upd H' F (.lst [])) := ⟨pu.new hF, ne_upd hd hF, upd_same, hDa, pu.ne hF, ne_of_none hd hF⟩
    refine ⟨_, rfl, _, rfl, by omega, by omega, for_range (lo := 0) (n := m.toNat)
      (fun i σ H2 => ∃ (b u : Int) (fs : List Int) (y4 y9 : Option V), σ = [some (.ref a), some (.int 14), some (.int m), some (.int sort), y4, some (.ref D), some (.int b), some (.int u), some (.ref F), y9] ∧ RInv a D F ts fs H2 ∧ b.natAbs ≤ 3 ∧ u.natAbs ≤ 10 ∧ fs.length = i ∧ ∀ x ∈ fs, Bd 40 x)
      ⟨1, 0, [], none, none, rfl, R0, by decide, by decide, rfl, fun _ h => (nomatch h)⟩ (fun i σ H2 hi hP => ?_) (fun σ H2 hP => ?_)⟩
    · obtain ⟨b, u, fs, y4, y9, rfl, R, hb, hu, hfl, hfb⟩ := hP
      rw [Int.zero_add]
      have hml : (0 : Int) < (((ts.map V.int).length : Nat) : Int) := by
        rw [List.length_map]
        omega
      -- if sort > 5 and k % len(turn) == 0
      refine ⟨MidA a D F ts fs m sort ((i : Nat) : Int), ?_, fun σ' H3 hM => ?_⟩
      · refine ⟨_, rfl, _, _, rfl, rfl, _, rfl, ite2 (fun _ => ?_) (fun _ => ⟨b, u, _, rfl, R, hb, hu⟩)⟩
        refine ⟨_, rfl, _, rfl, D, _, rfl, .inl (seq_of R.hT), _, _, rfl, rfl, hml, rfl, _, rfl, ite2 (fun _ => ?_) (fun _ => ⟨b, u, _, rfl, R, hb, hu⟩)⟩
        refine ⟨_, rfl, (by show 4 ≤ sizeLine; decide), fun l hl => ?_⟩
        refine ⟨_, rfl, a, 4, rfl, R.pu.new hl, by decide, by decide, fun H4 r4 s4 p4 r40 r41 => ?_⟩
        obtain ⟨c, mc, hc⟩ := ix_const (cs := [1, 2, -1, 3]) r40 r41
        have hc3 : c.natAbs ≤ 3 := (by decide : ∀ c ∈ ([1, 2, -1, 3] : List Int), c.natAbs ≤ 3) c mc
        refine ⟨l, _, _, _, rfl, rfl, seq_of (s4 l _ (R.pu.ne hl) upd_same), hc, ?_⟩
        exact ⟨_, rfl, a, 21, rfl, p4, by decide, by decide, fun H5 r5 s5 p5 r50 r51 => ⟨_, _, rfl, rfl, c, _, _, rfl, ((R.new hl).take s4 p4).take s5 p5, hc3, by omega⟩⟩
      clear R hb hu y9 b u
      obtain ⟨b, u, y9, rfl, R, hb, hu⟩ := hM
      -- number = by * turn[k % len(turn)] + more
      obtain ⟨t, mt, ht⟩ := ix_const (cs := ts) (r := ((i : Nat) : Int) % (((ts.map V.int).length : Nat) : Int)) (Int.emod_nonneg _ (by omega)) (by
        have := Int.emod_lt_of_pos ((i : Nat) : Int) hml
        rw [List.length_map] at this ⊢
        exact this)
      have bt : (b * t).natAbs ≤ 3 * 4 := mul_le hb (htb t mt)
      refine ⟨_, rfl, _, rfl, _, rfl, _, rfl, D, _, rfl, .inl (seq_of R.hT), _, _, rfl, rfl, hml, D, _, _, _, rfl, rfl, seq_of R.hT, ht, _, _, rfl, rfl, .inl ⟨by omega, by omega⟩, _, rfl, _, _, rfl, rfl, ?_⟩
      -- if sort < 2
      refine ⟨MidB 1100000000 a D F ts fs m sort ((i : Nat) : Int), ?_, fun σ' H4 hM => ?_⟩
      · refine ⟨_, rfl, _, _, rfl, rfl, _, rfl, ite2 (fun _ => ?_) (fun _ => ⟨b, u, _, rfl, R, hb, hu, by omega⟩)⟩
        exact ⟨_, rfl, a, 3, rfl, R.pu, by decide, by decide, fun H5 r5 s5 p5 r50 r51 => ⟨_, _, rfl, rfl, b, u, _, rfl, R.take s5 p5, hb, hu, by omega⟩⟩
      clear R hb hu bt y9 b u
      obtain ⟨b, u, z, rfl, R, hb, hu, hz⟩ := hM
      have e9 : (10 : Int) ^ (Int.toNat 9) = 1000000000 := by decide
      -- if sort == 2
      refine ⟨MidB 1100000000 a D F ts fs m sort ((i : Nat) : Int), ?_, fun σ' H5 hM => ?_⟩
      · refine ⟨_, rfl, rfl, _, rfl, ite2 (fun _ => ?_) (fun _ => ⟨b, u, z, rfl, R, hb, hu, hz⟩)⟩
        refine ⟨_, rfl, _, _, rfl, rfl, ⟨by decide, by decide, by decide⟩, _, _, rfl, rfl, .inl ⟨by decide, by decide⟩, _, _, rfl, rfl, a, _, rfl, R.pu, by decide, by decide, fun H6 r6 s6 p6 r60 r61 => ?_⟩
        refine ⟨_, _, rfl, rfl, ⟨by decide, by decide, by decide⟩, _, _, rfl, rfl, _, _, rfl, rfl, b, u, _, rfl, R.take s6 p6, hb, hu, ?_⟩
        have r61 : r6 < 2 * (10 : Int) ^ (Int.toNat 9) - 1 := r61
        rw [e9] at r61
        show (r6 - ((10 : Int) ^ (Int.toNat 9) - 1)).natAbs ≤ 1100000000
        rw [e9]
        omega
      clear R hb hu hz b u z
      obtain ⟨b, u, z, rfl, R, hb, hu, hz⟩ := hM
      obtain ⟨t0, mt0, ht0⟩ := ix_const (cs := ts) (r := 0) (Int.le_refl _) (by omega)
      obtain ⟨t1, mt1, ht1⟩ := ix_const (cs := ts) (r := 1) (by decide) (by omega)
      have b0 := htb t0 mt0
      have b1 := htb t1 mt1
      have hi14 : ((i : Nat) : Int).natAbs ≤ 14 := by omega
      have b1i : (t1 * ((i : Nat) : Int)).natAbs ≤ 4 * 14 := mul_le b1 hi14
      -- if sort == 3
      refine ⟨MidB 1100000000 a D F ts fs m sort ((i : Nat) : Int), ?_, fun σ' H6 hM => ?_⟩
      · refine ⟨_, rfl, rfl, _, rfl, ite2 (fun _ => ?_) (fun _ => ⟨b, u, z, rfl, R, hb, hu, hz⟩)⟩
        exact ⟨_, rfl, D, _, _, _, rfl, rfl, seq_of R.hT, ht0, _, rfl, D, _, _, _, rfl, rfl, seq_of R.hT, ht1, _, rfl, _, _, rfl, rfl, .inl ⟨by omega, by omega⟩, _, _, rfl, rfl, b, u, _, rfl, R, hb, hu, by omega⟩
      clear R hb hu hz b u z
      obtain ⟨b, u, z, rfl, R, hb, hu, hz⟩ := hM
      -- if sort == 4 or sort == 3 or sort == 7
      refine ⟨MidB 1200000000 a D F ts fs m sort ((i : Nat) : Int), ?_, fun σ' H7 hM => ?_⟩
      · refine ⟨_, rfl, rfl, _, rfl, ite2 (fun _ => ?_) (fun _ => ⟨_, rfl, rfl, _, rfl, ite2 (fun _ => ?_) (fun _ => ⟨_, rfl, rfl, _, rfl, ite2 (fun _ => ?_) (fun _ => ⟨b, u, z, rfl, R, hb, hu, by omega⟩)⟩)⟩)⟩
        all_goals
          refine ⟨_, rfl, _, rfl, a, 5, rfl, R.pu, by decide, by decide, fun H8 r8 s8 p8 r80 r81 => ⟨_, _, rfl, rfl, _, rfl, a, 6, rfl, p8, by decide, by decide, fun H9 r9 s9 p9 r90 r91 => ?_⟩⟩
          have f8 : ((r8 - 2) * (if decide (V.int r9 = V.int 5) = true then 1 else 0)).natAbs ≤ 4 := mul_flag (by omega) _
          exact ⟨rfl, .inr ⟨_, rfl, _, _, rfl, rfl, .inl ⟨by omega, by omega⟩, _, _, rfl, rfl, b, u, _, rfl, (R.take s8 p8).take s9 p9, hb, hu, by omega⟩⟩
      clear R hb hu hz b u z
      obtain ⟨b, u, z, rfl, R, hb, hu, hz⟩ := hM
      -- if sort == 5
      refine ⟨MidB 1300000000 a D F ts fs m sort ((i : Nat) : Int), ?_, fun σ' H8 hM => ?_⟩
      · refine ⟨_, rfl, rfl, _, rfl, ite2 (fun _ => ?_) (fun _ => ⟨b, u, z, rfl, R, hb, hu, by omega⟩)⟩
        refine ⟨_, rfl, D, _, _, _, rfl, rfl, seq_of R.hT, ht0, _, rfl, a, 9, rfl, R.pu, by decide, by decide, fun H8 r8 s8 p8 r80 r81 => ⟨_, _, rfl, rfl, _, rfl, a, 4, rfl, p8, by decide, by decide, fun H9 r9 s9 p9 r90 r91 => ?_⟩⟩
        have f8 : ((r8 - 4) * (if decide (V.int r9 = V.int 3) = true then 1 else 0)).natAbs ≤ 4 := mul_flag (by omega) _
        exact ⟨rfl, .inr ⟨_, rfl, _, _, rfl, rfl, .inl ⟨by omega, by omega⟩, _, _, rfl, rfl, b, u, _, rfl, (R.take s8 p8).take s9 p9, hb, hu, by omega⟩⟩
      clear R hb hu hz b u z
      obtain ⟨b, u, z, rfl, R, hb, hu, hz⟩ := hM
      -- found.append(number)
      refine ⟨_, rfl, .inl ⟨rfl, _, seq_of R.hF⟩, _, rfl, F, _, _, rfl, rfl, R.hF, ?_, b, u, fs ++ [z], _, _, rfl, R.app z, hb, hu, ?_, fun x hx => ?_⟩
      · rw [List.length_map]
        exact small1000 (by omega)
      · rw [List.length_append, hfl]
        rfl
      · rcases List.mem_append.mp hx with y | y
        · exact hfb x y
        · rw [List.mem_singleton.mp y]
          show z.natAbs < 2 ^ 40
          omega
    · obtain ⟨b, u, fs, y4, y9, rfl, R, hb, hu, hfl, hfb⟩ := hP
      exact ⟨_, rfl, q H2 F fs R.pu R.n2 R.hF (by omega) hfb⟩
end
end Rw
namespace Rw
open PySem PySem.Spec PyProof.Rows L2
theorem ix_kind {r : Int} (h0 : 0 ≤ r) (h1 : r < 3) : ∃ k : Knd, atI [V.str "plain", V.str "moved", V.str "shape"] r = some (V.str (nm k)) := by
  rcases (show r = 0 ∨ r = 1 ∨ r = 2 by omega) with rfl | rfl | rfl
  · exact ⟨.plain, rfl⟩
  · exact ⟨.moved, rfl⟩
  · exact ⟨.shape, rfl⟩
def bestD : Option (Frc × Nat × Nat) → PyData
  | none => .none
  | some b => .tuple [frD b.1, .int ((b.2.1 : Nat) : Int), .int ((b.2.2 : Nat) : Int)]
theorem BestAt.dp {K : PySem.W.Frag} {H : Hp} {v : V} {b : Option (Frc × Nat × Nat)} (h : BestAt H v b) : Dp K H v (bestD b) := by
  cases b with
  | none =>
    obtain rfl : v = .non := h
    exact .non
  | some b =>
    obtain ⟨f, p, q⟩ := b
    obtain ⟨r, vf, rfl, hr, hf⟩ := h
    exact .tup (set_of hr) (.cons hf.dp (.cons (.int _) (.cons (.int _) .nil)))
theorem bestD_shaped (b : Option (Frc × Nat × Nat)) : SeqAt.shaped (bestD b) = true := by
  cases b <;> rfl
theorem bestD_lay (b : Option (Frc × Nat × Nat)) : (bestD b).canLay0 = true := by
  cases b <;> rfl
theorem bestD_eqv (f : Frc) (p q : Nat) (b : Option (Frc × Nat × Nat)) : PyData.eqv (bestD (some (f, p, q))) (bestD b) = decide (some (f, p, q) = b) := by
  cases b with
  | none => simp [bestD, PyData.eqv]
  | some b =>
    obtain ⟨g, p', q'⟩ := b
    obtain ⟨a, c⟩ := f
    obtain ⟨a', c'⟩ := g
    rw [Bool.eq_iff_iff]
    simp [bestD, frD, PyData.eqv, PyData.eqvAll]
    omega
theorem lone_at {rows : Rows} (hG : GoodRows rows) : ∀ f p q, loneUp rows rows.length = some (f, p, q) → rows[p]? = some (some (f, q)) := fun f p q e => (loneUp_some hG e).at_
theorem filt_none (rows : Rows) : decide (((((rows.map nearV).filter fun v => !decide (v = .non)).length : Nat) : Int) = 0) = rows.all Option.isNone := by
  induction rows with
  | nil => rfl
  | cons r rs ih =>
    cases r with
    | none =>
      rw [List.map_cons, List.filter_cons_of_neg (by simp [nearV]), ih]
      rfl
    | some b =>
      rw [List.map_cons, List.filter_cons_of_pos (by simp [nearV])]
      simp
      omega
section
variable {P : Program} {w : World} {K : PySem.W.Frag} {mg : Str → Option Value} {base : Heap}
def spAsked : Sp := fun vs H Q _ => ∃ a : Addr, vs = [.ref a, .int 14] ∧ PuAt H a ∧ ∀ (H' : Hp) (R F : Addr) (fs : List Int) (k : Knd) (g L : Nat), H' R = some (.lst [.ref F, .str (nm k), .int (g : Nat), .int (L : Nat)]) → Ask H' F fs g L → Q (.ref R) H'
theorem scAsked : FnScope ["_law_purse_here", "_law_most", "_law_row_here", "_law_kind", "_law_length", "_law_gap"] ["_law_purse_here", "_law_most"] (defScope sAsked) := ⟨rfl, rfl, rfl, by decide +kernel, rfl, by decide +kernel, by decide +kernel⟩
theorem ok_asked (T : Txt K mg) : FnOk P w K mg base CX0 3 T.asked.f T.asked.fd ["_law_purse_here", "_law_most"] spAsked := by
  refine T.asked.fn.ok scAsked (fun vs H Q E h => ?_) (fun cdv A outer s H vs Q E hr h => ?_)
  · obtain ⟨a, rfl, _⟩ := h
    rfl
  · obtain ⟨a, rfl, hp, q⟩ := h
    have nd := scAsked.nd
    have hr1 : Room 1 _ := hr.mono (by decide)
    refine ⟨_, pss_cons (ps_set (i := 2) nd rfl (.inl rfl) (pcall T.row (ok_row T) hr (pa_cons (pv 0) (pa_cons (pv 1) pa_nil))))
      (pss_cons (ps_set (i := 3) nd rfl (.inl rfl) (pe_ix ix_list (pe_lst (pa_cons pe_str (pa_cons pe_str (pa_cons pe_str pa_nil)))) (pcall T.take (ok_take T) hr1 (pa_cons (pv 0) (pa_cons pe_int pa_nil))) (fun _ _ => rfl)))
      (pss_cons (ps_set (i := 4) nd rfl (.inl rfl) (pe_op op_add pe_int (pcall T.take (ok_take T) hr1 (pa_cons (pv 0) (pa_cons (pe_ix ix_list (pe_lst (pa_cons pe_int (pa_cons pe_int (pa_cons pe_int (pa_cons pe_int pa_nil))))) (pcall T.take (ok_take T) hr1 (pa_cons (pv 0) (pa_cons pe_int pa_nil))) (fun _ _ => rfl)) pa_nil)))))
      (pss_cons (ps_set (i := 5) nd rfl (.inl rfl) (pe_op op_add pe_int (pcall T.take (ok_take T) hr1 (pa_cons (pv 0) (pa_cons (pe_ix ix_list (pe_lst (pa_cons pe_int (pa_cons pe_int (pa_cons pe_int (pa_cons pe_int pa_nil))))) (pcall T.take (ok_take T) hr1 (pa_cons (pv 0) (pa_cons pe_int pa_nil))) (fun _ _ => rfl)) pa_nil)))))
      (C8.pss_cut (ps_if (pt_cmpR op_eq (pcall T.take (ok_take T) hr1 (pa_cons (pv 0) (pa_cons pe_int pa_nil))) pe_int (nomark _))
        (pss_one (ps_set (i := 4) nd rfl (.inl rfl) (pe_ix ix_list (pe_lst (pa_cons pe_int (pa_cons (pe_callB call_len_seq (by rfl) T.len PySem.boot_len (pa_cons (pv 2) pa_nil)) (pa_cons (pe_op op_add (pe_callB call_len_seq (by rfl) T.len PySem.boot_len (pa_cons (pv 2) pa_nil)) pe_int) (pa_cons pe_int pa_nil)))))
          (pcall T.take (ok_take T) hr1 (pa_cons (pv 0) (pa_cons pe_int pa_nil))) (fun _ _ => rfl)))) pss_nil)
      (pss_cons (ps_set (i := 4) nd rfl (.inl rfl) (pe_callB (call_min2 rfl) (by rfl) T.min (by decide +kernel) (pa_cons pe_int (pa_cons (pe_callB (call_max2 rfl) (by rfl) T.max (by decide +kernel) (pa_cons pe_int (pa_cons (pv 4) pa_nil))) pa_nil))))
      (C8.pss_cut (ps_if (pt_cmpR op_eq (pcall T.take (ok_take T) hr1 (pa_cons (pv 0) (pa_cons pe_int pa_nil))) pe_int (nomark _))
        (pss_one (ps_set (i := 5) nd rfl (.inl rfl) (pe_ix ix_list (pe_lst (pa_cons pe_int (pa_cons (pe_callB (call_max2 rfl) (by rfl) T.max (by decide +kernel) (pa_cons pe_int (pa_cons (pe_op op_sub (pe_callB call_len_seq (by rfl) T.len PySem.boot_len (pa_cons (pv 2) pa_nil)) (pv 4)) pa_nil)))
            (pa_cons (pe_op op_add (pe_callB call_len_seq (by rfl) T.len PySem.boot_len (pa_cons (pv 2) pa_nil)) pe_int) (pa_cons pe_int pa_nil)))))
          (pcall T.take (ok_take T) hr1 (pa_cons (pv 0) (pa_cons pe_int pa_nil))) (fun _ _ => rfl)))) pss_nil)
      (pss_one (ps_ret (pe_lst (pa_cons (pv 2) (pa_cons (pv 3) (pa_cons (pv 5) (pa_cons (pv 4) pa_nil))))))))))))), ?_⟩
    refine ⟨_, rfl, _, rfl, a, rfl, hp, fun H1 F fs p1 nF hF hfl hfb => ?_⟩
    -- kind
    refine ⟨(by show 3 ≤ sizeLine; decide), fun l hl => ?_⟩
    refine ⟨_, rfl, a, 3, rfl, p1.new hl, by decide, by decide, fun H2 r s2 p2 r0 r1 => ?_⟩
    obtain ⟨k, hk⟩ := ix_kind r0 r1
    refine ⟨l, _, _, _, rfl, rfl, seq_of (s2 l _ (p1.ne hl) upd_same), hk, ?_⟩
    have hF2 := s2 F _ nF (ne_upd hF hl)
    -- length
    refine ⟨_, rfl, (by show 4 ≤ sizeLine; decide), fun l3 hl3 => ?_⟩
    refine ⟨_, rfl, a, 4, rfl, p2.new hl3, by decide, by decide, fun H3 r3 s3 p3 r30 r31 => ?_⟩
    obtain ⟨c3, mc3, hc3⟩ := ix_const (cs := [3, 5, 8, 12]) r30 r31
    have bc3 : 0 < c3 ∧ c3 ≤ 12 := (by decide : ∀ c ∈ ([3, 5, 8, 12] : List Int), 0 < c ∧ c ≤ 12) c3 mc3
    have hF3 := s3 F _ nF (ne_upd hF2 hl3)
    refine ⟨l3, _, _, _, rfl, rfl, seq_of (s3 l3 _ (p2.ne hl3) upd_same), hc3, a, c3, rfl, p3, bc3.1, by omega, fun H4 r4 s4 p4 r40 r41 => ⟨_, _, rfl, rfl, ?_⟩⟩
    have hF4 := s4 F _ nF hF3
    -- gap
    refine ⟨_, rfl, (by show 4 ≤ sizeLine; decide), fun l5 hl5 => ?_⟩
    refine ⟨_, rfl, a, 4, rfl, p4.new hl5, by decide, by decide, fun H5 r5 s5 p5 r50 r51 => ?_⟩
    obtain ⟨c5, mc5, hc5⟩ := ix_const (cs := [2, 4, 8, 12]) r50 r51
    have bc5 : 0 < c5 ∧ c5 ≤ 12 := (by decide : ∀ c ∈ ([2, 4, 8, 12] : List Int), 0 < c ∧ c ≤ 12) c5 mc5
    have hF5 := s5 F _ nF (ne_upd hF4 hl5)
    refine ⟨l5, _, _, _, rfl, rfl, seq_of (s5 l5 _ (p4.ne hl5) upd_same), hc5, a, c5, rfl, p5, bc5.1, by omega, fun H6 r6 s6 p6 r60 r61 => ⟨_, _, rfl, rfl, ?_⟩⟩
    have hF6 := s6 F _ nF hF5
    -- if take(24) == 23: length
    refine ⟨fun σ' H' => ∃ len : Int, σ' = [some (.ref a), some (.int 14), some (.ref F), some (.str (nm k)), some (.int len), some (.int (1 + r6))] ∧ PuAt H' a ∧ H' F = some (.lst (fs.map V.int)), ?_, fun σ' H7 hM => ?_⟩
    · refine ⟨_, rfl, a, 24, rfl, p6, by decide, by decide, fun H7 r7 s7 p7 r70 r71 => ⟨rfl, _, rfl, ite2 (fun _ => ?_) (fun _ => ⟨_, rfl, p7, s7 F _ nF hF6⟩)⟩⟩
      have hF7 := s7 F _ nF hF6
      refine ⟨_, rfl, F, _, rfl, .inl (seq_of hF7), _, rfl, F, _, rfl, .inl (seq_of hF7), _, _, rfl, rfl, (by show 4 ≤ sizeLine; decide), fun l8 hl8 => ?_⟩
      refine ⟨_, rfl, a, 4, rfl, p7.new hl8, by decide, by decide, fun H8 r8 s8 p8 r80 r81 => ?_⟩
      obtain ⟨c8, mc8, hc8⟩ := ix_const (cs := [40, (((fs.map V.int).length : Nat) : Int), (((fs.map V.int).length : Nat) : Int) + 1, 39]) r80 r81
      exact ⟨l8, _, _, _, rfl, rfl, seq_of (s8 l8 _ (p7.ne hl8) upd_same), hc8, c8, rfl, p8, s8 F _ nF (ne_upd hF7 hl8)⟩
    obtain ⟨len, rfl, p7, hF7⟩ := hM
    -- length = min(40, max(1, length))
    refine ⟨_, rfl, _, _, rfl, _, _, rfl, ?_⟩
    obtain ⟨L, eL, hL1, hL2⟩ : ∃ L : Nat, (if (if len > 1 then len else 1) < 40 then (if len > 1 then len else 1) else 40) = ((L : Nat) : Int) ∧ 1 ≤ L ∧ L ≤ 40 := by
      refine ⟨(if (if len > 1 then len else 1) < 40 then (if len > 1 then len else 1) else 40).toNat, ?_, ?_, ?_⟩ <;> (repeat' split) <;> omega
    rw [eL]
    -- if take(24) == 23: gap
    refine ⟨fun σ' H' => ∃ g : Nat, σ' = [some (.ref a), some (.int 14), some (.ref F), some (.str (nm k)), some (.int (L : Nat)), some (.int (g : Nat))] ∧ 1 ≤ g ∧ g ≤ 200 ∧ H' F = some (.lst (fs.map V.int)), ?_, fun σ' H8 hM => ?_⟩
    · refine ⟨_, rfl, a, 24, rfl, p7, by decide, by decide, fun H8 r8 s8 p8 r80 r81 => ⟨rfl, _, rfl, ite2 (fun _ => ?_) (fun _ => ?_)⟩⟩
      · have hF8 := s8 F _ nF hF7
        refine ⟨_, rfl, F, _, rfl, .inl (seq_of hF8), _, rfl, _, _, rfl, rfl, _, _, rfl, _, rfl, F, _, rfl, .inl (seq_of hF8), _, _, rfl, rfl, (by show 4 ≤ sizeLine; decide), fun l9 hl9 => ?_⟩
        refine ⟨_, rfl, a, 4, rfl, p8.new hl9, by decide, by decide, fun H9 r9 s9 p9 r90 r91 => ?_⟩
        obtain ⟨c9, mc9, hc9⟩ := ix_const (cs := [200, (if (((fs.map V.int).length : Nat) : Int) - ((L : Nat) : Int) > 1 then (((fs.map V.int).length : Nat) : Int) - ((L : Nat) : Int) else 1), (((fs.map V.int).length : Nat) : Int) + 1, 199]) r90 r91
        have bc9 : 1 ≤ c9 ∧ c9 ≤ 200 := by
          have hl : (fs.map V.int).length = fs.length := List.length_map _
          rw [hl] at mc9
          simp only [List.mem_cons, List.not_mem_nil, or_false] at mc9
          rcases mc9 with e | e | e | e
          · omega
          · rw [e]
            split <;> omega
          · omega
          · omega
        have ec : ((c9.toNat : Nat) : Int) = c9 := by omega
        refine ⟨l9, _, _, _, rfl, rfl, seq_of (s9 l9 _ (p8.ne hl9) upd_same), hc9, c9.toNat, ?_, by omega, by omega, s9 F _ nF (ne_upd hF8 hl9)⟩
        rw [ec]
        rfl
      · have ec : (((1 + r6).toNat : Nat) : Int) = 1 + r6 := by omega
        refine ⟨(1 + r6).toNat, ?_, by omega, by omega, s8 F _ nF hF7⟩
        rw [ec]
        rfl
    obtain ⟨g, rfl, hg1, hg2, hF8⟩ := hM
    refine ⟨_, rfl, _, rfl, _, rfl, _, rfl, (by show 4 ≤ sizeLine; decide), fun R hR => ?_⟩
    exact q _ R F fs k g L upd_same ⟨ne_upd hF8 hR, hfb, by omega, hg1, hg2, hL1, hL2⟩
end
end Rw
namespace Rw
open PySem PySem.Spec PyProof.Rows L2
section
variable {P : Program} {w : World} {K : PySem.W.Frag} {mg : Str → Option Value} {base : Heap}
def spLaw (K : PySem.W.Frag) : Sp := fun vs H Q _ => ∃ (a : Addr) (ns : List Int), vs = [.ref a] ∧ SqL K H a (ns.map V.int) ∧ ns.length ≤ 63 ∧ ∀ H', Q (.bl true) H'
theorem scLaw : FnScope ["_law_script", "_law_purse_here", "_law_row_here", "_law_kind", "_law_gap", "_law_length", "_law_told", "_law_best", "_law_rows", "_law_nears", "_law_one", "_law_place", "_law_other", "_law_q"] ["_law_script"] (defScope sLaw) := ⟨rfl, rfl, rfl, by decide +kernel, rfl, by decide +kernel, by decide +kernel⟩
theorem ok_law (T : Txt K mg) {f : Addr} {fd : FuncData} (Fn : Fun K "law" "law" sLaw f fd) : FnOk P w K mg base CX0 8 f fd ["_law_script"] (spLaw K) := by
  refine Fn.ok scLaw (fun vs H Q E h => ?_) (fun cdv A outer s H vs Q E hr h => ?_)
  · obtain ⟨a, ns, rfl, _⟩ := h
    rfl
  · obtain ⟨a, ns, rfl, ha, hn, q⟩ := h
    have nd := scLaw.nd
    refine ⟨_, pss_cons (ps_set (i := 1) nd rfl (.inl rfl) (pcall T.purse (ok_purse T) (hr.mono (by decide)) (pa_cons (pv 0) pa_nil)))
      (pss_cons (ps_asg (g := gUnl K 4 (gCons (gName 2) (gCons (gName 3) (gCons (gName 4) (gCons (gName 5) gNil))))) (pcall T.asked (ok_asked T) (hr.mono (by decide)) (pa_cons (pv 1) (pa_cons pe_int pa_nil)))
        (pg_unl rfl (pgs_cons (pg_name (i := 2) nd rfl (Or.inl rfl)) (pgs_cons (pg_name (i := 3) nd rfl (Or.inl rfl)) (pgs_cons (pg_name (i := 4) nd rfl (Or.inl rfl)) (pgs_cons (pg_name (i := 5) nd rfl (Or.inl rfl)) pgs_nil))))))
      (pss_cons (ps_set (i := 6) nd rfl (.inl rfl) (pcall T.paper (ok_paper T) hr (pa_cons (pv 2) (pa_cons (pv 3) (pa_cons (pv 4) (pa_cons (pv 5) pa_nil))))))
      (pss_cons (ps_set (i := 7) nd rfl (.inl rfl) (pcall T.lonely (ok_lonely T) hr (pa_cons (pv 2) (pa_cons (pv 3) (pa_cons (pv 4) (pa_cons (pv 5) pa_nil))))))
      (pss_cons (ps_set (i := 8) nd rfl (.inl rfl) (pcall T.table (ok_table T) hr (pa_cons (pv 2) (pa_cons (pv 3) (pa_cons (pv 4) (pa_cons (pv 5) pa_nil))))))
      (pss_cons (ps_if (PW.pt (pw_or (pt_cmpR (op_neD hr.units) (pe_ix ix_tup (pv 6) pe_int (fun _ _ => rfl)) (pv 7) (nomark _))
          (pw_or1 (pt_cmpR op_notBl (pcall T.shows_ (ok_shows T) (hr.mono (by decide)) (pa_cons (pv 2) (pa_cons (pv 3) (pa_cons (pv 4) (pa_cons (pv 5) (pa_cons (pv 6) pa_nil)))))) pe_bl (nomark _)))))
        (pss_one (ps_ret pe_bl)) pss_nil)
      (pss_cons (ps_set (i := 9) nd rfl (.inl rfl) (pe_lst pa_nil))
      (pss_cons (ps_for PassesOwn.never rfl (pi_list (pv 8)) (pg_name (i := 10) nd rfl (Or.inl rfl))
        (pss_one (ps_if (pt_cmpR op_isN (pv 10) pe_non (nomark _))
          (pss_one (ps_expr (pe_bm PySem.F.plainAttrs_list PySem.F.slot_list_append PySem.F.type_list_append mt_append (pv 9) (pa_cons pe_non pa_nil))))
          (pss_one (ps_expr (pe_bm PySem.F.plainAttrs_list PySem.F.slot_list_append PySem.F.type_list_append mt_append (pv 9) (pa_cons (pe_ix ix_tup (pv 10) pe_int (fun _ _ => rfl)) pa_nil)))))))
      (pss_cons (ps_if (pt_cmpR op_ne (pcall T.shows_ (ok_shows T) (hr.mono (by decide)) (pa_cons (pv 2) (pa_cons (pv 3) (pa_cons (pv 4) (pa_cons (pv 5) (pa_cons (pe_tup (pa_cons pe_non (pa_cons (pv 9) pa_nil))) pa_nil))))))
          (pe_cmpR op_eq (pe_callB call_len_seq (by rfl) T.len PySem.boot_len (pa_cons
            (pe_lc (own := [("_law_q", 13)]) (g := gName 13) (tt := tTest (tOp (fun x y H Q => y = .non ∧ Q (.bl (!decide (x = .non))) H) (tVar 13) (tC .non))) rfl nd (pi_list (pv 9))
              (blkOk_by (own := [("_law_q", 13)]) (N := ["_law_script", "_law_purse_here", "_law_row_here", "_law_kind", "_law_gap", "_law_length", "_law_told", "_law_best", "_law_rows", "_law_nears", "_law_one", "_law_place", "_law_other", "_law_q"]) (sc := defScope sLaw) (by decide +kernel))
              (fun _ _ _ _ _ => pg_name (i := 13) nd rfl (Or.inl rfl)) (fun _ _ _ _ _ => pts_one (pt_cmpR op_notN (pv 13) pe_non (nomark _))) (fun _ _ _ _ _ => pv 13)) pa_nil)) pe_int (nomark _)) (nomark _))
        (pss_one (ps_ret pe_bl)) pss_nil)
      (pss_cons (ps_for PassesOwn.never rfl (pi_range1 (by rfl) T.range (pa_cons (pe_callB call_len_seq (by rfl) T.len PySem.boot_len (pa_cons (pv 8) pa_nil)) pa_nil)) (pg_name (i := 11) nd rfl (Or.inl rfl))
        (pss_one (ps_if (pt_cmpR op_notN (pe_ix ix_list (pv 8) (pv 11) (fun _ _ => rfl)) pe_non (nomark _))
          (pss_cons (ps_set (i := 12) nd rfl (.inl rfl) (pe_tup (pa_cons (pe_ix ix_tup (pe_ix ix_list (pv 8) (pv 11) (fun _ _ => rfl)) pe_int (fun _ _ => rfl)) (pa_cons (pv 11) (pa_cons (pe_ix ix_tup (pe_ix ix_list (pv 8) (pv 11) (fun _ _ => rfl)) pe_int (fun _ _ => rfl)) pa_nil)))))
            (pss_one (ps_if (pt_cmpR op_ne (pcall T.shows_ (ok_shows T) (hr.mono (by decide)) (pa_cons (pv 2) (pa_cons (pv 3) (pa_cons (pv 4) (pa_cons (pv 5) (pa_cons (pe_tup (pa_cons (pv 12) (pa_cons (pe_callTy call_list_of (by rfl) T.list (by decide +kernel) (pa_cons (pv 9) pa_nil)) pa_nil))) pa_nil))))))
                (pe_cmpR (op_eqD hr.units) (pv 12) (pv 7) (nomark _)) (nomark _))
              (pss_one (ps_ret pe_bl)) pss_nil))) pss_nil)))
      (pss_one (ps_ret pe_bl))))))))))), ?_⟩
    refine ⟨_, rfl, a, ns, rfl, ha, hn, fun H1 p pp => ?_⟩
    refine ⟨_, rfl, p, rfl, pp, fun H2 R0 F fs k g L hR0 hA => ?_⟩
    refine ⟨R0, _, rfl, seq_of hR0, rfl, _, _, rfl, _, _, rfl, _, _, rfl, _, _, rfl, rfl, ?_⟩
    have hG := hA.good k
    -- lonely_paper, lonely, table
    refine ⟨_, rfl, _, rfl, _, rfl, _, rfl, F, fs, k, g, L, rfl, hA, fun H3 t bv N s3 ht hb hN => ?_⟩
    have hA3 := hA.same s3
    refine ⟨_, rfl, _, rfl, _, rfl, _, rfl, F, fs, k, g, L, rfl, hA3, fun H4 bl s4 hbl => ?_⟩
    have hA4 := hA3.same s4
    refine ⟨_, rfl, _, rfl, _, rfl, _, rfl, F, fs, k, g, L, rfl, hA4, fun H5 R us s5 hR hu => ?_⟩
    have hA5 := hA4.same s5
    have hbl5 := hbl.same s5
    have hb5 := hb.same (s4.trans s5)
    have ht5 := (s4.trans s5) _ _ ht
    have hN5 := (s4.trans s5) _ _ hN
    have hl : us.length = fs.length + 1 - L := by rw [hu.len, rowsA_len]
    have hn100 := hA.len
    have hrl : (rowsA fs k g L).length = fs.length + 1 - L := rowsA_len _ _ _ _
    have lat := lone_at hG
    have slone := shows_the_lone hG
    have sjust : ∀ (f : Frc) (p q : Nat), (rowsA fs k g L)[p]? = some (some (f, q)) → showsM (rowsA fs k g L) (some (f, p, q)) = decide (some (f, p, q) = loneUp (rowsA fs k g L) (rowsA fs k g L).length) := fun f p q h => shows_just hG h
    have fno := filt_none (rowsA fs k g L)
    generalize hrows : rowsA fs k g L = rows at hb5 hN5 hbl5 hu hrl lat slone sjust fno
    have hul : us.length = rows.length := hu.len
    generalize hlone : loneUp rows rows.length = lone at hb5 hbl5 lat slone sjust
    -- told[0] != best or shows_lonely(..) is not True
    refine ⟨_, rfl, t, _, _, _, rfl, rfl, set_of ht5, atI_nat (j := 0) rfl, _, rfl, bestD lone, bestD lone, hb5.dp, hbl5.dp, bestD_shaped _, bestD_shaped _, _, rfl, ?_⟩
    rw [SeqAt.eqv_refl _ (bestD_lay _)]
    refine iteF ⟨_, rfl, _, rfl, _, rfl, _, rfl, _, rfl, F, fs, k, g, L, t, bv, N, lone, rfl, hA5, ht5, hb5, by rw [hrows]; exact hN5, by rw [hrows]; exact lat, fun H6 s6 => ?_⟩
    rw [hrows, slone]
    refine ⟨_, _, rfl, rfl, _, rfl, ?_⟩
    refine iteNS rfl ?_
    have hA6 := hA5.same s6
    have hbl6 := hbl5.same s6
    have hR6 := s6 _ _ hR
    have hu6 := hu.same s6
    -- nears
    refine ⟨Nat.zero_le _, fun M hM => ?_⟩
    have sM : Same H6 (upd H6 M (.lst [])) := same_upd hM
    refine ⟨_, rfl, R, rfl, ⟨_, seq_of (sM _ _ hR6)⟩, for_list (K := K) (a := R) (xs := us)
      (fun i σ H' => ∃ y10 : Option V, σ = [some (.ref a), some (.ref p), some (.ref F), some (.str (nm k)), some (.int (g : Nat)), some (.int (L : Nat)), some (.ref t), some bl, some (.ref R), some (.ref M), y10, none, none, none] ∧ Same H6 H' ∧ H' M = some (.lst ((rows.map nearV).take i)))
      ⟨none, rfl, sM, upd_same⟩ (fun i σ H' _ hP => ?_) (fun i x σ H' hx hP => ?_) (fun σ H' hP => ?_)⟩
    · obtain ⟨y10, rfl, sm, h⟩ := hP
      exact seq_of (sm _ _ hR6)
    · obtain ⟨y10, rfl, sm, h⟩ := hP
      have hi : i < us.length := (List.getElem?_eq_some_iff.mp hx).1
      have gr : rows[i]? = some (rows[i]'(by omega)) := List.getElem?_eq_getElem (by omega)
      generalize rows[i]'(by omega) = r at gr
      have hr' := (hu6.at_ i x r hx gr).same sm
      have sz : ((rows.map nearV).take i).length < sizeLine := by
        rw [List.length_take, List.length_map]
        exact small1000 (by omega)
      have fin : ∀ v, v = nearV r → ∃ y10 : Option V, [some (.ref a), some (.ref p), some (.ref F), some (.str (nm k)), some (.int (g : Nat)), some (.int (L : Nat)), some (.ref t), some bl, some (.ref R), some (.ref M), some x, none, none, none] =
          [some (.ref a), some (.ref p), some (.ref F), some (.str (nm k)), some (.int (g : Nat)), some (.int (L : Nat)), some (.ref t), some bl, some (.ref R), some (.ref M), y10, none, none, none] ∧
          Same H6 (upd H' M (.lst ((rows.map nearV).take i ++ [v]))) ∧ upd H' M (.lst ((rows.map nearV).take i ++ [v])) M = some (.lst ((rows.map nearV).take (i + 1))) := fun v e => by
        refine ⟨_, rfl, sm.chg hM, ?_⟩
        rw [upd_same, nears_take gr, e]
      refine ⟨_, rfl, rfl, _, rfl, ?_⟩
      cases r with
      | none =>
        obtain rfl : x = .non := hr'
        refine ite2 (fun _ => ?_) (fun h => absurd (decide_eq_true rfl) h)
        exact ⟨_, rfl, .inl ⟨rfl, _, seq_of h⟩, M, _, _, rfl, rfl, h, sz, fin _ rfl⟩
      | some b =>
        obtain ⟨f1, q1⟩ := b
        obtain ⟨r1, vf1, rfl, hr1, hf1⟩ := hr'
        refine ite2 (fun h => absurd (of_decide_eq_true h) (fun z => nomatch z)) (fun _ => ?_)
        exact ⟨_, rfl, .inl ⟨rfl, _, seq_of h⟩, _, rfl, r1, _, _, _, rfl, rfl, set_of hr1, atI_nat (j := 1) rfl, M, _, _, rfl, rfl, h, sz, fin _ rfl⟩
    obtain ⟨y10, rfl, sm, hMM⟩ := hP
    rw [List.take_of_length_le (by rw [List.length_map, hul]; exact Nat.le_refl _)] at hMM
    have hA7 := hA6.same sm
    have hbl7 := hbl6.same sm
    have hR7 := sm _ _ hR6
    have hu7 := hu6.same sm
    -- shows_lonely(.., (None, nears)) != (len([..]) == 0)
    refine ⟨_, rfl, _, rfl, _, rfl, _, rfl, _, rfl, (by show 2 ≤ sizeLine; decide), fun t2 ht2 => ?_⟩
    have st2 : Same H' (upd H' t2 (.tup [.non, .ref M])) := same_upd ht2
    refine ⟨F, fs, k, g, L, t2, .non, M, none, rfl, hA7.same st2, upd_same, rfl, by rw [hrows]; exact st2 _ _ hMM, fun f p q e => (nomatch e), fun H8 s8 => ?_⟩
    rw [hrows]
    have s78 := st2.trans s8
    have hM8 := s78 _ _ hMM
    have hA8 := hA7.same s78
    have hbl8 := hbl7.same s78
    have hR8 := s78 _ _ hR7
    have hu8 := hu7.same s78
    refine ⟨_, rfl, M, rfl, ⟨_, seq_of hM8⟩, fun D hD => lc_list (K := K) (a := M) (xs := rows.map nearV) (fun i H9 => Same H8 H9 ∧ H9 D = some (.lst (((rows.map nearV).take i).filter fun v => !decide (v = .non))))
      ⟨same_upd hD, upd_same⟩ (fun i H9 _ h => seq_of (h.1 _ _ hM8)) (fun i v H9 hv h => ?_) (fun H9 h => ?_)⟩
    · have et : (rows.map nearV).take (i + 1) = (rows.map nearV).take i ++ [v] := by
        rw [List.take_add_one, hv]
        rfl
      have sz : (((rows.map nearV).take i).filter fun v => !decide (v = .non)).length < sizeLine := by
        refine small1000 (Nat.le_trans (List.length_filter_le _ _) ?_)
        rw [List.length_take, List.length_map]
        omega
      refine ⟨rfl, _, rfl, rfl, _, rfl, ?_⟩
      refine ite2 (fun hne => ?_) (fun hne => ?_)
      · refine ⟨_, rfl, _, h.2, sz, h.1.chg hD, ?_⟩
        have ef : List.filter (fun v => !decide (v = V.non)) [v] = [v] := List.filter_cons_of_pos (p := fun v => !decide (v = V.non)) hne
        rw [upd_same, et, List.filter_append, ef]
      · refine ⟨h.1, ?_⟩
        have ef : List.filter (fun v => !decide (v = V.non)) [v] = [] := List.filter_cons_of_neg (p := fun v => !decide (v = V.non)) hne
        rw [et, List.filter_append, ef, List.append_nil]
        exact h.2
    obtain ⟨s9, hD9⟩ := h
    rw [List.take_of_length_le (Nat.le_refl _)] at hD9
    refine ⟨D, _, rfl, .inl (seq_of hD9), rfl, rfl, _, rfl, ?_⟩
    refine iteNS (by rw [dint, fno]; rfl) ?_
    have hM9 := s9 _ _ hM8
    have hA9 := hA8.same s9
    have hbl9 := hbl8.same s9
    have hR9 := s9 _ _ hR8
    have hu9 := hu8.same s9
    -- for place in range(len(rows))
    refine ⟨_, rfl, R, _, rfl, .inl (seq_of hR9), _, rfl, by omega, by omega, for_range (lo := 0) (n := us.length)
      (fun i σ H' => ∃ y11 y12 : Option V, σ = [some (.ref a), some (.ref p), some (.ref F), some (.str (nm k)), some (.int (g : Nat)), some (.int (L : Nat)), some (.ref t), some bl, some (.ref R), some (.ref M), y10, y11, y12, none] ∧ Same H9 H')
      ⟨none, none, rfl, Same.refl _⟩ (fun i σ H' hi hP => ?_) (fun σ H' hP => ?_)⟩
    · obtain ⟨y11, y12, rfl, sm⟩ := hP
      rw [Int.zero_add]
      have gu : us[i]? = some us[i] := List.getElem?_eq_getElem hi
      have gr : rows[i]? = some (rows[i]'(by omega)) := List.getElem?_eq_getElem (by omega)
      generalize us[i] = u at gu
      generalize rows[i]'(by omega) = r at gr
      have hr' := (hu9.at_ i u r gu gr).same sm
      have hR' := sm _ _ hR9
      have hM' := sm _ _ hM9
      have hA' := hA9.same sm
      have hbl' := hbl9.same sm
      refine ⟨_, rfl, _, rfl, R, _, _, _, rfl, rfl, seq_of hR', atI_nat (j := i) gu, rfl, _, rfl, ?_⟩
      cases r with
      | none =>
        obtain rfl : u = .non := hr'
        refine ite2 (fun h => ?_) (fun _ => ⟨_, _, rfl, sm⟩)
        rw [decide_eq_true rfl] at h
        cases h
      | some b =>
        obtain ⟨f1, q1⟩ := b
        obtain ⟨r1, vf1, rfl, hr1, hf1⟩ := hr'
        refine ite2 (fun _ => ?_) (fun h => absurd (by rw [decide_eq_false (fun z => nomatch z)]; rfl) h)
        refine ⟨_, rfl, _, rfl, R, _, _, _, rfl, rfl, seq_of hR', atI_nat (j := i) gu, r1, _, _, _, rfl, rfl, set_of hr1, atI_nat (j := 0) rfl, _, rfl, ?_⟩
        refine ⟨_, rfl, _, rfl, R, _, _, _, rfl, rfl, seq_of hR', atI_nat (j := i) gu, r1, _, _, _, rfl, rfl, set_of hr1, atI_nat (j := 1) rfl, (by show 3 ≤ sizeLine; decide), fun o ho => ?_⟩
        have so : Same H' (upd H' o (.tup [vf1, .int ((i : Nat) : Int), .int ((q1 : Nat) : Int)])) := same_upd ho
        have hbo : BestAt (upd H' o (.tup [vf1, .int ((i : Nat) : Int), .int ((q1 : Nat) : Int)])) (.ref o) (some (f1, i, q1)) := ⟨o, vf1, rfl, upd_same, hf1.same so⟩
        have hMo := so _ _ hM'
        have hAo := hA'.same so
        have hblo := hbl'.same so
        have smo := sm.trans so
        generalize upd H' o (.tup [vf1, .int ((i : Nat) : Int), .int ((q1 : Nat) : Int)]) = Ho at hbo hMo hAo hblo smo
        refine ⟨_, rfl, _, rfl, _, rfl, _, rfl, _, rfl, _, rfl, M, _, rfl, .inl (seq_of hMo), fun l hl => ?_⟩
        have sl : Same Ho (upd Ho l (.lst (rows.map nearV))) := same_upd hl
        refine ⟨(by show 2 ≤ sizeLine; decide), fun t3 ht3 => ?_⟩
        have st3 := sl.new (o := .tup [.ref o, .ref l]) ht3
        refine ⟨F, fs, k, g, L, t3, .ref o, l, some (f1, i, q1), rfl, hAo.same st3, upd_same, hbo.same st3, ?_, ?_, fun Hz sz => ?_⟩
        · rw [hrows]
          exact ne_upd upd_same ht3
        · intro f p q e
          cases e
          rw [hrows]
          exact gr
        rw [hrows, sjust _ _ _ gr]
        have sz' := st3.trans sz
        refine ⟨_, rfl, _, rfl, bestD (some (f1, i, q1)), bestD lone, (hbo.same sz').dp, (hblo.same sz').dp, bestD_shaped _, bestD_shaped _, rfl, _, rfl, ?_⟩
        refine iteNS (by rw [bestD_eqv]) ?_
        exact ⟨_, _, rfl, smo.trans sz'⟩
    · exact q H'
end
end Rw
namespace Rw
open PySem PySem.Spec PyProof.Rows L2
/-- a def of the top from what stands behind it -/
def daMk {K : PySem.W.Frag} {mg : Str → Option Value} {h : Heap} {x : Str} {st : Stmt} {ps : List Str} {f : Addr} {oc : Value} {od an : Option Addr} {osl : Array (Option Value)} {kV doc pm cdv ct : Value} (X : K.In h) (G : h.Ns mainGlobals mg)
    (a : PySem.W.nsIn K mainGlobals x = some (some (.ref f))) (l : K.lookup f = some ⟨oc, od, .func (PySem.W.fnOf x x (defArgs st) (defBody st) (defScope st) .none kV doc pm an cdv ct), osl⟩) (c : PySem.W.codeIn K cdv x = true) (k : PySem.W.keepIn K (.ref f) = true)
    (hb : ∀ (kV doc pm : Value) (an : Option Addr) (cdv ct : Value) (us : List Value), us.length = ps.length → bindArgs (PySem.W.fnOf x x (defArgs st) (defBody st) (defScope st) .none kV doc pm an cdv ct) ⟨us, []⟩ = pure (ps.zip us)) : DA K mg x st ps :=
  ⟨f, _, fun_mk l c k, (fun_mk l c k).binds hb, PySem.W.mg_of X G a⟩
theorem all_mk {l : PySem.W.OpenLaw} {w : World} {K : PySem.W.Frag} {h : Heap} {mg : Str → Option Value} {fa : Addr} (X : K.In h) (G : h.Ns mainGlobals mg) (hfa : mg "law" = some (.ref fa))
    {f1 : Addr} {od1 an1 : Option Addr} {sl1 : Array (Option Value)} {oc1 kV1 dc1 pm1 cd1 ct1 : Value}
    {f2 : Addr} {od2 an2 : Option Addr} {sl2 : Array (Option Value)} {oc2 kV2 dc2 pm2 cd2 ct2 : Value}
    {f3 : Addr} {od3 an3 : Option Addr} {sl3 : Array (Option Value)} {oc3 kV3 dc3 pm3 cd3 ct3 : Value}
    {f4 : Addr} {od4 an4 : Option Addr} {sl4 : Array (Option Value)} {oc4 kV4 dc4 pm4 cd4 ct4 : Value}
    {f5 : Addr} {od5 an5 : Option Addr} {sl5 : Array (Option Value)} {oc5 kV5 dc5 pm5 cd5 ct5 : Value}
    {f6 : Addr} {od6 an6 : Option Addr} {sl6 : Array (Option Value)} {oc6 kV6 dc6 pm6 cd6 ct6 : Value}
    {f7 : Addr} {od7 an7 : Option Addr} {sl7 : Array (Option Value)} {oc7 kV7 dc7 pm7 cd7 ct7 : Value}
    {f8 : Addr} {od8 an8 : Option Addr} {sl8 : Array (Option Value)} {oc8 kV8 dc8 pm8 cd8 ct8 : Value}
    {f9 : Addr} {od9 an9 : Option Addr} {sl9 : Array (Option Value)} {oc9 kV9 dc9 pm9 cd9 ct9 : Value}
    {f10 : Addr} {od10 an10 : Option Addr} {sl10 : Array (Option Value)} {oc10 kV10 dc10 pm10 cd10 ct10 : Value}
    {f11 : Addr} {od11 an11 : Option Addr} {sl11 : Array (Option Value)} {oc11 kV11 dc11 pm11 cd11 ct11 : Value}
    {f12 : Addr} {od12 an12 : Option Addr} {sl12 : Array (Option Value)} {oc12 kV12 dc12 pm12 cd12 ct12 : Value}
    {f13 : Addr} {od13 an13 : Option Addr} {sl13 : Array (Option Value)} {oc13 kV13 dc13 pm13 cd13 ct13 : Value}
    {f14 : Addr} {od14 an14 : Option Addr} {sl14 : Array (Option Value)} {oc14 kV14 dc14 pm14 cd14 ct14 : Value}
    {f15 : Addr} {od15 an15 : Option Addr} {sl15 : Array (Option Value)} {oc15 kV15 dc15 pm15 cd15 ct15 : Value}
    {f16 : Addr} {od16 an16 : Option Addr} {sl16 : Array (Option Value)} {oc16 kV16 dc16 pm16 cd16 ct16 : Value}
    {f17 : Addr} {od17 an17 : Option Addr} {sl17 : Array (Option Value)} {oc17 kV17 dc17 pm17 cd17 ct17 : Value}
    {f18 : Addr} {od18 an18 : Option Addr} {sl18 : Array (Option Value)} {oc18 kV18 dc18 pm18 cd18 ct18 : Value}
    {f19 : Addr} {od19 an19 : Option Addr} {sl19 : Array (Option Value)} {oc19 kV19 dc19 pm19 cd19 ct19 : Value}
    {f20 : Addr} {od20 an20 : Option Addr} {sl20 : Array (Option Value)} {oc20 kV20 dc20 pm20 cd20 ct20 : Value}
    {f21 : Addr} {od21 an21 : Option Addr} {sl21 : Array (Option Value)} {oc21 kV21 dc21 pm21 cd21 ct21 : Value}
    {f22 : Addr} {od22 an22 : Option Addr} {sl22 : Array (Option Value)} {oc22 kV22 dc22 pm22 cd22 ct22 : Value}
    {f23 : Addr} {od23 an23 : Option Addr} {sl23 : Array (Option Value)} {oc23 kV23 dc23 pm23 cd23 ct23 : Value}
    {f24 : Addr} {od24 an24 : Option Addr} {sl24 : Array (Option Value)} {oc24 kV24 dc24 pm24 cd24 ct24 : Value}
    {f25 : Addr} {od25 an25 : Option Addr} {sl25 : Array (Option Value)} {oc25 kV25 dc25 pm25 cd25 ct25 : Value}
    {f26 : Addr} {od26 an26 : Option Addr} {sl26 : Array (Option Value)} {oc26 kV26 dc26 pm26 cd26 ct26 : Value}
    {f27 : Addr} {od27 an27 : Option Addr} {sl27 : Array (Option Value)} {oc27 kV27 dc27 pm27 cd27 ct27 : Value}
    {f28 : Addr} {od28 an28 : Option Addr} {sl28 : Array (Option Value)} {oc28 kV28 dc28 pm28 cd28 ct28 : Value}
    {f29 : Addr} {od29 an29 : Option Addr} {sl29 : Array (Option Value)} {oc29 kV29 dc29 pm29 cd29 ct29 : Value}
    {fK : Addr} {oK : Obj} {itK : Array Value} {nK : Nat} {tG tL : Tok}
    (a1 : PySem.W.nsIn K mainGlobals "divisor" = some (some (.ref f1))) (l1 : K.lookup f1 = some ⟨oc1, od1, .func (PySem.W.fnOf "divisor" "divisor" (defArgs sDivisor) (defBody sDivisor) (defScope sDivisor) .none kV1 dc1 pm1 an1 cd1 ct1), sl1⟩) (c1 : PySem.W.codeIn K cd1 "divisor" = true) (k1 : PySem.W.keepIn K (.ref f1) = true)
    (a2 : PySem.W.nsIn K mainGlobals "made" = some (some (.ref f2))) (l2 : K.lookup f2 = some ⟨oc2, od2, .func (PySem.W.fnOf "made" "made" (defArgs sMade) (defBody sMade) (defScope sMade) .none kV2 dc2 pm2 an2 cd2 ct2), sl2⟩) (c2 : PySem.W.codeIn K cd2 "made" = true) (k2 : PySem.W.keepIn K (.ref f2) = true)
    (a3 : PySem.W.nsIn K mainGlobals "is_less" = some (some (.ref f3))) (l3 : K.lookup f3 = some ⟨oc3, od3, .func (PySem.W.fnOf "is_less" "is_less" (defArgs sLess) (defBody sLess) (defScope sLess) .none kV3 dc3 pm3 an3 cd3 ct3), sl3⟩) (c3 : PySem.W.codeIn K cd3 "is_less" = true) (k3 : PySem.W.keepIn K (.ref f3) = true)
    (a4 : PySem.W.nsIn K mainGlobals "must_kind" = some (some (.ref f4))) (l4 : K.lookup f4 = some ⟨oc4, od4, .func (PySem.W.fnOf "must_kind" "must_kind" (defArgs sMKind) (defBody sMKind) (defScope sMKind) .none kV4 dc4 pm4 an4 cd4 ct4), sl4⟩) (c4 : PySem.W.codeIn K cd4 "must_kind" = true) (k4 : PySem.W.keepIn K (.ref f4) = true)
    (a5 : PySem.W.nsIn K mainGlobals "must_gap" = some (some (.ref f5))) (l5 : K.lookup f5 = some ⟨oc5, od5, .func (PySem.W.fnOf "must_gap" "must_gap" (defArgs sMGap) (defBody sMGap) (defScope sMGap) .none kV5 dc5 pm5 an5 cd5 ct5), sl5⟩) (c5 : PySem.W.codeIn K cd5 "must_gap" = true) (k5 : PySem.W.keepIn K (.ref f5) = true)
    (a6 : PySem.W.nsIn K mainGlobals "must_length" = some (some (.ref f6))) (l6 : K.lookup f6 = some ⟨oc6, od6, .func (PySem.W.fnOf "must_length" "must_length" (defArgs sMLen) (defBody sMLen) (defScope sMLen) .none kV6 dc6 pm6 an6 cd6 ct6), sl6⟩) (c6 : PySem.W.codeIn K cd6 "must_length" = true) (k6 : PySem.W.keepIn K (.ref f6) = true)
    (a7 : PySem.W.nsIn K mainGlobals "count_of" = some (some (.ref f7))) (l7 : K.lookup f7 = some ⟨oc7, od7, .func (PySem.W.fnOf "count_of" "count_of" (defArgs sCount) (defBody sCount) (defScope sCount) .none kV7 dc7 pm7 an7 cd7 ct7), sl7⟩) (c7 : PySem.W.codeIn K cd7 "count_of" = true) (k7 : PySem.W.keepIn K (.ref f7) = true)
    (a8 : PySem.W.nsIn K mainGlobals "stretch" = some (some (.ref f8))) (l8 : K.lookup f8 = some ⟨oc8, od8, .func (PySem.W.fnOf "stretch" "stretch" (defArgs sStretch) (defBody sStretch) (defScope sStretch) .none kV8 dc8 pm8 an8 cd8 ct8), sl8⟩) (c8 : PySem.W.codeIn K cd8 "stretch" = true) (k8 : PySem.W.keepIn K (.ref f8) = true)
    (a9 : PySem.W.nsIn K mainGlobals "uneven" = some (some (.ref f9))) (l9 : K.lookup f9 = some ⟨oc9, od9, .func (PySem.W.fnOf "uneven" "uneven" (defArgs sUneven) (defBody sUneven) (defScope sUneven) .none kV9 dc9 pm9 an9 cd9 ct9), sl9⟩) (c9 : PySem.W.codeIn K cd9 "uneven" = true) (k9 : PySem.W.keepIn K (.ref f9) = true)
    (a10 : PySem.W.nsIn K mainGlobals "plain_far" = some (some (.ref f10))) (l10 : K.lookup f10 = some ⟨oc10, od10, .func (PySem.W.fnOf "plain_far" "plain_far" (defArgs sPlain) (defBody sPlain) (defScope sPlain) .none kV10 dc10 pm10 an10 cd10 ct10), sl10⟩) (c10 : PySem.W.codeIn K cd10 "plain_far" = true) (k10 : PySem.W.keepIn K (.ref f10) = true)
    (a11 : PySem.W.nsIn K mainGlobals "moved_far" = some (some (.ref f11))) (l11 : K.lookup f11 = some ⟨oc11, od11, .func (PySem.W.fnOf "moved_far" "moved_far" (defArgs sMoved) (defBody sMoved) (defScope sMoved) .none kV11 dc11 pm11 an11 cd11 ct11), sl11⟩) (c11 : PySem.W.codeIn K cd11 "moved_far" = true) (k11 : PySem.W.keepIn K (.ref f11) = true)
    (a12 : PySem.W.nsIn K mainGlobals "shape_far" = some (some (.ref f12))) (l12 : K.lookup f12 = some ⟨oc12, od12, .func (PySem.W.fnOf "shape_far" "shape_far" (defArgs sShape) (defBody sShape) (defScope sShape) .none kV12 dc12 pm12 an12 cd12 ct12), sl12⟩) (c12 : PySem.W.codeIn K cd12 "shape_far" = true) (k12 : PySem.W.keepIn K (.ref f12) = true)
    (a13 : PySem.W.nsIn K mainGlobals "far_told" = some (some (.ref f13))) (l13 : K.lookup f13 = some ⟨oc13, od13, .func (PySem.W.fnOf "far_told" "far_told" (defArgs sFarTold) (defBody sFarTold) (defScope sFarTold) .none kV13 dc13 pm13 an13 cd13 ct13), sl13⟩) (c13 : PySem.W.codeIn K cd13 "far_told" = true) (k13 : PySem.W.keepIn K (.ref f13) = true)
    (a14 : PySem.W.nsIn K mainGlobals "stretches" = some (some (.ref f14))) (l14 : K.lookup f14 = some ⟨oc14, od14, .func (PySem.W.fnOf "stretches" "stretches" (defArgs sStretches) (defBody sStretches) (defScope sStretches) .none kV14 dc14 pm14 an14 cd14 ct14), sl14⟩) (c14 : PySem.W.codeIn K cd14 "stretches" = true) (k14 : PySem.W.keepIn K (.ref f14) = true)
    (a15 : PySem.W.nsIn K mainGlobals "must_ask" = some (some (.ref f15))) (l15 : K.lookup f15 = some ⟨oc15, od15, .func (PySem.W.fnOf "must_ask" "must_ask" (defArgs sMAsk) (defBody sMAsk) (defScope sMAsk) .none kV15 dc15 pm15 an15 cd15 ct15), sl15⟩) (c15 : PySem.W.codeIn K cd15 "must_ask" = true) (k15 : PySem.W.keepIn K (.ref f15) = true)
    (a16 : PySem.W.nsIn K mainGlobals "nearest_of" = some (some (.ref f16))) (l16 : K.lookup f16 = some ⟨oc16, od16, .func (PySem.W.fnOf "nearest_of" "nearest_of" (defArgs sNearest) (defBody sNearest) (defScope sNearest) .none kV16 dc16 pm16 an16 cd16 ct16), sl16⟩) (c16 : PySem.W.codeIn K cd16 "nearest_of" = true) (k16 : PySem.W.keepIn K (.ref f16) = true)
    (a17 : PySem.W.nsIn K mainGlobals "table_of" = some (some (.ref f17))) (l17 : K.lookup f17 = some ⟨oc17, od17, .func (PySem.W.fnOf "table_of" "table_of" (defArgs sTableOf) (defBody sTableOf) (defScope sTableOf) .none kV17 dc17 pm17 an17 cd17 ct17), sl17⟩) (c17 : PySem.W.codeIn K cd17 "table_of" = true) (k17 : PySem.W.keepIn K (.ref f17) = true)
    (a18 : PySem.W.nsIn K mainGlobals "table" = some (some (.ref f18))) (l18 : K.lookup f18 = some ⟨oc18, od18, .func (PySem.W.fnOf "table" "table" (defArgs sTable) (defBody sTable) (defScope sTable) .none kV18 dc18 pm18 an18 cd18 ct18), sl18⟩) (c18 : PySem.W.codeIn K cd18 "table" = true) (k18 : PySem.W.keepIn K (.ref f18) = true)
    (a19 : PySem.W.nsIn K mainGlobals "lonely_of" = some (some (.ref f19))) (l19 : K.lookup f19 = some ⟨oc19, od19, .func (PySem.W.fnOf "lonely_of" "lonely_of" (defArgs sLonelyOf) (defBody sLonelyOf) (defScope sLonelyOf) .none kV19 dc19 pm19 an19 cd19 ct19), sl19⟩) (c19 : PySem.W.codeIn K cd19 "lonely_of" = true) (k19 : PySem.W.keepIn K (.ref f19) = true)
    (a20 : PySem.W.nsIn K mainGlobals "lonely" = some (some (.ref f20))) (l20 : K.lookup f20 = some ⟨oc20, od20, .func (PySem.W.fnOf "lonely" "lonely" (defArgs sLonely) (defBody sLonely) (defScope sLonely) .none kV20 dc20 pm20 an20 cd20 ct20), sl20⟩) (c20 : PySem.W.codeIn K cd20 "lonely" = true) (k20 : PySem.W.keepIn K (.ref f20) = true)
    (a21 : PySem.W.nsIn K mainGlobals "two_apart" = some (some (.ref f21))) (l21 : K.lookup f21 = some ⟨oc21, od21, .func (PySem.W.fnOf "two_apart" "two_apart" (defArgs sApart) (defBody sApart) (defScope sApart) .none kV21 dc21 pm21 an21 cd21 ct21), sl21⟩) (c21 : PySem.W.codeIn K cd21 "two_apart" = true) (k21 : PySem.W.keepIn K (.ref f21) = true)
    (a22 : PySem.W.nsIn K mainGlobals "lonely_paper" = some (some (.ref f22))) (l22 : K.lookup f22 = some ⟨oc22, od22, .func (PySem.W.fnOf "lonely_paper" "lonely_paper" (defArgs sPaper) (defBody sPaper) (defScope sPaper) .none kV22 dc22 pm22 an22 cd22 ct22), sl22⟩) (c22 : PySem.W.codeIn K cd22 "lonely_paper" = true) (k22 : PySem.W.keepIn K (.ref f22) = true)
    (a23 : PySem.W.nsIn K mainGlobals "near_enough" = some (some (.ref f23))) (l23 : K.lookup f23 = some ⟨oc23, od23, .func (PySem.W.fnOf "near_enough" "near_enough" (defArgs sEnough) (defBody sEnough) (defScope sEnough) .none kV23 dc23 pm23 an23 cd23 ct23), sl23⟩) (c23 : PySem.W.codeIn K cd23 "near_enough" = true) (k23 : PySem.W.keepIn K (.ref f23) = true)
    (a24 : PySem.W.nsIn K mainGlobals "shows_lonely" = some (some (.ref f24))) (l24 : K.lookup f24 = some ⟨oc24, od24, .func (PySem.W.fnOf "shows_lonely" "shows_lonely" (defArgs sShows) (defBody sShows) (defScope sShows) .none kV24 dc24 pm24 an24 cd24 ct24), sl24⟩) (c24 : PySem.W.codeIn K cd24 "shows_lonely" = true) (k24 : PySem.W.keepIn K (.ref f24) = true)
    (a25 : PySem.W.nsIn K mainGlobals "_law_purse" = some (some (.ref f25))) (l25 : K.lookup f25 = some ⟨oc25, od25, .func (PySem.W.fnOf "_law_purse" "_law_purse" (defArgs sPurse) (defBody sPurse) (defScope sPurse) .none kV25 dc25 pm25 an25 cd25 ct25), sl25⟩) (c25 : PySem.W.codeIn K cd25 "_law_purse" = true) (k25 : PySem.W.keepIn K (.ref f25) = true)
    (a26 : PySem.W.nsIn K mainGlobals "_law_take" = some (some (.ref f26))) (l26 : K.lookup f26 = some ⟨oc26, od26, .func (PySem.W.fnOf "_law_take" "_law_take" (defArgs sTake) (defBody sTake) (defScope sTake) .none kV26 dc26 pm26 an26 cd26 ct26), sl26⟩) (c26 : PySem.W.codeIn K cd26 "_law_take" = true) (k26 : PySem.W.keepIn K (.ref f26) = true)
    (a27 : PySem.W.nsIn K mainGlobals "_law_row" = some (some (.ref f27))) (l27 : K.lookup f27 = some ⟨oc27, od27, .func (PySem.W.fnOf "_law_row" "_law_row" (defArgs sRow) (defBody sRow) (defScope sRow) .none kV27 dc27 pm27 an27 cd27 ct27), sl27⟩) (c27 : PySem.W.codeIn K cd27 "_law_row" = true) (k27 : PySem.W.keepIn K (.ref f27) = true)
    (a28 : PySem.W.nsIn K mainGlobals "_law_asked" = some (some (.ref f28))) (l28 : K.lookup f28 = some ⟨oc28, od28, .func (PySem.W.fnOf "_law_asked" "_law_asked" (defArgs sAsked) (defBody sAsked) (defScope sAsked) .none kV28 dc28 pm28 an28 cd28 ct28), sl28⟩) (c28 : PySem.W.codeIn K cd28 "_law_asked" = true) (k28 : PySem.W.keepIn K (.ref f28) = true)
    (a29 : PySem.W.nsIn K mainGlobals "law" = some (some (.ref f29))) (l29 : K.lookup f29 = some ⟨oc29, od29, .func (PySem.W.fnOf "law" "law" (defArgs sLaw) (defBody sLaw) (defScope sLaw) .none kV29 dc29 pm29 an29 cd29 ct29), sl29⟩) (c29 : PySem.W.codeIn K cd29 "law" = true) (k29 : PySem.W.keepIn K (.ref f29) = true)
    (aK : PySem.W.nsIn K mainGlobals "KINDS" = some (some (.ref fK))) (lK : K.lookup fK = some oK) (cK : oK.cls = .type "tuple") (dK : oK.data = .seq itK nK) (zK : itK.size ≤ sizeLine) (vK : Vals [.str "plain", .str "moved", .str "shape"] itK.toList)
    (aG : PySem.W.nsIn K mainGlobals "MOST_GAP" = some (some (.int 200 tG))) (aL : PySem.W.nsIn K mainGlobals "MOST_LENGTH" = some (some (.int 40 tL)))
    (z_abs : PySem.W.nsIn K mainGlobals "abs" = some none)
    (z_len : PySem.W.nsIn K mainGlobals "len" = some none)
    (z_max : PySem.W.nsIn K mainGlobals "max" = some none)
    (z_min : PySem.W.nsIn K mainGlobals "min" = some none)
    (z_sum : PySem.W.nsIn K mainGlobals "sum" = some none)
    (z_zip : PySem.W.nsIn K mainGlobals "zip" = some none)
    (z_int : PySem.W.nsIn K mainGlobals "int" = some none)
    (z_range : PySem.W.nsIn K mainGlobals "range" = some none)
    (z_enumerate : PySem.W.nsIn K mainGlobals "enumerate" = some none)
    (z_all : PySem.W.nsIn K mainGlobals "all" = some none)
    (z_list : PySem.W.nsIn K mainGlobals "list" = some none) :
    ∃ fd : FuncData, (∀ (s : Shared) (v : Value), BindsTo s fd ⟨[v], []⟩ [("_law_script", v)]) ∧ ∀ base : Heap, K.In base → base.Ns mainGlobals mg → FnOk l.prog w K mg base CX0 8 fa fd ["_law_script"] (spLaw K) := by
  have e := hfa.symm.trans (PySem.W.mg_of X G a29)
  cases e
  have T : Txt K mg := {
    divisor := daMk X G a1 l1 c1 k1 fun _ _ _ _ _ _ us hl => match us, hl with | [_, _], _ => rfl
    made := daMk X G a2 l2 c2 k2 fun _ _ _ _ _ _ us hl => match us, hl with | [_, _], _ => rfl
    less := daMk X G a3 l3 c3 k3 fun _ _ _ _ _ _ us hl => match us, hl with | [_, _], _ => rfl
    mKind := daMk X G a4 l4 c4 k4 fun _ _ _ _ _ _ us hl => match us, hl with | [_], _ => rfl
    mGap := daMk X G a5 l5 c5 k5 fun _ _ _ _ _ _ us hl => match us, hl with | [_], _ => rfl
    mLen := daMk X G a6 l6 c6 k6 fun _ _ _ _ _ _ us hl => match us, hl with | [_], _ => rfl
    count := daMk X G a7 l7 c7 k7 fun _ _ _ _ _ _ us hl => match us, hl with | [_, _], _ => rfl
    stretch := daMk X G a8 l8 c8 k8 fun _ _ _ _ _ _ us hl => match us, hl with | [_, _, _], _ => rfl
    uneven := daMk X G a9 l9 c9 k9 fun _ _ _ _ _ _ us hl => match us, hl with | [_], _ => rfl
    plain := daMk X G a10 l10 c10 k10 fun _ _ _ _ _ _ us hl => match us, hl with | [_, _], _ => rfl
    moved := daMk X G a11 l11 c11 k11 fun _ _ _ _ _ _ us hl => match us, hl with | [_, _], _ => rfl
    shape := daMk X G a12 l12 c12 k12 fun _ _ _ _ _ _ us hl => match us, hl with | [_, _], _ => rfl
    farTold := daMk X G a13 l13 c13 k13 fun _ _ _ _ _ _ us hl => match us, hl with | [_, _, _], _ => rfl
    stretches := daMk X G a14 l14 c14 k14 fun _ _ _ _ _ _ us hl => match us, hl with | [_, _], _ => rfl
    mAsk := daMk X G a15 l15 c15 k15 fun _ _ _ _ _ _ us hl => match us, hl with | [_, _, _], _ => rfl
    nearest := daMk X G a16 l16 c16 k16 fun _ _ _ _ _ _ us hl => match us, hl with | [_, _, _, _], _ => rfl
    tableOf := daMk X G a17 l17 c17 k17 fun _ _ _ _ _ _ us hl => match us, hl with | [_, _, _], _ => rfl
    table := daMk X G a18 l18 c18 k18 fun _ _ _ _ _ _ us hl => match us, hl with | [_, _, _, _], _ => rfl
    lonelyOf := daMk X G a19 l19 c19 k19 fun _ _ _ _ _ _ us hl => match us, hl with | [_, _], _ => rfl
    lonely := daMk X G a20 l20 c20 k20 fun _ _ _ _ _ _ us hl => match us, hl with | [_, _, _, _], _ => rfl
    apart := daMk X G a21 l21 c21 k21 fun _ _ _ _ _ _ us hl => match us, hl with | [_, _], _ => rfl
    paper := daMk X G a22 l22 c22 k22 fun _ _ _ _ _ _ us hl => match us, hl with | [_, _, _, _], _ => rfl
    enough := daMk X G a23 l23 c23 k23 fun _ _ _ _ _ _ us hl => match us, hl with | [_, _, _, _, _, _], _ => rfl
    shows_ := daMk X G a24 l24 c24 k24 fun _ _ _ _ _ _ us hl => match us, hl with | [_, _, _, _, _], _ => rfl
    purse := daMk X G a25 l25 c25 k25 fun _ _ _ _ _ _ us hl => match us, hl with | [_], _ => rfl
    take := daMk X G a26 l26 c26 k26 fun _ _ _ _ _ _ us hl => match us, hl with | [_, _], _ => rfl
    row := daMk X G a27 l27 c27 k27 fun _ _ _ _ _ _ us hl => match us, hl with | [_, _], _ => rfl
    asked := daMk X G a28 l28 c28 k28 fun _ _ _ _ _ _ us hl => match us, hl with | [_, _], _ => rfl
    kinds := fK
    gKinds := PySem.W.mg_of X G aK
    tKinds := fun _ => .inr ⟨oK, itK, nK, lK, cK, dK, zK, vK⟩
    gGap := ⟨tG, PySem.W.mg_of X G aG⟩
    gLen := ⟨tL, PySem.W.mg_of X G aL⟩
    abs := PySem.W.mg_none_of X G z_abs
    len := PySem.W.mg_none_of X G z_len
    max := PySem.W.mg_none_of X G z_max
    min := PySem.W.mg_none_of X G z_min
    sum := PySem.W.mg_none_of X G z_sum
    zip := PySem.W.mg_none_of X G z_zip
    int := PySem.W.mg_none_of X G z_int
    range := PySem.W.mg_none_of X G z_range
    enumerate := PySem.W.mg_none_of X G z_enumerate
    all := PySem.W.mg_none_of X G z_all
    list := PySem.W.mg_none_of X G z_list }
  exact ⟨PySem.W.fnOf "law" "law" (defArgs sLaw) (defBody sLaw) (defScope sLaw) .none kV29 dc29 pm29 an29 cd29 ct29, fun s v => .of_eq rfl, fun base _ _ => ok_law T (fun_mk (st := sLaw) l29 c29 k29)⟩
theorem walk {l : PySem.W.OpenLaw} {q : Program} {loose : List Str} {XP : (Str → Option Value) → Heap → Prop} {YP : World → Heap → Prop} {d : DefRec} {K : Params → PySem.W.Frag} (hn : l.most = some 63) (hdf : d.params.defaults = [])
    (hY : ∀ (w : World) (h : Heap), YP w h → (K w.params).In h)
    (F : ∀ (w : World) (mg : Str → Option Value) (fa : Addr) (h : Heap), (K w.params).In h → h.Ns mainGlobals mg → mg d.name = some (.ref fa) →
      ∃ fd : FuncData, (∀ (s : Shared) (u : Value), BindsTo s fd ⟨[u], []⟩ [("_law_script", u)]) ∧ ∀ base : Heap, (K w.params).In base → base.Ns mainGlobals mg → FnOk l.prog w (K w.params) mg base CX0 8 fa fd ["_law_script"] (spLaw (K w.params))) :
    PySem.W.WalkO q loose XP YP l.row.toRowW d [] (fun f vs => PySem.call f vs) :=
  L2.walk_of (n := 63) (k := 8) (x := "_law_script") (CX := fun _ => CX0) (sp := fun w => spLaw (K w.params)) hn (by decide) hdf ⟨rfl, by decide, by decide⟩ hY F (fun _ _ a ns hl _ hS => ⟨a, ns, rfl, hS, hl, fun _ => rfl⟩) fun _ _ _ _ _ z => z
end Rw
open PySem PySem.W PyProof.Rows
set_option maxRecDepth 100000 in
set_option maxHeartbeats 0 in
theorem PySem.Challenge.cw_rowecho_k43_whole_papers_show_the_loneli_holds : PySem.Challenge.rw_rowecho_k43_whole_papers_show_the_loneli.Holds := by
  w_on; o_law; k_head; (case hw => w_witness2)
  k_fill
  refine Rw.walk (l := PySem.Challenge.rw_rowecho_k43_whole_papers_show_the_loneli) rfl rfl (fun w h Y => PySem.W.kIn_of Y) ?F
  case F =>
    intro w mg fa h KX G hmg
    refine' Rw.all_mk KX G hmg ?a1 ?l1 ?c1 ?k1 ?a2 ?l2 ?c2 ?k2 ?a3 ?l3 ?c3 ?k3 ?a4 ?l4 ?c4 ?k4 ?a5 ?l5 ?c5 ?k5 ?a6 ?l6 ?c6 ?k6 ?a7 ?l7 ?c7 ?k7 ?a8 ?l8 ?c8 ?k8 ?a9 ?l9 ?c9 ?k9 ?a10 ?l10 ?c10 ?k10 ?a11 ?l11 ?c11 ?k11 ?a12 ?l12 ?c12 ?k12 ?a13 ?l13 ?c13 ?k13 ?a14 ?l14 ?c14 ?k14 ?a15 ?l15 ?c15 ?k15 ?a16 ?l16 ?c16 ?k16 ?a17 ?l17 ?c17 ?k17 ?a18 ?l18 ?c18 ?k18 ?a19 ?l19 ?c19 ?k19 ?a20 ?l20 ?c20 ?k20 ?a21 ?l21 ?c21 ?k21 ?a22 ?l22 ?c22 ?k22 ?a23 ?l23 ?c23 ?k23 ?a24 ?l24 ?c24 ?k24 ?a25 ?l25 ?c25 ?k25 ?a26 ?l26 ?c26 ?k26 ?a27 ?l27 ?c27 ?k27 ?a28 ?l28 ?c28 ?k28 ?a29 ?l29 ?c29 ?k29 ?aK ?lK ?cK ?dK ?zK ?vK ?aG ?aL ?z_abs ?z_len ?z_max ?z_min ?z_sum ?z_zip ?z_int ?z_range ?z_enumerate ?z_all ?z_list
    (case a1 => k_is)
    (case l1 => k_is)
    (case c1 => k_is)
    (case k1 => k_is)
    (case a2 => k_is)
    (case l2 => k_is)
    (case c2 => k_is)
    (case k2 => k_is)
    (case a3 => k_is)
    (case l3 => k_is)
    (case c3 => k_is)
    (case k3 => k_is)
    (case a4 => k_is)
    (case l4 => k_is)
    (case c4 => k_is)
    (case k4 => k_is)
    (case a5 => k_is)
    (case l5 => k_is)
    (case c5 => k_is)
    (case k5 => k_is)
    (case a6 => k_is)
    (case l6 => k_is)
    (case c6 => k_is)
    (case k6 => k_is)
    (case a7 => k_is)
    (case l7 => k_is)
    (case c7 => k_is)
    (case k7 => k_is)
    (case a8 => k_is)
    (case l8 => k_is)
    (case c8 => k_is)
    (case k8 => k_is)
    (case a9 => k_is)
    (case l9 => k_is)
    (case c9 => k_is)
    (case k9 => k_is)
    (case a10 => k_is)
    (case l10 => k_is)
    (case c10 => k_is)
    (case k10 => k_is)
    (case a11 => k_is)
    (case l11 => k_is)
    (case c11 => k_is)
    (case k11 => k_is)
    (case a12 => k_is)
    (case l12 => k_is)
    (case c12 => k_is)
    (case k12 => k_is)
    (case a13 => k_is)
    (case l13 => k_is)
    (case c13 => k_is)
    (case k13 => k_is)
    (case a14 => k_is)
    (case l14 => k_is)
    (case c14 => k_is)
    (case k14 => k_is)
    (case a15 => k_is)
    (case l15 => k_is)
    (case c15 => k_is)
    (case k15 => k_is)
    (case a16 => k_is)
    (case l16 => k_is)
    (case c16 => k_is)
    (case k16 => k_is)
    (case a17 => k_is)
    (case l17 => k_is)
    (case c17 => k_is)
    (case k17 => k_is)
    (case a18 => k_is)
    (case l18 => k_is)
    (case c18 => k_is)
    (case k18 => k_is)
    (case a19 => k_is)
    (case l19 => k_is)
    (case c19 => k_is)
    (case k19 => k_is)
    (case a20 => k_is)
    (case l20 => k_is)
    (case c20 => k_is)
    (case k20 => k_is)
    (case a21 => k_is)
    (case l21 => k_is)
    (case c21 => k_is)
    (case k21 => k_is)
    (case a22 => k_is)
    (case l22 => k_is)
    (case c22 => k_is)
    (case k22 => k_is)
    (case a23 => k_is)
    (case l23 => k_is)
    (case c23 => k_is)
    (case k23 => k_is)
    (case a24 => k_is)
    (case l24 => k_is)
    (case c24 => k_is)
    (case k24 => k_is)
    (case a25 => k_is)
    (case l25 => k_is)
    (case c25 => k_is)
    (case k25 => k_is)
    (case a26 => k_is)
    (case l26 => k_is)
    (case c26 => k_is)
    (case k26 => k_is)
    (case a27 => k_is)
    (case l27 => k_is)
    (case c27 => k_is)
    (case k27 => k_is)
    (case a28 => k_is)
    (case l28 => k_is)
    (case c28 => k_is)
    (case k28 => k_is)
    (case a29 => k_is)
    (case l29 => k_is)
    (case c29 => k_is)
    (case k29 => k_is)
    (case aK => k_is)
    (case lK => k_is)
    (case cK => rfl)
    (case dK => rfl)
    (case zK => decide +kernel)
    (case vK => exact .cons ⟨_, rfl⟩ (.cons ⟨_, rfl⟩ (.cons ⟨_, rfl⟩ .nil)))
    (case aG => k_is)
    (case aL => k_is)
    (case z_abs => k_is)
    (case z_len => k_is)
    (case z_max => k_is)
    (case z_min => k_is)
    (case z_sum => k_is)
    (case z_zip => k_is)
    (case z_int => k_is)
    (case z_range => k_is)
    (case z_enumerate => k_is)
    (case z_all => k_is)
    (case z_list => k_is)
