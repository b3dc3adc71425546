import PyProof.Rows.All
import Wide.All
import OpenK.AllK
import Wide.FinOn
import HandS.ForMost
import HandS.Wide
import HandS.IsInst
import HandS.TupAny
import HandS.Conv
import HandS.Zip
import HandS.SortInts
import KE.KDictCopyH
import HandS.Evl
import KE.DatumOrd
import KE.KDictList
import PySem.Challenge.RW_quitsways_k70_whole_queue_units_and_alik
section
set_option autoImplicit false
namespace K70
/-! ### fractions -/
def gcdI (a b : Int) : Int := (Int.gcd a b : Int)
def red (t b : Int) : Int × Int := (t / gcdI t b, b / gcdI t b)
theorem gcdI_pos {t b : Int} (h : 0 < b) : 0 < gcdI t b := by
  have : Int.gcd t b ≠ 0 := fun e => by
    have := (Int.gcd_eq_zero_iff.mp e).2
    omega
  unfold gcdI; omega
theorem gcdI_pos' {t b : Int} (h : 0 < t) : 0 < gcdI t b := by
  have : Int.gcd t b ≠ 0 := fun e => by
    have := (Int.gcd_eq_zero_iff.mp e).1
    omega
  unfold gcdI; omega
theorem red_top (t b : Int) : (red t b).1 * gcdI t b = t := Int.ediv_mul_cancel (Int.gcd_dvd_left t b)
theorem red_bot (t b : Int) : (red t b).2 * gcdI t b = b := Int.ediv_mul_cancel (Int.gcd_dvd_right t b)
theorem red_pos {t b : Int} (h : 0 < b) : 0 < (red t b).2 := by
  have g := gcdI_pos (t := t) h
  have e := red_bot t b
  exact Int.pos_of_mul_pos_left (by rw [e]; exact h) g
theorem red_top_pos {t b : Int} (h : 0 < t) : 0 < (red t b).1 := by
  have g := gcdI_pos' (b := b) h
  have e := red_top t b
  exact Int.pos_of_mul_pos_left (by rw [e]; exact h) g
theorem red_cop {t b : Int} (h : 0 < b) : Int.gcd (red t b).1 (red t b).2 = 1 := by
  have g := gcdI_pos (t := t) h
  unfold red gcdI at *
  exact Int.gcd_ediv_gcd_ediv_gcd (by omega)
theorem red_cross {t b : Int} : (red t b).1 * b = t * (red t b).2 := by
  have h1 := red_top t b
  have h2 := red_bot t b
  generalize gcdI t b = g at *
  generalize (red t b).1 = x at *
  generalize (red t b).2 = y at *
  subst h1; subst h2
  grind
theorem cop_dvd {y x z : Int} (c : Int.gcd x y = 1) (h : y ∣ x * z) : y ∣ z := by
  rw [← Int.natAbs_dvd_natAbs] at *
  rw [Int.natAbs_mul] at h
  have : Nat.Coprime y.natAbs x.natAbs := by rw [Nat.coprime_iff_gcd_eq_one, Nat.gcd_comm]; exact c
  exact this.dvd_of_dvd_mul_left h
/-- two in lowest terms of one value are one -/
theorem cop_eq {x y x' y' : Int} (h0 : 0 < y) (h0' : 0 < y') (c : Int.gcd x y = 1) (c' : Int.gcd x' y' = 1) (e : x * y' = x' * y) : x = x' ∧ y = y' := by
  have d1 : y ∣ y' := by
    have : y ∣ x * y' := ⟨x', by rw [e, Int.mul_comm]⟩
    exact cop_dvd c this
  have d2 : y' ∣ y := by
    have : y' ∣ x' * y := ⟨x, by rw [← e, Int.mul_comm]⟩
    exact cop_dvd c' this
  have e1 := Int.le_of_dvd h0' d1
  have e2 := Int.le_of_dvd h0 d2
  have ey : y = y' := by omega
  subst ey
  exact ⟨Int.eq_of_mul_eq_mul_right (by omega) e, rfl⟩
theorem red_eq {t b s d : Int} (hb : 0 < b) (hd : 0 < d) (e : t * d = s * b) : red t b = red s d := by
  have c1 := red_cross (t := t) (b := b)
  have c2 := red_cross (t := s) (b := d)
  have p1 := red_pos (t := t) hb
  have p2 := red_pos (t := s) hd
  have k1 := red_cop (t := t) hb
  have k2 := red_cop (t := s) hd
  generalize red t b = X at *
  generalize red s d = Y at *
  obtain ⟨x, y⟩ := X
  obtain ⟨x', y'⟩ := Y
  simp only at *
  have key : x * y' = x' * y := by
    have h : (x * y') * (b * d) = (x' * y) * (b * d) := by grind
    exact Int.eq_of_mul_eq_mul_right (Int.ne_of_gt (Int.mul_pos hb hd)) h
  obtain ⟨e1, e2⟩ := cop_eq p1 p2 k1 k2 key
  rw [e1, e2]
theorem red_le {t b : Int} (hb : 0 < b) : (red t b).1.natAbs ≤ t.natAbs ∧ (red t b).2.natAbs ≤ b.natAbs := by
  have g := gcdI_pos (t := t) hb
  have e1 := red_top t b
  have e2 := red_bot t b
  have n1 := congrArg Int.natAbs e1
  have n2 := congrArg Int.natAbs e2
  rw [Int.natAbs_mul] at n1 n2
  constructor
  · rw [← n1]; exact Nat.le_mul_of_pos_right _ (by omega)
  · rw [← n2]; exact Nat.le_mul_of_pos_right _ (by omega)

def plusI (x y : Int × Int) : Int × Int := red (x.1 * y.2 + y.1 * x.2) (x.2 * y.2)
def minusI (x y : Int × Int) : Int × Int := red (x.1 * y.2 - y.1 * x.2) (x.2 * y.2)
def timesI (x y : Int × Int) : Int × Int := red (x.1 * y.1) (x.2 * y.2)
def overI (x y : Int × Int) : Int × Int := red (x.1 * y.2) (x.2 * y.1)

section
variable {p q : Int} (hp : 0 < p) (hq : 0 < q)
def F (p q n : Int) : Int × Int := red (n * p) q
theorem F_cross (n : Int) : (F p q n).1 * q = n * p * (F p q n).2 := red_cross
include hq
theorem F_pos (n : Int) : 0 < (F p q n).2 := red_pos hq
theorem F_cop (n : Int) : Int.gcd (F p q n).1 (F p q n).2 = 1 := red_cop hq
omit hq in
include hp in
theorem F_top {n : Int} (h : 0 < n) : 0 < (F p q n).1 := red_top_pos (Int.mul_pos h hp)
include hp
theorem F_inj {m n : Int} (e : F p q m = F p q n) : m = n := by
  have h1 := F_cross (p := p) (q := q) m
  have h2 := F_cross (p := p) (q := q) n
  rw [e, h2] at h1
  have h3 := F_pos (p := p) hq n
  have h4 := Int.eq_of_mul_eq_mul_right (Int.ne_of_gt h3) h1
  exact (Int.eq_of_mul_eq_mul_right (Int.ne_of_gt hp) h4).symm
omit hp
theorem plus_F (m n : Int) : plusI (F p q m) (F p q n) = F p q (m + n) := by
  have h1 := F_cross (p := p) (q := q) m
  have h2 := F_cross (p := p) (q := q) n
  have h3 := F_pos (p := p) hq m
  have h4 := F_pos (p := p) hq n
  refine red_eq (Int.mul_pos h3 h4) hq ?_
  generalize F p q m = X at *
  generalize F p q n = Y at *
  obtain ⟨x, y⟩ := X
  obtain ⟨z, w⟩ := Y
  simp only at *
  grind
theorem minus_F (m n : Int) : minusI (F p q m) (F p q n) = F p q (m - n) := by
  have h1 := F_cross (p := p) (q := q) m
  have h2 := F_cross (p := p) (q := q) n
  have h3 := F_pos (p := p) hq m
  have h4 := F_pos (p := p) hq n
  refine red_eq (Int.mul_pos h3 h4) hq ?_
  generalize F p q m = X at *
  generalize F p q n = Y at *
  obtain ⟨x, y⟩ := X
  obtain ⟨z, w⟩ := Y
  simp only at *
  grind
theorem times_F (k n : Int) : timesI (k, 1) (F p q n) = F p q (k * n) := by
  have h2 := F_cross (p := p) (q := q) n
  have h4 := F_pos (p := p) hq n
  refine red_eq (by simp only; omega) hq ?_
  generalize F p q n = Y at *
  obtain ⟨z, w⟩ := Y
  simp only at *
  grind
include hp
theorem over_F (m : Int) {n : Int} (hn : 0 < n) : overI (F p q m) (F p q n) = red m n := by
  have h1 := F_cross (p := p) (q := q) m
  have h2 := F_cross (p := p) (q := q) n
  have h3 := F_pos (p := p) hq m
  have h4 := F_pos (p := p) hq n
  have h5 := F_top (q := q) hp hn
  refine red_eq (Int.mul_pos h3 h5) hn ?_
  generalize F p q m = X at *
  generalize F p q n = Y at *
  obtain ⟨x, y⟩ := X
  obtain ⟨z, w⟩ := Y
  simp only at *
  have h : (x * w * n) * (p * q) = (m * (y * z)) * (p * q) := by grind
  exact Int.eq_of_mul_eq_mul_right (Int.ne_of_gt (Int.mul_pos hp hq)) h
theorem gcd_F {m n : Int} :
    red (gcdI ((F p q m).1 * (F p q n).2) ((F p q n).1 * (F p q m).2)) ((F p q m).2 * (F p q n).2) = F p q (gcdI m n) := by
  have h1 := F_cross (p := p) (q := q) m
  have h2 := F_cross (p := p) (q := q) n
  have h3 := F_pos (p := p) hq m
  have h4 := F_pos (p := p) hq n
  refine red_eq (Int.mul_pos h3 h4) hq ?_
  generalize F p q m = X at *
  generalize F p q n = Y at *
  obtain ⟨x, y⟩ := X
  obtain ⟨z, w⟩ := Y
  simp only at *
  have e1 : gcdI (x * w) (z * y) * q = gcdI (x * w * q) (z * y * q) := by
    unfold gcdI
    rw [Int.gcd_mul_right, Int.natCast_mul]
    rw [show ((q.natAbs : Nat) : Int) = q by omega]
  have e2 : gcdI m n * (p * y * w) = gcdI (m * (p * y * w)) (n * (p * y * w)) := by
    unfold gcdI
    rw [Int.gcd_mul_right, Int.natCast_mul]
    have : 0 < p * y * w := Int.mul_pos (Int.mul_pos hp h3) h4
    rw [show (((p * y * w).natAbs : Nat) : Int) = p * y * w by omega]
  rw [e1, show x * w * q = m * (p * y * w) by grind, show z * y * q = n * (p * y * w) by grind, ← e2]
  grind
end
theorem red_floor {n u : Int} (hu : 0 < u) : (red n u).1 / (red n u).2 = n / u := by
  have g := gcdI_pos (t := n) hu
  have e1 := red_top n u
  have e2 := red_bot n u
  have : n / u = ((red n u).1 * gcdI n u) / ((red n u).2 * gcdI n u) := by rw [e1, e2]
  rw [this]
  exact (Int.mul_ediv_mul_of_pos_left _ _ g).symm
theorem red_whole {n g : Int} (hg : 0 < g) (h : g ∣ n) : red n g = (n / g, 1) := by
  have e : gcdI n g = g := by
    unfold gcdI
    rw [Int.gcd_eq_right (by omega) h]
  unfold red
  rw [e, Int.ediv_self (by omega)]
def restI (x y : Int × Int) : Int × Int := minusI x (timesI ((overI x y).1 / (overI x y).2, 1) y)
theorem rest_F {p q : Int} (hp : 0 < p) (hq : 0 < q) (n : Int) {u : Int} (hu : 0 < u) : restI (F p q n) (F p q u) = F p q (n % u) := by
  unfold restI
  rw [over_F hp hq n hu, red_floor hu, times_F hq, minus_F hq]
  congr 1
  have := Int.mul_ediv_add_emod n u
  rw [Int.mul_comm] at this
  omega
/-- the greatest common divisor of a list -/
def gcdL : Int → List Int → Int
  | g, [] => g
  | g, x :: r => gcdL (gcdI g x) r
def measI : Int × Int → List (Int × Int) → Int × Int
  | m, [] => m
  | m, a :: r => measI (red (gcdI (m.1 * a.2) (a.1 * m.2)) (m.2 * a.2)) r
theorem meas_F {p q : Int} (hp : 0 < p) (hq : 0 < q) : ∀ (l : List Int) (g : Int), 0 < g → (∀ x ∈ l, 0 < x) → measI (F p q g) (l.map (F p q)) = F p q (gcdL g l)
  | [], _, _, _ => rfl
  | x :: r, g, hg, h => by
    simp only [List.map_cons, measI, gcdL]
    rw [gcd_F hp hq]
    exact meas_F hp hq r _ (gcdI_pos' hg) fun y hy => h y (List.mem_cons_of_mem _ hy)
theorem gcdL_pos : ∀ (l : List Int) (g : Int), 0 < g → 0 < gcdL g l
  | [], _, h => h
  | _ :: r, _, h => gcdL_pos r _ (gcdI_pos' h)
theorem gcdL_dvd : ∀ (l : List Int) (g : Int), gcdL g l ∣ g ∧ ∀ x ∈ l, gcdL g l ∣ x
  | [], g => ⟨Int.dvd_refl g, fun _ h => by cases h⟩
  | x :: r, g => by
    obtain ⟨h1, h2⟩ := gcdL_dvd r (gcdI g x)
    refine ⟨Int.dvd_trans h1 (Int.gcd_dvd_left g x), fun y hy => ?_⟩
    rcases List.mem_cons.mp hy with rfl | hy
    · exact Int.dvd_trans h1 (Int.gcd_dvd_right g y)
    · exact h2 y hy
theorem gcdL_le (l : List Int) (g : Int) (h : 0 < g) : gcdL g l ≤ g := Int.le_of_dvd h (gcdL_dvd l g).1
theorem F_one {p q : Int} : ∀ {n : Int}, F p q n = red (n * p) q := rfl
theorem F_zero {p q : Int} (hq : 0 < q) : F p q 0 = (0, 1) := by
  unfold F red
  have : gcdI (0 * p) q = q := by
    unfold gcdI; simp; omega
  rw [this, Int.zero_mul, Int.zero_ediv, Int.ediv_self (by omega)]
end K70
end
section
set_option autoImplicit false
namespace K70
/-! ### the joints of two orders -/
def Pos (l : List Int) : Prop := ∀ x ∈ l, 0 < x
theorem Pos.tail {x : Int} {l : List Int} (h : Pos (x :: l)) : Pos l := fun y hy => h y (List.mem_cons_of_mem _ hy)
theorem Pos.head {x : Int} {l : List Int} (h : Pos (x :: l)) : 0 < x := h x List.mem_cons_self
theorem Pos.sum_nonneg : ∀ {l : List Int}, Pos l → 0 ≤ l.sum
  | [], _ => by simp
  | x :: l, h => by
    have := Pos.sum_nonneg h.tail
    have := h.head
    simp only [List.sum_cons]; omega
theorem Pos.sum_pos {l : List Int} (h : Pos l) (hn : l ≠ []) : 0 < l.sum := by
  cases l with
  | nil => exact absurd rfl hn
  | cons x r =>
    have := Pos.sum_nonneg h.tail
    have := h.head
    simp only [List.sum_cons]; omega
theorem Pos.append {a b : List Int} (ha : Pos a) (hb : Pos b) : Pos (a ++ b) := fun x hx => by
  rcases List.mem_append.mp hx with h | h
  · exact ha x h
  · exact hb x h
theorem Pos.left {a b : List Int} (h : Pos (a ++ b)) : Pos a := fun x hx => h x (List.mem_append_left _ hx)
theorem Pos.right {a b : List Int} (h : Pos (a ++ b)) : Pos b := fun x hx => h x (List.mem_append_right _ hx)
theorem Pos.perm {a b : List Int} (h : Pos a) (p : a.Perm b) : Pos b := fun x hx => h x (p.mem_iff.mpr hx)
theorem perm_sum {a b : List Int} (p : a.Perm b) : a.sum = b.sum := by
  induction p with
  | nil => rfl
  | cons x _ ih => simp only [List.sum_cons, ih]
  | swap x y l => simp only [List.sum_cons]; omega
  | trans _ _ h1 h2 => exact h1.trans h2

/-- z is among s and its sums with the first ones of a list -/
def hitb (s : Int) : List Int → Int → Bool
  | [], z => s == z
  | x :: r, z => s == z || hitb (s + x) r z
theorem hitb_low {z : Int} : ∀ {r : List Int} {s : Int}, Pos r → z < s → hitb s r z = false
  | [], s, _, h => by simp [hitb]; omega
  | x :: r, s, hp, h => by
    have := hp.head
    have e : hitb (s + x) r z = false := hitb_low (r := r) (s := s + x) hp.tail (by omega)
    simp only [hitb, e, Bool.or_false, beq_eq_false_iff_ne]; omega
theorem hitb_self {r : List Int} {s : Int} : hitb s r s = true := by cases r <;> simp [hitb]
theorem hitb_iff {z : Int} : ∀ {r : List Int} {s : Int}, hitb s r z = true ↔ ∃ u v, r = u ++ v ∧ s + u.sum = z
  | [], s => by
    simp only [hitb, beq_iff_eq]
    constructor
    · intro h; exact ⟨[], [], rfl, by simp; omega⟩
    · rintro ⟨u, v, h, e⟩
      have : u = [] := (List.append_eq_nil_iff.mp h.symm).1
      subst this; simp at e; omega
  | x :: r, s => by
    simp only [hitb, Bool.or_eq_true, beq_iff_eq]
    rw [hitb_iff (r := r) (s := s + x)]
    constructor
    · rintro (h | ⟨u, v, h, e⟩)
      · exact ⟨[], x :: r, rfl, by simp; omega⟩
      · exact ⟨x :: u, v, by rw [h]; rfl, by simp only [List.sum_cons]; omega⟩
    · rintro ⟨u, v, h, e⟩
      cases u with
      | nil => left; simp at e; omega
      | cons y u =>
        simp only [List.cons_append, List.cons.injEq] at h
        obtain ⟨rfl, h⟩ := h
        right; exact ⟨u, v, h, by simp only [List.sum_cons] at e; omega⟩

def cnt (h : Int → Bool) (s : Int) : List Int → Nat
  | [] => 0
  | x :: r => (if h (s + x) = true then 1 else 0) + cnt h (s + x) r
theorem cnt_append (h : Int → Bool) : ∀ (u : List Int) (s : Int) (r : List Int), cnt h s (u ++ r) = cnt h s u + cnt h (s + u.sum) r
  | [], s, r => by simp [cnt]
  | x :: u, s, r => by
    simp only [List.cons_append, cnt, List.sum_cons]
    rw [cnt_append h u]
    rw [show s + x + u.sum = s + (x + u.sum) by omega]
    omega
/-- two hits that agree above s count alike -/
theorem cnt_congr {h k : Int → Bool} : ∀ {r : List Int} {s : Int}, Pos r → (∀ z, s < z → h z = k z) → cnt h s r = cnt k s r
  | [], _, _, _ => rfl
  | x :: r, s, hp, e => by
    have := hp.head
    simp only [cnt]
    rw [e (s + x) (by omega), cnt_congr (r := r) (s := s + x) hp.tail (fun z hz => e z (by omega))]

/-- the joints by the walk of the two queues: S, T are gone of the owers, of the takers -/
def JJ (S T : Int) (xs ys : List Int) : Nat :=
  if S ≤ T then
    match xs with
    | [] => 0
    | x :: xs' => (if S + x = T then 1 else 0) + JJ (S + x) T xs' ys
  else
    match ys with
    | [] => 0
    | y :: ys' => (if S = T + y then 1 else 0) + JJ S (T + y) xs ys'
termination_by xs.length + ys.length

theorem JJ_le {S T : Int} (h : S ≤ T) (x : Int) (xs ys : List Int) : JJ S T (x :: xs) ys = (if S + x = T then 1 else 0) + JJ (S + x) T xs ys := by
  rw [JJ.eq_def, if_pos h]
theorem JJ_gt {S T : Int} (h : T < S) (y : Int) (xs ys : List Int) : JJ S T xs (y :: ys) = (if S = T + y then 1 else 0) + JJ S (T + y) xs ys := by
  rw [JJ.eq_def, if_neg (by omega)]
theorem JJ_nil {S T : Int} (h : S ≤ T) (ys : List Int) : JJ S T [] ys = 0 := by
  rw [JJ.eq_def, if_pos h]

theorem JJ_cntA : ∀ (n : Nat) (S T : Int) (xs ys : List Int), xs.length + ys.length = n → Pos xs → Pos ys → S + xs.sum = T + ys.sum →
    JJ S T xs ys = cnt (hitb T ys) S xs + (if T < S ∧ hitb T ys S = true then 1 else 0) := by
  intro n
  induction n using Nat.strongRecOn with
  | ind n ih =>
  intro S T xs ys hn hx hy hs
  by_cases hST : S ≤ T
  · rw [if_neg (by omega)]
    cases xs with
    | nil => rw [JJ_nil hST]; rfl
    | cons x xs =>
      have hx0 := hx.head
      rw [JJ_le hST, ih (xs.length + ys.length) (by simp at hn; omega) (S + x) T xs ys rfl hx.tail hy (by simp only [List.sum_cons] at hs; omega)]
      simp only [cnt]
      by_cases h1 : S + x < T
      · rw [hitb_low hy h1, if_neg (by omega), if_neg (by omega)]; simp
      · by_cases h2 : S + x = T
        · rw [h2, hitb_self]; simp
        · rw [if_neg h2]
          have h3 : T < S + x := by omega
          simp only [h3, true_and]
          omega
  · cases ys with
    | nil =>
      have := hx.sum_nonneg
      simp at hs; omega
    | cons y ys =>
      have hy0 := hy.head
      rw [JJ_gt (by omega), ih (xs.length + ys.length) (by simp at hn; omega) S (T + y) xs ys rfl hx hy.tail (by simp only [List.sum_cons] at hs; omega)]
      rw [cnt_congr (h := hitb (T + y) ys) (k := hitb T (y :: ys)) hx (fun z hz => by
        simp only [hitb]
        have : (T == z) = false := by simp; omega
        rw [this, Bool.false_or])]
      have e : hitb T (y :: ys) S = hitb (T + y) ys S := by
        simp only [hitb]
        have : (T == S) = false := by simp; omega
        rw [this, Bool.false_or]
      rw [e]
      by_cases h1 : S < T + y
      · rw [hitb_low hy.tail h1, if_neg (by omega), if_neg (by omega)]; simp
      · by_cases h2 : S = T + y
        · subst h2
          rw [hitb_self, if_pos rfl]
          have : T < T + y := by omega
          simp [this]; omega
        · rw [if_neg h2]
          have h3 : T + y < S := by omega
          have h4 : T < S := by omega
          simp only [h3, h4, true_and]
          omega
theorem JJ_cntB : ∀ (n : Nat) (S T : Int) (xs ys : List Int), xs.length + ys.length = n → Pos xs → Pos ys → S + xs.sum = T + ys.sum →
    JJ S T xs ys = cnt (hitb S xs) T ys + (if S < T ∧ hitb S xs T = true then 1 else 0) := by
  intro n
  induction n using Nat.strongRecOn with
  | ind n ih =>
  intro S T xs ys hn hx hy hs
  by_cases hST : S ≤ T
  · cases xs with
    | nil =>
      rw [JJ_nil hST]
      have := hy.sum_nonneg
      have hys : ys = [] := by
        cases ys with
        | nil => rfl
        | cons y ys =>
          have := hy.sum_pos (by simp)
          simp at hs this; omega
      subst hys
      have : ¬ S < T := by simp at hs; omega
      simp [cnt, this]
    | cons x xs =>
      have hx0 := hx.head
      rw [JJ_le hST, ih (xs.length + ys.length) (by simp at hn; omega) (S + x) T xs ys rfl hx.tail hy (by simp only [List.sum_cons] at hs; omega)]
      rw [cnt_congr (h := hitb (S + x) xs) (k := hitb S (x :: xs)) hy (fun z hz => by
        simp only [hitb]
        have : (S == z) = false := by simp; omega
        rw [this, Bool.false_or])]
      by_cases h1 : S < T
      · have e : hitb S (x :: xs) T = hitb (S + x) xs T := by
          simp only [hitb]
          have : (S == T) = false := by simp; omega
          rw [this, Bool.false_or]
        rw [e]
        by_cases h2 : T < S + x
        · rw [hitb_low hx.tail h2, if_neg (by omega)]; simp
        · by_cases h3 : S + x = T
          · rw [h3, hitb_self]; simp [h1]; omega
          · have h4 : S + x < T := by omega
            simp only [h1, h4, h3, true_and, if_false]; omega
      · have : S = T := by omega
        subst this
        rw [if_neg (by omega), if_neg (by omega), if_neg (by omega)]; omega
  · cases ys with
    | nil =>
      have := hx.sum_nonneg
      simp at hs; omega
    | cons y ys =>
      have hy0 := hy.head
      rw [JJ_gt (by omega), ih (xs.length + ys.length) (by simp at hn; omega) S (T + y) xs ys rfl hx hy.tail (by simp only [List.sum_cons] at hs; omega)]
      rw [if_neg (show ¬ (S < T ∧ _) by omega)]
      simp only [cnt]
      by_cases h1 : T + y < S
      · rw [hitb_low hx h1, if_neg (by omega), if_neg (by omega)]; simp
      · by_cases h2 : S = T + y
        · rw [← h2, hitb_self]; simp
        · have h3 : S < T + y := by omega
          rw [if_neg h2]
          simp only [h3, true_and]
          omega

def J (A B : List Int) : Nat := JJ 0 0 A B
theorem J_A {A B : List Int} (ha : Pos A) (hb : Pos B) (hs : A.sum = B.sum) : J A B = cnt (hitb 0 B) 0 A := by
  rw [J, JJ_cntA _ 0 0 A B rfl ha hb (by omega)]; simp
theorem J_B {A B : List Int} (ha : Pos A) (hb : Pos B) (hs : A.sum = B.sum) : J A B = cnt (hitb 0 A) 0 B := by
  rw [J, JJ_cntB _ 0 0 A B rfl ha hb (by omega)]; simp

/-- all orders have equally many joints -/
def Alike (a b : List Int) : Prop := ∀ A B, A.Perm a → B.Perm b → J A B = J a b

/-- the swap of neighbours -/
theorem cnt_swap {h : Int → Bool} {u v : List Int} {x y : Int} (e : cnt h 0 (u ++ x :: y :: v) = cnt h 0 (u ++ y :: x :: v)) : h (u.sum + x) = h (u.sum + y) := by
  rw [cnt_append, cnt_append] at e
  simp only [cnt] at e
  rw [show 0 + u.sum + x + y = 0 + u.sum + y + x by omega, show (0 : Int) + u.sum = u.sum by omega] at e
  cases h1 : h (u.sum + x) <;> cases h2 : h (u.sum + y) <;> simp [h1, h2] at e <;> first | rfl | omega

/-- S(a, b): at each order of a, neighbours in b may change places -/
def Sw (a b : List Int) : Prop := ∀ (A u v : List Int) (x y : Int), A.Perm a → (u ++ x :: y :: v).Perm b → hitb 0 A (u.sum + x) = hitb 0 A (u.sum + y)
theorem perm_swap (u v : List Int) (x y : Int) : (u ++ y :: x :: v).Perm (u ++ x :: y :: v) := List.Perm.append_left u (List.Perm.swap x y v)
theorem Alike.swB {a b : List Int} (ha : Pos a) (hb : Pos b) (hs : a.sum = b.sum) (h : Alike a b) : Sw a b := by
  intro A u v x y pA pB
  have pB' := (perm_swap u v x y).trans pB
  have e1 := h A _ pA pB
  have e2 := h A _ pA pB'
  have s1 : A.sum = (u ++ x :: y :: v).sum := by rw [perm_sum pA, perm_sum pB, hs]
  have s2 : A.sum = (u ++ y :: x :: v).sum := by rw [perm_sum pA, perm_sum pB', hs]
  rw [J_B (ha.perm pA.symm) (hb.perm pB.symm) s1] at e1
  rw [J_B (ha.perm pA.symm) (hb.perm pB'.symm) s2] at e2
  exact cnt_swap (e1.trans e2.symm)
theorem Alike.swA {a b : List Int} (ha : Pos a) (hb : Pos b) (hs : a.sum = b.sum) (h : Alike a b) : Sw b a := by
  intro B u v x y pB pA
  have pA' := (perm_swap u v x y).trans pA
  have e1 := h _ B pA pB
  have e2 := h _ B pA' pB
  have s1 : (u ++ x :: y :: v).sum = B.sum := by rw [perm_sum pA, perm_sum pB, hs]
  have s2 : (u ++ y :: x :: v).sum = B.sum := by rw [perm_sum pA', perm_sum pB, hs]
  rw [J_A (ha.perm pA.symm) (hb.perm pB.symm) s1] at e1
  rw [J_A (ha.perm pA'.symm) (hb.perm pB.symm) s2] at e2
  exact cnt_swap (e1.trans e2.symm)

theorem hit_iff {A : List Int} {z : Int} : hitb 0 A z = true ↔ ∃ u v, A = u ++ v ∧ u.sum = z := by
  rw [hitb_iff]
  constructor
  · rintro ⟨u, v, h, e⟩; exact ⟨u, v, h, by omega⟩
  · rintro ⟨u, v, h, e⟩; exact ⟨u, v, h, by omega⟩
theorem hit_of {u v : List Int} {z : Int} (h : u.sum = z) : hitb 0 (u ++ v) z = true := hit_iff.mpr ⟨u, v, rfl, h⟩
theorem mem_perm {x : Int} {l : List Int} (h : x ∈ l) : ∃ r, l.Perm (x :: r) ∧ l.sum = x + r.sum := by
  obtain ⟨s, t, rfl⟩ := List.append_of_mem h
  exact ⟨s ++ t, List.perm_middle, by simp only [List.sum_append, List.sum_cons]; omega⟩
/-- a hit of P ++ Q is one of P, or one behind it -/
theorem hit_append {P Q : List Int} {z : Int} (h : hitb 0 (P ++ Q) z = true) : (∃ u v, P = u ++ v ∧ u.sum = z) ∨ ∃ u v, Q = u ++ v ∧ P.sum + u.sum = z := by
  obtain ⟨w, v, e, hz⟩ := hit_iff.mp h
  rcases List.append_eq_append_iff.mp e.symm with ⟨as, h1, h2⟩ | ⟨cs, h1, h2⟩
  · left; exact ⟨w, as, h1, hz⟩
  · right; exact ⟨cs, v, h2, by rw [h1, List.sum_append] at hz; exact hz⟩

/-- L0: if each order of Y hits d, all in Y are one amount, which divides d -/
theorem all_one {Y : List Int} {d : Int} (hp : Pos Y) (h0 : 0 < d) (h1 : d < Y.sum) (h : ∀ Z, Z.Perm Y → hitb 0 Z d = true) :
    ∃ v, (∀ y ∈ Y, y = v) ∧ v ∣ d := by
  obtain ⟨P, Q, e, hP⟩ := hit_iff.mp (h Y (List.Perm.refl _))
  subst e
  have hPn : P ≠ [] := by rintro rfl; simp at hP; omega
  have hQn : Q ≠ [] := by rintro rfl; simp [hP] at h1
  have key : ∀ p ∈ P, ∀ q ∈ Q, q = p := by
    intro p hpP q hqQ
    obtain ⟨P', pP, sP⟩ := mem_perm hpP
    obtain ⟨Q', pQ, sQ⟩ := mem_perm hqQ
    have pp : 0 < p := hp p (List.mem_append_left _ hpP)
    have pq : 0 < q := hp q (List.mem_append_right _ hqQ)
    have perm : (P' ++ q :: p :: Q').Perm (P ++ Q) := by
      have a1 : (P' ++ q :: p :: Q').Perm (P' ++ p :: q :: Q') := perm_swap P' Q' p q
      have a2 : (P' ++ p :: q :: Q').Perm (p :: P' ++ q :: Q') := List.perm_middle
      exact (a1.trans a2).trans (pP.symm.append pQ.symm)
    have hP' : Pos P' := (hp.left.perm pP).tail
    rcases hit_append (h _ perm) with ⟨u, v, e, hz⟩ | ⟨u, v, e, hz⟩
    · have := (e ▸ hP').right.sum_nonneg
      have : P'.sum = u.sum + v.sum := by rw [e, List.sum_append]
      omega
    · cases u with
      | nil => simp at hz; omega
      | cons a u =>
        simp only [List.cons_append, List.cons.injEq] at e
        obtain ⟨rfl, e⟩ := e
        cases u with
        | nil => simp at hz; omega
        | cons b u =>
          simp only [List.cons_append, List.cons.injEq] at e
          obtain ⟨rfl, e⟩ := e
          have hQ' : Pos Q' := (hp.right.perm pQ).tail
          have := (e ▸ hQ').left.sum_nonneg
          simp only [List.sum_cons] at hz
          omega
  obtain ⟨p, hpP⟩ := List.exists_mem_of_ne_nil P hPn
  obtain ⟨q, hqQ⟩ := List.exists_mem_of_ne_nil Q hQn
  have eP : ∀ x ∈ P, x = p := fun x hx => by rw [← key x hx q hqQ, key p hpP q hqQ]
  refine ⟨p, fun y hy => ?_, ?_⟩
  · rcases List.mem_append.mp hy with h | h
    · exact eP y h
    · exact key p hpP y h
  · rw [← hP]
    have : ∀ l : List Int, (∀ x ∈ l, x = p) → p ∣ l.sum := by
      intro l
      induction l with
      | nil => intro _; simp
      | cons x r ih =>
        intro hl
        rw [List.sum_cons, hl x List.mem_cons_self]
        exact Int.dvd_add (Int.dvd_refl p) (ih fun y hy => hl y (List.mem_cons_of_mem _ hy))
    exact this P eP

/-- L1: an even split X0 X1 | Y0 Y1, p of X0 less than q of X1: Y1 has one amount, which divides q - p -/
theorem split_one {a b X0 X1 Y0 Y1 : List Int} (ha : Pos a) (hb : Pos b) (sw : Sw b a) (pa : (X0 ++ X1).Perm a) (pb : (Y0 ++ Y1).Perm b)
    (e0 : X0.sum = Y0.sum) (e1 : X1.sum = Y1.sum) {p q : Int} (hp : p ∈ X0) (hq : q ∈ X1) (lt : p < q) : ∃ v, (∀ y ∈ Y1, y = v) ∧ v ∣ q - p := by
  obtain ⟨X0', pX0, sX0⟩ := mem_perm hp
  obtain ⟨X1', pX1, sX1⟩ := mem_perm hq
  have hX : Pos (X0 ++ X1) := ha.perm pa.symm
  have hY : Pos (Y0 ++ Y1) := hb.perm pb.symm
  have hX1' : Pos X1' := (hX.right.perm pX1).tail
  have p0 : 0 < p := hX p (List.mem_append_left _ hp)
  have perm : (X0' ++ p :: q :: X1').Perm a := by
    have a2 : (X0' ++ p :: q :: X1').Perm (p :: X0' ++ q :: X1') := List.perm_middle
    exact (a2.trans (pX0.symm.append pX1.symm)).trans pa
  refine all_one (d := q - p) hY.right (by omega) ?_ fun Z pZ => ?_
  · have := hX1'.sum_nonneg
    omega
  · have h := sw (Y0 ++ Z) X0' X1' p q ((List.Perm.append_left Y0 pZ).trans pb) perm
    rw [hit_of (v := Z) (show Y0.sum = X0'.sum + p by omega)] at h
    rcases hit_append h.symm with ⟨u, v, e, hz⟩ | ⟨u, v, e, hz⟩
    · have : Y0.sum = u.sum + v.sum := by rw [e, List.sum_append]
      have := (e ▸ hY.left).right.sum_nonneg
      omega
    · exact hit_iff.mpr ⟨u, v, e, by omega⟩
theorem sum_repl (k : Nat) (w : Int) : (List.replicate k w).sum = k * w := by
  induction k with
  | zero => simp
  | succ k ih => rw [List.replicate_succ, List.sum_cons, ih]; simp [Int.add_mul]; omega
theorem eq_repl {l : List Int} {w : Int} (h : ∀ x ∈ l, x = w) : l = List.replicate l.length w := List.eq_replicate_iff.mpr ⟨rfl, h⟩
theorem repl_prefix {k : Nat} {w : Int} {u v : List Int} (h : List.replicate k w = u ++ v) : ∃ i, i ≤ k ∧ u = List.replicate i w := by
  refine ⟨u.length, ?_, ?_⟩
  · have := congrArg List.length h
    simp at this; omega
  · refine eq_repl fun x hx => ?_
    have : x ∈ List.replicate k w := by rw [h]; exact List.mem_append_left _ hx
    exact (List.mem_replicate.mp this).2
/-- the last orders: w .. w q w .. w .. against .. b' v .. -/
theorem last_clash {a b X0 X1 Y0 Y1 : List Int} (ha : Pos a) (hb : Pos b) (sw : Sw a b) (pa : (X0 ++ X1).Perm a) (pb : (Y0 ++ Y1).Perm b)
    (e0 : X0.sum = Y0.sum) (e1 : X1.sum = Y1.sum) {w v q c : Int} (hw : ∀ x ∈ X0, x = w) (hv : ∀ y ∈ Y1, y = v) (hq : q ∈ X1) (hc : c ∈ Y0) (w0 : 0 < w) (v0 : 0 < v)
    (hwq : w < q) (hvc : v < c) (dv : v ∣ q - w) (dw : w ∣ c - v) : False := by
  obtain ⟨t', ht⟩ := dv
  obtain ⟨s', hs⟩ := dw
  have t0 : 0 < t' := by
    by_cases h : 0 < t'
    · exact h
    · have : v * t' ≤ 0 := Int.mul_nonpos_of_nonneg_of_nonpos (by omega) (by omega)
      omega
  have s0 : 0 < s' := by
    by_cases h : 0 < s'
    · exact h
    · have : w * s' ≤ 0 := Int.mul_nonpos_of_nonneg_of_nonpos (by omega) (by omega)
      omega
  obtain ⟨t, rfl⟩ : ∃ t : Nat, t' = t := ⟨t'.toNat, by omega⟩
  obtain ⟨s, rfl⟩ : ∃ s : Nat, s' = s := ⟨s'.toNat, by omega⟩
  obtain ⟨X1', pX1, sX1⟩ := mem_perm hq
  obtain ⟨Y0', pY0, sY0⟩ := mem_perm hc
  have hX : Pos (X0 ++ X1) := ha.perm pa.symm
  have hY : Pos (Y0 ++ Y1) := hb.perm pb.symm
  have hX1' : Pos X1' := (hX.right.perm pX1).tail
  have hY0' : Pos Y0' := (hY.left.perm pY0).tail
  have n1 := hX1'.sum_nonneg
  have n2 := hY0'.sum_nonneg
  have eX0 := eq_repl hw
  have eY1 := eq_repl hv
  have sX0 : X0.sum = X0.length * w := by rw [eX0, sum_repl, List.length_replicate]
  have sY1 : Y1.sum = Y1.length * v := by rw [eY1, sum_repl, List.length_replicate]
  generalize hk : X0.length = k at *
  generalize hl : Y1.length = l at *
  -- s < k, t < l
  have sk : s < k := by
    by_cases h : s < k
    · exact h
    · have h1 : (k : Int) * w ≤ s * w := Int.mul_le_mul_of_nonneg_right (by omega) (by omega)
      have h2 : w * (s : Int) = s * w := Int.mul_comm _ _
      omega
  have tl : t < l := by
    by_cases h : t < l
    · exact h
    · have h1 : (l : Int) * v ≤ t * v := Int.mul_le_mul_of_nonneg_right (by omega) (by omega)
      have h2 : v * (t : Int) = t * v := Int.mul_comm _ _
      omega
  obtain ⟨j, hj⟩ : ∃ j, k = j + s ∧ 0 < j := ⟨k - s, by omega, by omega⟩
  obtain ⟨i, hi⟩ : ∃ i, l = t + (i + 1) := ⟨l - t - 1, by omega⟩
  have hs1 : ∃ s1, s = s1 + 1 := ⟨s - 1, by omega⟩
  obtain ⟨s1, hs1⟩ := hs1
  -- the order of the owers
  have permA : (List.replicate j w ++ (q :: List.replicate s w ++ X1')).Perm a := by
    have r1 : (List.replicate j w ++ (q :: List.replicate s w ++ X1')).Perm (List.replicate j w ++ (List.replicate s w ++ q :: X1')) := List.Perm.append_left _ List.perm_middle.symm
    have r2 : List.replicate j w ++ (List.replicate s w ++ q :: X1') = X0 ++ q :: X1' := by rw [← List.append_assoc, List.replicate_append_replicate, ← hj.1, ← eX0]
    rw [r2] at r1
    exact (r1.trans (List.Perm.append_left X0 pX1.symm)).trans pa
  have permB : ((Y0' ++ List.replicate t v) ++ c :: v :: List.replicate i v).Perm b := by
    have r1 : ((Y0' ++ List.replicate t v) ++ c :: v :: List.replicate i v).Perm (c :: ((Y0' ++ List.replicate t v) ++ v :: List.replicate i v)) := List.perm_middle
    have r2 : (c :: ((Y0' ++ List.replicate t v) ++ v :: List.replicate i v)) = (c :: Y0') ++ Y1 := by
      rw [eY1, hi, List.append_assoc, ← List.replicate_succ, List.replicate_append_replicate]; rfl
    rw [r2] at r1
    exact (r1.trans (pY0.symm.append_right Y1)).trans pb
  have h := sw _ _ _ c v permA permB
  have sU : (Y0' ++ List.replicate t v).sum = Y0'.sum + t * v := by rw [List.sum_append, sum_repl]
  rw [sU] at h
  have ekw : (k : Int) * w = j * w + s * w := by rw [hj.1, Int.natCast_add, Int.add_mul]
  have esw : (s : Int) * w = s1 * w + w := by rw [hs1, Int.natCast_add, Int.add_mul]; omega
  have c1 : w * (s : Int) = s * w := Int.mul_comm _ _
  have c2 : v * (t : Int) = t * v := Int.mul_comm _ _
  have tv0 : 0 < (t : Int) * v := Int.mul_pos t0 v0
  have hit1 : hitb 0 (List.replicate j w ++ (q :: List.replicate s w ++ X1')) (Y0'.sum + t * v + c) = true := by
    have e : List.replicate j w ++ (q :: List.replicate s w ++ X1') = (List.replicate j w ++ (q :: List.replicate s1 w)) ++ (w :: X1') := by
      rw [hs1]; simp [List.replicate_succ', List.append_assoc]
    rw [e]
    refine hit_of ?_
    simp only [List.sum_append, List.sum_cons, sum_repl]
    omega
  rw [hit1] at h
  rcases hit_append h.symm with ⟨u, v', e, hz⟩ | ⟨u, v', e, hz⟩
  · obtain ⟨i', hi', rfl⟩ := repl_prefix e
    rw [sum_repl] at hz
    have : (i' : Int) * w ≤ j * w := Int.mul_le_mul_of_nonneg_right (by omega) (by omega)
    omega
  · rw [sum_repl] at hz
    cases u with
    | nil => simp at hz; omega
    | cons x u =>
      simp only [List.cons_append, List.cons.injEq] at e
      obtain ⟨rfl, e⟩ := e
      have hR : Pos (List.replicate s w ++ X1') := Pos.append (fun x hx => by rw [(List.mem_replicate.mp hx).2]; exact w0) hX1'
      have := (e ▸ hR).left.sum_nonneg
      simp only [List.sum_cons] at hz
      omega

/-- an even split whose p is less: no alike evening without all of one side equal -/
theorem clash {a b X0 X1 Y0 Y1 : List Int} (ha : Pos a) (hb : Pos b) (swA : Sw a b) (swB : Sw b a) (pa : (X0 ++ X1).Perm a) (pb : (Y0 ++ Y1).Perm b)
    (e0 : X0.sum = Y0.sum) (e1 : X1.sum = Y1.sum) {p q c d : Int} (hp : p ∈ X0) (hq : q ∈ X1) (lt : p < q) (hc : c ∈ Y0) (hd : d ∈ Y1) (ne : c ≠ d) : False := by
  have hX : Pos (X0 ++ X1) := ha.perm pa.symm
  have hY : Pos (Y0 ++ Y1) := hb.perm pb.symm
  have p0 : 0 < p := hX p (List.mem_append_left _ hp)
  have d0 : 0 < d := hY d (List.mem_append_right _ hd)
  have c0 : 0 < c := hY c (List.mem_append_left _ hc)
  obtain ⟨v, hv, dv⟩ := split_one ha hb swB pa pb e0 e1 hp hq lt
  have ev := hv d hd
  subst ev
  by_cases h : c < d
  · obtain ⟨z, hz, dz⟩ := split_one hb ha swA pb pa e0.symm e1.symm hc hd h
    have ez := hz q hq
    subst ez
    have h1 := Int.le_of_dvd (by omega) dv
    have h2 := Int.le_of_dvd (by omega) dz
    omega
  · have h' : d < c := by omega
    obtain ⟨w, hw, dw⟩ := split_one hb ha swA (List.perm_append_comm.trans pb) (List.perm_append_comm.trans pa) e1.symm e0.symm hd hc h'
    have ew := hw p hp
    subst ew
    exact last_clash ha hb swA pa pb e0 e1 hw hv hq hc p0 d0 lt h' dv dw

/-- a side of one amount by which all of the other side leave one rest -/
def Unit (ones others : List Int) : Prop := ∃ u r : Int, 0 < u ∧ (∀ x ∈ ones, x = u) ∧ ∀ y ∈ others, y % u = r

theorem unit_of_split {a b X0 X1 Y0 Y1 : List Int} (_ha : Pos a) (_hb : Pos b) (swA : Sw a b) (pa : (X0 ++ X1).Perm a) (pb : (Y0 ++ Y1).Perm b)
    (e0 : X0.sum = Y0.sum) (n0 : Y0 ≠ []) (n1 : Y1 ≠ []) {u : Int} (u0 : 0 < u) (hu : ∀ x ∈ a, x = u) : Unit a b := by
  have hX : ∀ x ∈ X0, x = u := fun x hx => hu x (pa.mem_iff.mp (List.mem_append_left _ hx))
  have key : ∀ p ∈ Y0, ∀ q ∈ Y1, q % u = p % u := by
    intro p hp q hq
    obtain ⟨Y0', p0, s0⟩ := mem_perm hp
    obtain ⟨Y1', p1, s1⟩ := mem_perm hq
    have perm : (Y0' ++ p :: q :: Y1').Perm b := by
      have a2 : (Y0' ++ p :: q :: Y1').Perm (p :: Y0' ++ q :: Y1') := List.perm_middle
      exact (a2.trans (p0.symm.append p1.symm)).trans pb
    have h := swA (X0 ++ X1) _ _ p q pa perm
    have sX0 : X0.sum = X0.length * u := by
      have := eq_repl hX
      rw [this, sum_repl, List.length_replicate]
    rw [hit_of (v := X1) (show X0.sum = Y0'.sum + p by omega)] at h
    obtain ⟨w, z, e, hz⟩ := hit_iff.mp h.symm
    have hw : ∀ x ∈ w, x = u := fun x hx => hu x (pa.mem_iff.mp (by rw [e]; exact List.mem_append_left _ hx))
    have sw : w.sum = w.length * u := by
      have := eq_repl hw
      rw [this, sum_repl, List.length_replicate]
    have e3 : q = p + u * (w.length - X0.length) := by
      rw [Int.mul_sub, Int.mul_comm u, Int.mul_comm u]; omega
    rw [e3, Int.add_mul_emod_self_left]
  obtain ⟨p, hp⟩ := List.exists_mem_of_ne_nil Y0 n0
  obtain ⟨q, hq⟩ := List.exists_mem_of_ne_nil Y1 n1
  refine ⟨u, p % u, u0, hu, fun y hy => ?_⟩
  rcases List.mem_append.mp (pb.mem_iff.mpr hy) with h | h
  · rw [← key y h q hq, key p hp q hq]
  · exact key p hp y h

theorem one_or_two (l : List Int) : (∃ u, ∀ x ∈ l, x = u) ∨ ∃ x ∈ l, ∃ y ∈ l, x ≠ y := by
  cases l with
  | nil => left; exact ⟨0, by simp⟩
  | cons a r =>
    by_cases h : ∀ x ∈ r, x = a
    · left; exact ⟨a, fun x hx => by rcases List.mem_cons.mp hx with h1 | h1; exact h1; exact h x h1⟩
    · right
      simp only [Classical.not_forall] at h
      obtain ⟨x, hx, hne⟩ := h
      exact ⟨a, List.mem_cons_self, x, List.mem_cons_of_mem _ hx, fun e => hne e.symm⟩
/-- two unlike ones stand across a split -/
theorem across {X0 X1 : List Int} (n0 : X0 ≠ []) (n1 : X1 ≠ []) (h : ∃ x ∈ X0 ++ X1, ∃ y ∈ X0 ++ X1, x ≠ y) : ∃ p ∈ X0, ∃ q ∈ X1, p ≠ q := by
  apply Classical.byContradiction
  intro hc
  have key : ∀ p ∈ X0, ∀ q ∈ X1, p = q := fun p hp q hq => Classical.byContradiction fun e => hc ⟨p, hp, q, hq, e⟩
  obtain ⟨p, hp⟩ := List.exists_mem_of_ne_nil X0 n0
  obtain ⟨q, hq⟩ := List.exists_mem_of_ne_nil X1 n1
  have all : ∀ z ∈ X0 ++ X1, z = q := fun z hz => by
    rcases List.mem_append.mp hz with h | h
    · exact key z h q hq
    · rw [← key p hp z h, key p hp q hq]
  obtain ⟨x, hx, y, hy, ne⟩ := h
  exact ne ((all x hx).trans (all y hy).symm)

/-- an even split in two -/
def Split (a b : List Int) : Prop := ∃ X0 X1 Y0 Y1 : List Int, (X0 ++ X1).Perm a ∧ (Y0 ++ Y1).Perm b ∧ X0.sum = Y0.sum ∧ X0 ≠ [] ∧ X1 ≠ []

/-- THE NINTH FACT, the hard way -/
theorem ninth {a b : List Int} (ha : Pos a) (hb : Pos b) (hs : a.sum = b.sum) (al : Alike a b) (sp : Split a b) : Unit a b ∨ Unit b a := by
  have swA := al.swB ha hb hs
  have swB := al.swA ha hb hs
  obtain ⟨X0, X1, Y0, Y1, pa, pb, e0, nx0, nx1⟩ := sp
  have hX : Pos (X0 ++ X1) := ha.perm pa.symm
  have hY : Pos (Y0 ++ Y1) := hb.perm pb.symm
  have e1 : X1.sum = Y1.sum := by
    have h1 := perm_sum pa
    have h2 := perm_sum pb
    rw [List.sum_append] at h1 h2
    omega
  have s0 := hX.left.sum_pos nx0
  have s1 := hX.right.sum_pos nx1
  have ny0 : Y0 ≠ [] := by rintro rfl; simp at e0; omega
  have ny1 : Y1 ≠ [] := by rintro rfl; simp at e1; omega
  rcases one_or_two a with ⟨u, hu⟩ | hA
  · left
    have u0 : 0 < u := by
      obtain ⟨x, hx⟩ := List.exists_mem_of_ne_nil X0 nx0
      have hm := pa.mem_iff.mp (List.mem_append_left X1 hx)
      rw [← hu x hm]; exact ha x hm
    exact unit_of_split ha hb swA pa pb e0 ny0 ny1 u0 hu
  · rcases one_or_two b with ⟨u, hu⟩ | hB
    · right
      have u0 : 0 < u := by
        obtain ⟨x, hx⟩ := List.exists_mem_of_ne_nil Y0 ny0
        have hm := pb.mem_iff.mp (List.mem_append_left Y1 hx)
        rw [← hu x hm]; exact hb x hm
      exact unit_of_split hb ha swB pb pa e0.symm nx0 nx1 u0 hu
    · exfalso
      have hA' : ∃ x ∈ X0 ++ X1, ∃ y ∈ X0 ++ X1, x ≠ y := by
        obtain ⟨x, hx, y, hy, ne⟩ := hA
        exact ⟨x, pa.mem_iff.mpr hx, y, pa.mem_iff.mpr hy, ne⟩
      have hB' : ∃ x ∈ Y0 ++ Y1, ∃ y ∈ Y0 ++ Y1, x ≠ y := by
        obtain ⟨x, hx, y, hy, ne⟩ := hB
        exact ⟨x, pb.mem_iff.mpr hx, y, pb.mem_iff.mpr hy, ne⟩
      obtain ⟨p, hp, q, hq, npq⟩ := across nx0 nx1 hA'
      obtain ⟨c, hc, d, hd, ncd⟩ := across ny0 ny1 hB'
      by_cases h : p < q
      · exact clash ha hb swA swB pa pb e0 e1 hp hq h hc hd ncd
      · exact clash ha hb swA swB (List.perm_append_comm.trans pa) (List.perm_append_comm.trans pb) e1 e0 hq hp (by omega) hd hc (Ne.symm ncd)

/-! ### with a unit all orders are alike -/
/-- how often the rests come to 0 -/
def reps (u r : Int) : Nat → Int → Nat
  | 0, _ => 0
  | n + 1, s => (if (s + r) % u = 0 then 1 else 0) + reps u r n (s + r)
theorem reps_mod {u r : Int} : ∀ (n : Nat) (s t : Int), s % u = t % u → reps u r n s = reps u r n t
  | 0, _, _, _ => rfl
  | n + 1, s, t, h => by
    have e : (s + r) % u = (t + r) % u := by rw [Int.add_emod, h, ← Int.add_emod]
    simp only [reps]
    rw [e, reps_mod n _ _ e]
theorem cnt_reps {u r : Int} {h : Int → Bool} {M : Int} : ∀ (B : List Int) (s : Int), Pos B → 0 ≤ s → s + B.sum ≤ M → (∀ z, 0 ≤ z → z ≤ M → (h z = true ↔ z % u = 0)) → (∀ y ∈ B, y % u = r % u) → cnt h s B = reps u r B.length s
  | [], _, _, _, _, _, _ => rfl
  | y :: B, s, hp, hs, hM, hh, hr => by
    have y0 := hp.head
    have n0 := hp.tail.sum_nonneg
    simp only [List.sum_cons] at hM
    have e : (s + y) % u = (s + r) % u := by rw [Int.add_emod, hr y List.mem_cons_self, ← Int.add_emod]
    simp only [cnt, reps, List.length_cons]
    rw [cnt_reps B (s + y) hp.tail (by omega) (by omega) hh (fun z hz => hr z (List.mem_cons_of_mem _ hz)), reps_mod _ _ _ e]
    have h1 := hh (s + y) (by omega) (by omega)
    rw [e] at h1
    by_cases h2 : (s + r) % u = 0
    · rw [if_pos (h1.mpr h2), if_pos h2]
    · rw [if_neg (fun h3 => h2 (h1.mp h3)), if_neg h2]
theorem hit_ones {A : List Int} {u : Int} (u0 : 0 < u) (hA : ∀ x ∈ A, x = u) (z : Int) (h0 : 0 ≤ z) (h1 : z ≤ A.sum) : hitb 0 A z = true ↔ z % u = 0 := by
  have eA := eq_repl hA
  rw [hit_iff]
  constructor
  · rintro ⟨w, v, e, hz⟩
    have hw : ∀ x ∈ w, x = u := fun x hx => hA x (by rw [e]; exact List.mem_append_left _ hx)
    have := eq_repl hw
    rw [this, sum_repl] at hz
    rw [← hz]; exact Int.mul_emod_left _ _
  · intro h
    obtain ⟨k, hk⟩ := Int.dvd_of_emod_eq_zero h
    have k0 : 0 ≤ k := by
      by_cases hh : 0 ≤ k
      · exact hh
      · have : u * k < 0 := Int.mul_neg_of_pos_of_neg u0 (by omega)
        omega
    obtain ⟨m, rfl⟩ : ∃ m : Nat, k = m := ⟨k.toNat, by omega⟩
    have ml : m ≤ A.length := by
      by_cases hh : m ≤ A.length
      · exact hh
      · rw [eA, sum_repl] at h1
        have : ((A.length + 1 : Nat) : Int) * u ≤ m * u := Int.mul_le_mul_of_nonneg_right (by omega) (by omega)
        rw [Int.natCast_add, Int.add_mul] at this
        have c := Int.mul_comm u (m : Int)
        simp at this
        omega
    refine ⟨A.take m, A.drop m, (List.take_append_drop m A).symm, ?_⟩
    have ht : ∀ x ∈ A.take m, x = u := fun x hx => hA x (List.mem_of_mem_take hx)
    rw [eq_repl ht, sum_repl, List.length_take, Nat.min_eq_left ml, hk, Int.mul_comm]
theorem alike_unit {a b : List Int} (ha : Pos a) (hb : Pos b) (hs : a.sum = b.sum) (h : Unit a b) : Alike a b := by
  obtain ⟨u, r, u0, hu, hr⟩ := h
  have val : ∀ A B, A.Perm a → B.Perm b → J A B = reps u r b.length 0 := by
    intro A B pA pB
    have sA : A.sum = B.sum := by rw [perm_sum pA, perm_sum pB, hs]
    rw [J_B (ha.perm pA.symm) (hb.perm pB.symm) sA]
    have hA : ∀ x ∈ A, x = u := fun x hx => hu x (pA.mem_iff.mp hx)
    rw [cnt_reps (u := u) (r := r) (M := A.sum) B 0 (hb.perm pB.symm) (by omega) (by omega) (fun z h0 h1 => hit_ones u0 hA z h0 h1) (fun y hy => by
      have := hr y (pB.mem_iff.mp hy)
      rw [← this]; exact (Int.emod_emod_of_dvd y (Int.dvd_refl u)).symm), pB.length_eq]
  intro A B pA pB
  rw [val A B pA pB, val a b (List.Perm.refl _) (List.Perm.refl _)]
theorem J_comm {A B : List Int} (ha : Pos A) (hb : Pos B) (hs : A.sum = B.sum) : J A B = J B A := by
  rw [J_A ha hb hs, J_B hb ha hs.symm]
theorem Alike.comm {a b : List Int} (ha : Pos a) (hb : Pos b) (hs : a.sum = b.sum) (h : Alike a b) : Alike b a := by
  intro B A pB pA
  have sA : B.sum = A.sum := by rw [perm_sum pA, perm_sum pB, hs]
  rw [J_comm (hb.perm pB.symm) (ha.perm pA.symm) sA, J_comm hb ha hs.symm]
  exact h A B pA pB
theorem alike_units {a b : List Int} (ha : Pos a) (hb : Pos b) (hs : a.sum = b.sum) (h : Unit a b ∨ Unit b a) : Alike a b := by
  rcases h with h | h
  · exact alike_unit ha hb hs h
  · exact (alike_unit hb ha hs.symm h).comm hb ha hs.symm
end K70
end
section
set_option autoImplicit false
namespace K70
/-! ### sums by masks -/
/-- the sum of the w i, i < n, whose bit is in the mask -/
def ms (w : Nat → Int) : Nat → Nat → Int
  | 0, _ => 0
  | n + 1, k => ms w n k + (if k.testBit n = true then w n else 0)
theorem ms_congr {w : Nat → Int} {k l : Nat} : ∀ {n : Nat}, (∀ i, i < n → k.testBit i = l.testBit i) → ms w n k = ms w n l
  | 0, _ => rfl
  | n + 1, h => by
    simp only [ms]
    rw [ms_congr (n := n) fun i hi => h i (by omega), h n (by omega)]
theorem ms_congrW {w v : Nat → Int} {k : Nat} : ∀ {n : Nat}, (∀ i, i < n → w i = v i) → ms w n k = ms v n k
  | 0, _ => rfl
  | n + 1, h => by
    simp only [ms]
    rw [ms_congrW (n := n) fun i hi => h i (by omega), h n (by omega)]
theorem ms_high {w : Nat → Int} {n j : Nat} (h : j < 2 ^ n) : ms w (n + 1) (2 ^ n + j) = ms w n j + w n := by
  simp only [ms]
  rw [Nat.testBit_two_pow_add_eq, Nat.testBit_lt_two_pow h]
  rw [ms_congr (l := j) fun i hi => by rw [Nat.testBit_two_pow_add_gt hi]]
  simp
theorem ms_low {w : Nat → Int} {n j : Nat} (h : j < 2 ^ n) : ms w (n + 1) j = ms w n j := by
  simp only [ms]
  rw [Nat.testBit_lt_two_pow h]; simp
theorem ms_zero {w : Nat → Int} : ∀ n, ms w n 0 = 0
  | 0 => rfl
  | n + 1 => by simp only [ms, Nat.zero_testBit]; rw [ms_zero n]; simp
/-- one bit more -/
theorem ms_set {w : Nat → Int} {k i : Nat} (hk : k.testBit i = false) : ∀ {n : Nat}, i < n → ms w n (k ||| 2 ^ i) = ms w n k + w i
  | 0, h => by omega
  | n + 1, h => by
    simp only [ms]
    by_cases e : n = i
    · subst e
      rw [ms_congr (l := k) fun j hj => by
        rw [Nat.testBit_or, Nat.testBit_two_pow_of_ne (by omega)]; simp]
      rw [Nat.testBit_or, Nat.testBit_two_pow_self, hk]
      simp
    · rw [ms_set hk (n := n) (by omega)]
      rw [Nat.testBit_or, Nat.testBit_two_pow_of_ne (by omega)]
      simp only [Bool.or_false]; omega
/-- what of all is left out -/
theorem ms_split {w : Nat → Int} {k : Nat} : ∀ n : Nat, ms w n (2 ^ n - 1) = ms w n k + ms w n ((2 ^ n - 1) ^^^ k)
  | 0 => rfl
  | n + 1 => by
    have h := ms_split (w := w) (k := k) n
    simp only [ms]
    rw [ms_congr (n := n) (k := 2 ^ (n + 1) - 1) (l := 2 ^ n - 1) fun i hi => by
      rw [Nat.testBit_two_pow_sub_one, Nat.testBit_two_pow_sub_one]
      simp; omega]
    rw [ms_congr (n := n) (k := (2 ^ (n + 1) - 1) ^^^ k) (l := (2 ^ n - 1) ^^^ k) fun i hi => by
      rw [Nat.testBit_xor, Nat.testBit_xor, Nat.testBit_two_pow_sub_one, Nat.testBit_two_pow_sub_one]
      simp [show i < n + 1 by omega, hi]]
    rw [h, Nat.testBit_xor, Nat.testBit_two_pow_sub_one]
    have : decide (n < n + 1) = true := by simp
    rw [this]
    cases k.testBit n <;> simp <;> omega
/-- the sum of ms is no more than 0 where all taken are, and less if one is taken -/
theorem ms_neg {w : Nat → Int} {k : Nat} : ∀ {n : Nat}, (∀ i, i < n → k.testBit i = true → w i < 0) → ms w n k ≤ 0 ∧ ((∃ i, i < n ∧ k.testBit i = true) → ms w n k < 0)
  | 0, _ => ⟨by simp [ms], fun ⟨i, h, _⟩ => by omega⟩
  | n + 1, h => by
    have ih := ms_neg (n := n) fun i hi => h i (by omega)
    simp only [ms]
    by_cases hb : k.testBit n = true
    · have := h n (by omega) hb
      rw [if_pos hb]
      exact ⟨by omega, fun _ => by omega⟩
    · rw [if_neg hb]
      refine ⟨by omega, fun ⟨i, hi, hbi⟩ => ?_⟩
      by_cases e : i = n
      · subst e; exact absurd hbi hb
      · have := ih.2 ⟨i, by omega, hbi⟩; omega
theorem ms_minus {w : Nat → Int} {k : Nat} : ∀ n, ms (fun i => - w i) n k = - ms w n k
  | 0 => rfl
  | n + 1 => by simp only [ms]; rw [ms_minus n]; split <;> omega
theorem ms_nonneg {w : Nat → Int} {k n : Nat} (h : ∀ i, i < n → k.testBit i = true → 0 < w i) : 0 ≤ ms w n k := by
  have := (ms_neg (w := fun i => - w i) (k := k) (n := n) fun i hi hb => by have := h i hi hb; omega).1
  rw [ms_minus] at this; omega

/-- the list of the gaps as it is built -/
def gapsL : List Int → List Int → List Int
  | acc, [] => acc
  | acc, x :: r => gapsL (acc ++ acc.map (· + x)) r
/-- acc is the list of the first n bits' sums -/
def Gaps (w : Nat → Int) (n : Nat) (acc : List Int) : Prop := acc.length = 2 ^ n ∧ ∀ k, k < 2 ^ n → acc[k]? = some (ms w n k)
theorem Gaps.zero {w : Nat → Int} : Gaps w 0 [0] := ⟨rfl, fun k hk => by
  have : k = 0 := by simp at hk; omega
  subst this; rfl⟩
theorem Gaps.step {w : Nat → Int} {n : Nat} {acc : List Int} (h : Gaps w n acc) : Gaps w (n + 1) (acc ++ acc.map (· + w n)) := by
  obtain ⟨hl, hg⟩ := h
  refine ⟨by simp [hl, Nat.pow_succ]; omega, fun k hk => ?_⟩
  by_cases h1 : k < 2 ^ n
  · rw [List.getElem?_append_left (by omega), hg k h1, ms_low h1]
  · obtain ⟨j, rfl⟩ : ∃ j, k = 2 ^ n + j := ⟨k - 2 ^ n, by omega⟩
    have hj : j < 2 ^ n := by rw [Nat.pow_succ] at hk; omega
    rw [List.getElem?_append_right (by omega), hl, show 2 ^ n + j - 2 ^ n = j by omega, List.getElem?_map, hg j hj, ms_high hj]
    rfl

/-! ### the people: w of owers, then takers -/
/-- w tells what each ower owes, and, less than 0, what each taker is due, all by a measure g -/
structure People (a b : List Int) (g : Int) (w : Nat → Int) : Prop where
  g0 : 0 < g
  pa : Pos a
  pb : Pos b
  eq : a.sum = b.sum
  ow : ∀ i x, a[i]? = some x → x = g * w i
  tk : ∀ j y, b[j]? = some y → y = - (g * w (a.length + j))
theorem pos_of_mul {g x : Int} (g0 : 0 < g) (h : 0 < g * x) : 0 < x := Int.pos_of_mul_pos_left (a := x) (by rw [Int.mul_comm]; exact h) g0

section
variable {a b : List Int} {g : Int} {w : Nat → Int}
theorem People.wpos (P : People a b g w) {i : Nat} (h : i < a.length) : 0 < w i := by
  have e := P.ow i _ (List.getElem?_eq_getElem h)
  have := P.pa _ (List.getElem_mem h)
  rw [e] at this
  exact pos_of_mul P.g0 this
theorem People.wneg (P : People a b g w) {j : Nat} (h : j < b.length) : w (a.length + j) < 0 := by
  have e := P.tk j _ (List.getElem?_eq_getElem h)
  have := P.pb _ (List.getElem_mem h)
  rw [e] at this
  have h2 : 0 < g * (- w (a.length + j)) := by rw [Int.mul_neg]; exact this
  have := pos_of_mul P.g0 h2
  omega

/-- the values of an order -/
def at0 (a : List Int) (i : Nat) : Int := a.getD i 0
theorem at0_of {a : List Int} {i : Nat} (h : i < a.length) : a[i]? = some (at0 a i) := by
  unfold at0; rw [List.getD_eq_getElem?_getD, List.getElem?_eq_getElem h]; rfl
theorem map_range {a : List Int} : (List.range a.length).map (at0 a) = a := by
  apply List.ext_getElem
  · simp
  · intro i h1 h2
    simp only [List.getElem_map, List.getElem_range, at0]
    rw [List.getD_eq_getElem?_getD, List.getElem?_eq_getElem h2]; rfl
theorem perm_vals {a : List Int} {σ : List Nat} (h : σ.Perm (List.range a.length)) : (σ.map (at0 a)).Perm a := by
  have := h.map (at0 a)
  rw [map_range] at this
  exact this
theorem perm_pull {α β : Type} {f : α → β} {l1 l2 : List β} (h : l1.Perm l2) : ∀ s : List α, s.map f = l2 → ∃ t : List α, t.Perm s ∧ t.map f = l1 := by
  induction h with
  | nil => intro s hs; exact ⟨s, List.Perm.refl _, hs⟩
  | cons x _ ih =>
    intro s hs
    cases s with
    | nil => simp at hs
    | cons y s =>
      simp only [List.map_cons, List.cons.injEq] at hs
      obtain ⟨t, pt, et⟩ := ih s hs.2
      exact ⟨y :: t, pt.cons y, by rw [List.map_cons, et, hs.1]⟩
  | swap x y l =>
    intro s hs
    cases s with
    | nil => simp at hs
    | cons u s =>
      cases s with
      | nil => simp at hs
      | cons v s =>
        simp only [List.map_cons, List.cons.injEq] at hs
        refine ⟨v :: u :: s, List.Perm.swap u v s, ?_⟩
        simp [hs.1, hs.2.1, hs.2.2]
  | trans _ _ h1 h2 =>
    intro s hs
    obtain ⟨t, pt, et⟩ := h2 s hs
    obtain ⟨r, pr, er⟩ := h1 t et
    exact ⟨r, pr.trans pt, er⟩
theorem perm_order {a A : List Int} (h : A.Perm a) : ∃ σ : List Nat, σ.Perm (List.range a.length) ∧ σ.map (at0 a) = A :=
  perm_pull h _ map_range

/-! ### the walk of the lots -/
/-- who may come next behind a lot -/
def nexts (m n : Nat) (gap : Int) (lot : Nat) : List Nat :=
  if gap ≤ 0 then (List.range m).filter fun i => !lot.testBit i else ((List.range n).map (m + ·)).filter fun i => !lot.testBit i
theorem mem_nexts_le {m n : Nat} {gap : Int} {lot i : Nat} (h : gap ≤ 0) : i ∈ nexts m n gap lot ↔ i < m ∧ lot.testBit i = false := by
  unfold nexts; rw [if_pos h, List.mem_filter, List.mem_range]; simp
theorem mem_nexts_gt {m n : Nat} {gap : Int} {lot i : Nat} (h : 0 < gap) : i ∈ nexts m n gap lot ↔ (m ≤ i ∧ i < m + n) ∧ lot.testBit i = false := by
  unfold nexts; rw [if_neg (by omega), List.mem_filter, List.mem_map]
  simp only [List.mem_range, Bool.not_eq_eq_eq_not, Bool.not_true]
  constructor
  · rintro ⟨⟨j, hj, rfl⟩, h2⟩; exact ⟨⟨by omega, by omega⟩, h2⟩
  · rintro ⟨⟨h1, h2⟩, h3⟩; exact ⟨⟨i - m, by omega, by omega⟩, h3⟩
/-- what a later lot gives -/
def gives (G f : Nat → Int) (later : Nat) : Int := f later + (if G later = 0 then 1 else 0)
/-- z is the least (the greatest) of a list -/
def Opt (few : Bool) (z : Int) (L : List Int) : Prop := z ∈ L ∧ ∀ y ∈ L, if few = true then z ≤ y else y ≤ z
/-- what follow gives -/
def Fol (few : Bool) (m n : Nat) (G f : Nat → Int) : Prop := f (2 ^ (m + n) - 1) = 0 ∧
  ∀ lot, lot < 2 ^ (m + n) - 1 → nexts m n (G lot) lot ≠ [] → Opt few (f lot) ((nexts m n (G lot) lot).map fun i => gives G f (lot ||| 2 ^ i))

theorem lot_full {n k : Nat} (hk : k < 2 ^ n) (h : ∀ i, i < n → k.testBit i = true) : k = 2 ^ n - 1 := by
  apply Nat.eq_of_testBit_eq
  intro i
  rw [Nat.testBit_two_pow_sub_one]
  by_cases hi : i < n
  · rw [h i hi]; simp [hi]
  · rw [Nat.testBit_lt_two_pow (Nat.lt_of_lt_of_le hk (Nat.pow_le_pow_right (by omega) (by omega)))]; simp [hi]
theorem lot_open {n k : Nat} (hk : k < 2 ^ n - 1) : ∃ i, i < n ∧ k.testBit i = false := by
  apply Classical.byContradiction
  intro hc
  have := lot_full (n := n) (k := k) (by omega) fun i hi => by
    cases h : k.testBit i with
    | true => rfl
    | false => exact absurd ⟨i, hi, h⟩ hc
  omega
theorem or_lt {n k i : Nat} (hk : k < 2 ^ n) (hi : i < n) : k ||| 2 ^ i < 2 ^ n := Nat.or_lt_two_pow hk (Nat.pow_lt_pow_right (by omega) hi)
theorem lt_or {k i : Nat} (h : k.testBit i = false) : k < k ||| 2 ^ i := by
  have h1 : k ≤ k ||| 2 ^ i := Nat.left_le_or
  have h2 : k ≠ k ||| 2 ^ i := fun e => by
    have : (k ||| 2 ^ i).testBit i = true := by rw [Nat.testBit_or, Nat.testBit_two_pow_self]; simp
    rw [← e, h] at this; cases this
  omega

/-- the number of what is left -/
theorem ms_total (P : People a b g w) {k : Nat} : g * ms w (a.length + b.length) k =
    (((List.range a.length).filter fun i => k.testBit i).map (at0 a)).sum - (((List.range b.length).filter fun j => k.testBit (a.length + j)).map (at0 b)).sum := by
  have h1 : ∀ m, m ≤ a.length → g * ms w m k = (((List.range m).filter fun i => k.testBit i).map (at0 a)).sum := by
    intro m
    induction m with
    | zero => intro _; simp [ms]
    | succ m ih =>
      intro hm
      simp only [ms]
      rw [List.range_succ, List.filter_append, List.map_append, List.sum_append, ← ih (by omega), Int.mul_add]
      congr 1
      have e := P.ow m _ (at0_of (by omega))
      cases hb : k.testBit m <;> simp [hb, e]
  have h2 : ∀ n, n ≤ b.length → g * ms w (a.length + n) k = g * ms w a.length k - (((List.range n).filter fun j => k.testBit (a.length + j)).map (at0 b)).sum := by
    intro n
    induction n with
    | zero => intro _; simp
    | succ n ih =>
      intro hn
      rw [← Nat.add_assoc]
      simp only [ms]
      rw [List.range_succ, List.filter_append, List.map_append, List.sum_append, Int.mul_add, ih (by omega)]
      have e := P.tk n _ (at0_of (by omega))
      cases hb : k.testBit (a.length + n) <;> simp [hb, e] <;> omega
  rw [h2 _ (Nat.le_refl _), h1 _ (Nat.le_refl _)]
theorem ms_full (P : People a b g w) : ms w (a.length + b.length) (2 ^ (a.length + b.length) - 1) = 0 := by
  have h := ms_total P (k := 2 ^ (a.length + b.length) - 1)
  have e1 : ((List.range a.length).filter fun i => (2 ^ (a.length + b.length) - 1).testBit i) = List.range a.length := by
    rw [List.filter_eq_self]
    intro i hi
    rw [Nat.testBit_two_pow_sub_one]
    have := List.mem_range.mp hi
    simp; omega
  have e2 : ((List.range b.length).filter fun j => (2 ^ (a.length + b.length) - 1).testBit (a.length + j)) = List.range b.length := by
    rw [List.filter_eq_self]
    intro i hi
    rw [Nat.testBit_two_pow_sub_one]
    have := List.mem_range.mp hi
    simp; omega
  rw [e1, e2, map_range, map_range, P.eq] at h
  have : g * ms w (a.length + b.length) (2 ^ (a.length + b.length) - 1) = g * 0 := by omega
  exact Int.eq_of_mul_eq_mul_left (Int.ne_of_gt P.g0) this

/-- somebody is next behind a lot that isn't all -/
theorem nexts_some (P : People a b g w) {lot : Nat} (h : lot < 2 ^ (a.length + b.length) - 1) : nexts a.length b.length (ms w (a.length + b.length) lot) lot ≠ [] := by
  intro he
  have none : ∀ i, i ∉ nexts a.length b.length (ms w (a.length + b.length) lot) lot := fun i hi => by rw [he] at hi; cases hi
  have hs := ms_split (w := w) (k := lot) (a.length + b.length)
  rw [ms_full P] at hs
  have tb : ∀ i, i < a.length + b.length → ((2 ^ (a.length + b.length) - 1) ^^^ lot).testBit i = !lot.testBit i := by
    intro i hi
    rw [Nat.testBit_xor, Nat.testBit_two_pow_sub_one]
    simp [hi]
  obtain ⟨i0, hi0, hb0⟩ := lot_open h
  by_cases hg : ms w (a.length + b.length) lot ≤ 0
  · have hall : ∀ i, i < a.length → lot.testBit i = true := fun i hi => by
      cases hb : lot.testBit i with
      | true => rfl
      | false => exact absurd ((mem_nexts_le hg).mpr ⟨hi, hb⟩) (none i)
    have hn := ms_neg (w := w) (k := (2 ^ (a.length + b.length) - 1) ^^^ lot) (n := a.length + b.length) fun i hi hb => by
      rw [tb i hi] at hb
      have hia : a.length ≤ i := by
        by_cases hh : a.length ≤ i
        · exact hh
        · rw [hall i (by omega)] at hb; cases hb
      have := P.wneg (j := i - a.length) (by omega)
      rw [show a.length + (i - a.length) = i by omega] at this
      exact this
    have := hn.2 ⟨i0, hi0, by rw [tb i0 hi0, hb0]; rfl⟩
    omega
  · have hall : ∀ i, a.length ≤ i → i < a.length + b.length → lot.testBit i = true := fun i h1 h2 => by
      cases hb : lot.testBit i with
      | true => rfl
      | false => exact absurd ((mem_nexts_gt (by omega)).mpr ⟨⟨h1, h2⟩, hb⟩) (none i)
    have := ms_nonneg (w := w) (k := (2 ^ (a.length + b.length) - 1) ^^^ lot) (n := a.length + b.length) fun i hi hb => by
      rw [tb i hi] at hb
      by_cases hh : a.length ≤ i
      · rw [hall i hh hi] at hb; cases hb
      · exact P.wpos (by omega)
    omega
theorem nexts_lt {m n : Nat} {gap : Int} {lot i : Nat} (h : i ∈ nexts m n gap lot) : i < m + n ∧ lot.testBit i = false := by
  by_cases hg : gap ≤ 0
  · have := (mem_nexts_le hg).mp h; exact ⟨by omega, this.2⟩
  · have := (mem_nexts_gt (by omega)).mp h; exact ⟨by omega, this.2⟩

/-- P2: where no lot between is even, all follow with one joint -/
theorem fol_one (P : People a b g w) {few : Bool} {f : Nat → Int} (h : Fol few a.length b.length (ms w (a.length + b.length)) f)
    (ne : ∀ k, 0 < k → k < 2 ^ (a.length + b.length) - 1 → ms w (a.length + b.length) k ≠ 0) : ∀ (d lot : Nat), lot + d + 1 = 2 ^ (a.length + b.length) - 1 → f lot = 1 := by
  intro d
  induction d using Nat.strongRecOn with
  | ind d ih =>
  intro lot hl
  have hlt : lot < 2 ^ (a.length + b.length) - 1 := by omega
  obtain ⟨hm, _⟩ := h.2 lot hlt (nexts_some P hlt)
  obtain ⟨i, hi, e⟩ := List.mem_map.mp hm
  obtain ⟨h1, h2⟩ := nexts_lt hi
  have l1 := lt_or h2
  have l2 := or_lt (n := a.length + b.length) (k := lot) (by omega) h1
  rw [← e]
  unfold gives
  by_cases hf : lot ||| 2 ^ i = 2 ^ (a.length + b.length) - 1
  · rw [hf, h.1, if_pos (ms_full P)]; rfl
  · rw [if_neg (ne _ (by omega) (by omega)), ih (2 ^ (a.length + b.length) - 1 - (lot ||| 2 ^ i) - 1) (by omega) _ (by omega)]; rfl

/-- P1: the lots of an order -/
theorem fol_bound (P : People a b g w) {few : Bool} {f : Nat → Int} (h : Fol few a.length b.length (ms w (a.length + b.length)) f) :
    ∀ (d : Nat) (S T : Int) (σ τ : List Nat) (lot : Nat), σ.length + τ.length = d → lot < 2 ^ (a.length + b.length) →
      (∀ i, i < a.length → (lot.testBit i = false ↔ i ∈ σ)) → (∀ j, j < b.length → (lot.testBit (a.length + j) = false ↔ j ∈ τ)) →
      (∀ i ∈ σ, i < a.length) → (∀ j ∈ τ, j < b.length) → σ.Nodup → τ.Nodup → S - T = g * ms w (a.length + b.length) lot →
      if few = true then f lot ≤ JJ S T (σ.map (at0 a)) (τ.map (at0 b)) else (JJ S T (σ.map (at0 a)) (τ.map (at0 b)) : Int) ≤ f lot := by
  intro d
  induction d with
  | zero =>
    intro S T σ τ lot hd hl h1 h2 _ _ _ _ hST
    have eσ : σ = [] := List.length_eq_zero_iff.mp (by omega)
    have eτ : τ = [] := List.length_eq_zero_iff.mp (by omega)
    subst eσ; subst eτ
    have hf : lot = 2 ^ (a.length + b.length) - 1 := lot_full hl fun i hi => by
      cases hb : lot.testBit i with
      | true => rfl
      | false =>
        by_cases hia : i < a.length
        · have := (h1 i hia).mp hb; cases this
        · have := (h2 (i - a.length) (by omega)).mp (by rw [show a.length + (i - a.length) = i by omega]; exact hb); cases this
    rw [hf, ms_full P] at hST
    rw [hf, h.1]
    have : JJ S T (([] : List Nat).map (at0 a)) (([] : List Nat).map (at0 b)) = 0 := JJ_nil (by omega) _
    rw [this]
    cases few <;> simp
  | succ d ih =>
    intro S T σ τ lot hd hl h1 h2 k1 k2 n1 n2 hST
    have hlt : lot < 2 ^ (a.length + b.length) - 1 := by
      cases σ with
      | cons i σ =>
        have hi := k1 i List.mem_cons_self
        have hb := (h1 i hi).mpr List.mem_cons_self
        have : lot ≠ 2 ^ (a.length + b.length) - 1 := fun e => by
          rw [e, Nat.testBit_two_pow_sub_one] at hb
          simp at hb; omega
        omega
      | nil =>
        cases τ with
        | nil => simp at hd
        | cons j τ =>
          have hj := k2 j List.mem_cons_self
          have hb := (h2 j hj).mpr List.mem_cons_self
          have : lot ≠ 2 ^ (a.length + b.length) - 1 := fun e => by
            rw [e, Nat.testBit_two_pow_sub_one] at hb
            simp at hb; omega
          omega
    have hne := nexts_some P hlt
    obtain ⟨_, hopt⟩ := h.2 lot hlt hne
    by_cases hg : ms w (a.length + b.length) lot ≤ 0
    · have hle : S ≤ T := by
        have : g * ms w (a.length + b.length) lot ≤ 0 := Int.mul_nonpos_of_nonneg_of_nonpos (by have := P.g0; omega) hg
        omega
      cases σ with
      | nil =>
        exfalso
        obtain ⟨i, hi⟩ := List.exists_mem_of_ne_nil _ hne
        obtain ⟨q1, q2⟩ := (mem_nexts_le hg).mp hi
        have := (h1 i q1).mp q2; cases this
      | cons i σ =>
        have hi := k1 i List.mem_cons_self
        have hb := (h1 i hi).mpr List.mem_cons_self
        have ni : i ∉ σ := (List.nodup_cons.mp n1).1
        have sset := ms_set (w := w) hb (n := a.length + b.length) (by omega)
        have ew := P.ow i _ (at0_of hi)
        have st : S + at0 a i - T = g * ms w (a.length + b.length) (lot ||| 2 ^ i) := by
          rw [sset, Int.mul_add, ← ew]; omega
        have r := ih (S + at0 a i) T σ τ (lot ||| 2 ^ i) (by simp at hd; omega) (or_lt hl (by omega))
          (fun i' hi' => by
            rw [Nat.testBit_or]
            by_cases e : i = i'
            · subst e; rw [Nat.testBit_two_pow_self]; simp [ni]
            · rw [Nat.testBit_two_pow_of_ne e, Bool.or_false, h1 i' hi']
              simp [Ne.symm e])
          (fun j hj => by
            rw [Nat.testBit_or, Nat.testBit_two_pow_of_ne (by omega), Bool.or_false]; exact h2 j hj)
          (fun x hx => k1 x (List.mem_cons_of_mem _ hx)) k2 (List.nodup_cons.mp n1).2 n2 st
        have o := hopt (gives (ms w (a.length + b.length)) f (lot ||| 2 ^ i)) (List.mem_map.mpr ⟨i, (mem_nexts_le hg).mpr ⟨hi, hb⟩, rfl⟩)
        rw [List.map_cons, JJ_le hle]
        have ez : (S + at0 a i = T) ↔ ms w (a.length + b.length) (lot ||| 2 ^ i) = 0 := by
          constructor
          · intro e
            have : g * ms w (a.length + b.length) (lot ||| 2 ^ i) = g * 0 := by omega
            exact Int.eq_of_mul_eq_mul_left (Int.ne_of_gt P.g0) this
          · intro e; rw [e] at st; omega
        unfold gives at o
        cases few with
        | true =>
          simp only [if_true] at o r ⊢
          by_cases e : S + at0 a i = T
          · rw [if_pos (ez.mp e)] at o; rw [if_pos e]; omega
          · rw [if_neg (fun q => e (ez.mpr q))] at o; rw [if_neg e]; omega
        | false =>
          simp only [Bool.false_eq_true, if_false] at o r ⊢
          by_cases e : S + at0 a i = T
          · rw [if_pos (ez.mp e)] at o; rw [if_pos e]; omega
          · rw [if_neg (fun q => e (ez.mpr q))] at o; rw [if_neg e]; omega
    · have hgt : T < S := by
        have : 0 < g * ms w (a.length + b.length) lot := Int.mul_pos P.g0 (by omega)
        omega
      cases τ with
      | nil =>
        exfalso
        obtain ⟨i, hi⟩ := List.exists_mem_of_ne_nil _ hne
        obtain ⟨q1, q2⟩ := (mem_nexts_gt (by omega)).mp hi
        have := (h2 (i - a.length) (by omega)).mp (by rw [show a.length + (i - a.length) = i by omega]; exact q2); cases this
      | cons j τ =>
        have hj := k2 j List.mem_cons_self
        have hb := (h2 j hj).mpr List.mem_cons_self
        have nj : j ∉ τ := (List.nodup_cons.mp n2).1
        have sset := ms_set (w := w) hb (n := a.length + b.length) (by omega)
        have ew := P.tk j _ (at0_of hj)
        have st : S - (T + at0 b j) = g * ms w (a.length + b.length) (lot ||| 2 ^ (a.length + j)) := by
          rw [sset, Int.mul_add]; omega
        have r := ih S (T + at0 b j) σ τ (lot ||| 2 ^ (a.length + j)) (by simp at hd ⊢; omega) (or_lt hl (by omega))
          (fun i hi => by
            rw [Nat.testBit_or, Nat.testBit_two_pow_of_ne (by omega), Bool.or_false]; exact h1 i hi)
          (fun j' hj' => by
            rw [Nat.testBit_or]
            by_cases e : j = j'
            · subst e; rw [Nat.testBit_two_pow_self]; simp [nj]
            · rw [Nat.testBit_two_pow_of_ne (by omega), Bool.or_false, h2 j' hj']
              simp [Ne.symm e])
          k1 (fun x hx => k2 x (List.mem_cons_of_mem _ hx)) n1 (List.nodup_cons.mp n2).2 st
        have o := hopt (gives (ms w (a.length + b.length)) f (lot ||| 2 ^ (a.length + j))) (List.mem_map.mpr ⟨a.length + j, (mem_nexts_gt (by omega)).mpr ⟨⟨by omega, by omega⟩, hb⟩, rfl⟩)
        rw [List.map_cons, JJ_gt hgt]
        have ez : (S = T + at0 b j) ↔ ms w (a.length + b.length) (lot ||| 2 ^ (a.length + j)) = 0 := by
          constructor
          · intro e
            have : g * ms w (a.length + b.length) (lot ||| 2 ^ (a.length + j)) = g * 0 := by omega
            exact Int.eq_of_mul_eq_mul_left (Int.ne_of_gt P.g0) this
          · intro e; rw [e] at st; omega
        unfold gives at o
        cases few with
        | true =>
          simp only [if_true] at o r ⊢
          by_cases e : S = T + at0 b j
          · rw [if_pos (ez.mp e)] at o; rw [if_pos e]; omega
          · rw [if_neg (fun q => e (ez.mpr q))] at o; rw [if_neg e]; omega
        | false =>
          simp only [Bool.false_eq_true, if_false] at o r ⊢
          by_cases e : S = T + at0 b j
          · rw [if_pos (ez.mp e)] at o; rw [if_pos e]; omega
          · rw [if_neg (fun q => e (ez.mpr q))] at o; rw [if_neg e]; omega
theorem fol_order (P : People a b g w) {few : Bool} {f : Nat → Int} (h : Fol few a.length b.length (ms w (a.length + b.length)) f) {A B : List Int} (pA : A.Perm a) (pB : B.Perm b) :
    if few = true then f 0 ≤ J A B else (J A B : Int) ≤ f 0 := by
  obtain ⟨σ, pσ, rfl⟩ := perm_order pA
  obtain ⟨τ, pτ, rfl⟩ := perm_order pB
  exact fol_bound P h _ 0 0 σ τ 0 rfl (Nat.two_pow_pos _) (fun i hi => by simp [pσ.mem_iff, hi]) (fun j hj => by simp [pτ.mem_iff, hj])
    (fun i hi => by simpa using pσ.mem_iff.mp hi) (fun j hj => by simpa using pτ.mem_iff.mp hj) (pσ.nodup_iff.mpr List.nodup_range) (pτ.nodup_iff.mpr List.nodup_range) (by rw [ms_zero]; simp)

/-! ### most_parts -/
/-- what best_of gives -/
def Best (n : Nat) (G f : Nat → Int) : Prop := f 0 = 0 ∧ ∀ k, 0 < k → k < 2 ^ n → ∃ v : Int, 0 ≤ v ∧ (∀ i, i < n → k.testBit i = true → f (k ^^^ 2 ^ i) ≤ v) ∧ (v = 0 ∨ ∃ i, i < n ∧ k.testBit i = true ∧ v = f (k ^^^ 2 ^ i)) ∧
  f k = v + (if G k = 0 then 1 else 0)
theorem xor_clr {k i : Nat} (h : k.testBit i = true) : k ^^^ 2 ^ i < k := by
  have e : k = (k ^^^ 2 ^ i) ||| 2 ^ i := by
    apply Nat.eq_of_testBit_eq
    intro j
    rw [Nat.testBit_or, Nat.testBit_xor]
    by_cases hj : i = j
    · subst hj; rw [Nat.testBit_two_pow_self, h]; rfl
    · rw [Nat.testBit_two_pow_of_ne hj]; simp
  have hb : (k ^^^ 2 ^ i).testBit i = false := by rw [Nat.testBit_xor, Nat.testBit_two_pow_self, h]; rfl
  have := lt_or hb
  omega
theorem best_ge {n : Nat} {G f : Nat → Int} (h : Best n G f) : ∀ k, k < 2 ^ n → 0 ≤ f k := by
  intro k hk
  by_cases h0 : k = 0
  · rw [h0, h.1]; exact Int.le_refl _
  · obtain ⟨v, v0, _, _, e⟩ := h.2 k (by omega) hk
    rw [e]; split <;> omega
theorem best_mono {n : Nat} {G f : Nat → Int} (h : Best n G f) (s : Nat) : ∀ k, k < 2 ^ n → (∀ i, s.testBit i = true → k.testBit i = true) → f s ≤ f k := by
  intro k
  induction k using Nat.strongRecOn with
  | ind k ih =>
  intro hk hs
  by_cases e : s = k
  · rw [e]; exact Int.le_refl _
  · obtain ⟨i, hi⟩ : ∃ i, s.testBit i ≠ k.testBit i := Classical.byContradiction fun hc => e (Nat.eq_of_testBit_eq fun i => Classical.byContradiction fun q => hc ⟨i, q⟩)
    have ks : k.testBit i = true := by
      cases h1 : k.testBit i with
      | true => rfl
      | false =>
        cases h2 : s.testBit i with
        | true => rw [hs i h2] at h1; cases h1
        | false => rw [h1, h2] at hi; exact absurd rfl hi
    have ss : s.testBit i = false := by
      cases h2 : s.testBit i with
      | false => rfl
      | true => rw [ks, h2] at hi; exact absurd rfl hi
    have hin : i < n := by
      by_cases hh : i < n
      · exact hh
      · rw [Nat.testBit_lt_two_pow (Nat.lt_of_lt_of_le hk (Nat.pow_le_pow_right (by omega) (by omega)))] at ks; cases ks
    have k0 : 0 < k := by
      by_cases hh : k = 0
      · rw [hh] at ks; simp at ks
      · omega
    obtain ⟨v, v0, hv, _, ev⟩ := h.2 k k0 hk
    have lt := xor_clr ks
    have := ih _ lt (by omega) fun j hj => by
      rw [Nat.testBit_xor, hs j hj]
      by_cases e : i = j
      · subst e; rw [ss] at hj; cases hj
      · rw [Nat.testBit_two_pow_of_ne e]; rfl
    have := hv i hin ks
    rw [ev]; split <;> omega
/-- an even lot between, if there is one -/
theorem best_some {n : Nat} {G f : Nat → Int} (h : Best n G f) (hn : 0 < n) (full : G (2 ^ n - 1) = 0) {s : Nat} (s0 : 0 < s) (s1 : s < 2 ^ n - 1) (e : G s = 0) : 2 ≤ f (2 ^ n - 1) := by
  obtain ⟨i, hi, hb⟩ := lot_open s1
  have p := Nat.one_lt_two_pow_iff.mpr (show n ≠ 0 by omega)
  obtain ⟨v, v0, hv, _, ev⟩ := h.2 (2 ^ n - 1) (by omega) (by omega)
  have tf : (2 ^ n - 1).testBit i = true := by rw [Nat.testBit_two_pow_sub_one]; simp [hi]
  have lt := xor_clr tf
  have h1 := hv i hi tf
  have h2 := best_mono h s ((2 ^ n - 1) ^^^ 2 ^ i) (by omega) fun j hj => by
    rw [Nat.testBit_xor, Nat.testBit_two_pow_sub_one]
    have hjn : j < n := by
      by_cases hh : j < n
      · exact hh
      · rw [Nat.testBit_lt_two_pow (Nat.lt_of_lt_of_le (show s < 2 ^ n by omega) (Nat.pow_le_pow_right (by omega) (by omega)))] at hj; cases hj
    by_cases e : i = j
    · subst e; rw [hb] at hj; cases hj
    · rw [Nat.testBit_two_pow_of_ne e]; simp [hjn]
  obtain ⟨v', v0', _, _, ev'⟩ := h.2 s s0 (by omega)
  rw [if_pos e] at ev'
  rw [ev, if_pos full]
  omega
theorem best_none {n : Nat} {G f : Nat → Int} (h : Best n G f) (hn : 0 < n) (full : G (2 ^ n - 1) = 0) (ne : ∀ k, 0 < k → k < 2 ^ n - 1 → G k ≠ 0) : f (2 ^ n - 1) = 1 := by
  have zero : ∀ k, k < 2 ^ n - 1 → f k = 0 := by
    intro k
    induction k using Nat.strongRecOn with
    | ind k ih =>
    intro hk
    by_cases h0 : k = 0
    · rw [h0, h.1]
    · obtain ⟨v, v0, _, hv, ev⟩ := h.2 k (by omega) (by omega)
      rw [ev, if_neg (ne k (Nat.pos_of_ne_zero h0) hk)]
      rcases hv with hv | ⟨i, _, hb, hv⟩
      · rw [hv]; rfl
      · have lt := xor_clr hb
        rw [hv, ih _ lt (by omega)]; rfl
  have p := Nat.one_lt_two_pow_iff.mpr (show n ≠ 0 by omega)
  obtain ⟨v, v0, _, hv, ev⟩ := h.2 (2 ^ n - 1) (by omega) (by omega)
  rw [ev, if_pos full]
  rcases hv with hv | ⟨i, _, hb, hv⟩
  · omega
  · have lt := xor_clr hb
    rw [hv, zero _ (by omega)]; rfl

/-- an even lot between is an even split -/
theorem split_of (P : People a b g w) {k : Nat} (k0 : 0 < k) (k1 : k < 2 ^ (a.length + b.length) - 1) (e : ms w (a.length + b.length) k = 0) : Split a b := by
  have ht := ms_total P (k := k)
  rw [e, Int.mul_zero] at ht
  have pA := perm_vals (a := a) (List.filter_append_perm (fun i => k.testBit i) (List.range a.length))
  have pB := perm_vals (a := b) (List.filter_append_perm (fun j => k.testBit (a.length + j)) (List.range b.length))
  rw [List.map_append] at pA pB
  refine ⟨_, _, _, _, pA, pB, by omega, fun h0 => ?_, fun h1 => ?_⟩
  · -- nobody
    rw [h0] at ht
    have hY : Pos (((List.range b.length).filter fun j => k.testBit (a.length + j)).map (at0 b)) := (P.pb.perm pB.symm).left
    have hY0 : ((List.range b.length).filter fun j => k.testBit (a.length + j)) = [] := by
      apply Classical.byContradiction
      intro hne
      have := hY.sum_pos (fun q => hne (List.map_eq_nil_iff.mp q))
      simp at ht; omega
    have hX0 := List.map_eq_nil_iff.mp h0
    have : k = 0 := by
      apply Nat.eq_of_testBit_eq
      intro i
      rw [Nat.zero_testBit]
      cases hb : k.testBit i with
      | false => rfl
      | true =>
        exfalso
        by_cases hi : i < a.length
        · have : i ∈ (List.range a.length).filter fun i => k.testBit i := List.mem_filter.mpr ⟨List.mem_range.mpr hi, hb⟩
          rw [hX0] at this; cases this
        · by_cases hj : i < a.length + b.length
          · have : i - a.length ∈ (List.range b.length).filter fun j => k.testBit (a.length + j) := List.mem_filter.mpr ⟨List.mem_range.mpr (by omega), by rw [show a.length + (i - a.length) = i by omega]; exact hb⟩
            rw [hY0] at this; cases this
          · rw [Nat.testBit_lt_two_pow (Nat.lt_of_lt_of_le (show k < 2 ^ (a.length + b.length) by omega) (Nat.pow_le_pow_right (by omega) (by omega)))] at hb; cases hb
    omega
  · -- all
    have sA := perm_sum pA
    have sB := perm_sum pB
    rw [List.sum_append] at sA sB
    rw [h1] at sA
    have hY : Pos (((List.range b.length).filter fun j => !k.testBit (a.length + j)).map (at0 b)) := (P.pb.perm pB.symm).right
    have hY0 : ((List.range b.length).filter fun j => !k.testBit (a.length + j)) = [] := by
      apply Classical.byContradiction
      intro hne
      have := hY.sum_pos (fun q => hne (List.map_eq_nil_iff.mp q))
      have := P.eq
      simp at sA; omega
    have hX0 := List.map_eq_nil_iff.mp h1
    have : k = 2 ^ (a.length + b.length) - 1 := lot_full (by omega) fun i hi => by
      cases hb : k.testBit i with
      | true => rfl
      | false =>
        exfalso
        by_cases hia : i < a.length
        · have : i ∈ (List.range a.length).filter fun i => !k.testBit i := List.mem_filter.mpr ⟨List.mem_range.mpr hia, by rw [hb]; rfl⟩
          rw [hX0] at this; cases this
        · have : i - a.length ∈ (List.range b.length).filter fun j => !k.testBit (a.length + j) := List.mem_filter.mpr ⟨List.mem_range.mpr (by omega), by rw [show a.length + (i - a.length) = i by omega, hb]; rfl⟩
          rw [hY0] at this; cases this
    omega
end

/-! ### all of it -/
/-- what queues_alike gives where there is no unit -/
theorem alike_of {a b : List Int} {g : Int} {w : Nat → Int} (P : People a b g w) (na : 0 < a.length) {fmin fmax best : Nat → Int}
    (h1 : Fol true a.length b.length (ms w (a.length + b.length)) fmin) (h2 : Fol false a.length b.length (ms w (a.length + b.length)) fmax) (h3 : Best (a.length + b.length) (ms w (a.length + b.length)) best)
    (nu : ¬ (Unit a b ∨ Unit b a)) : (Alike a b ↔ fmin 0 = fmax 0) ∧ (Alike a b ↔ best (2 ^ (a.length + b.length) - 1) = 1) := by
  by_cases hs : ∃ k, 0 < k ∧ k < 2 ^ (a.length + b.length) - 1 ∧ ms w (a.length + b.length) k = 0
  · obtain ⟨k, k0, k1, e⟩ := hs
    have nal : ¬ Alike a b := fun al => nu (ninth P.pa P.pb P.eq al (split_of P k0 k1 e))
    have b2 := best_some h3 (by omega) (ms_full P) k0 k1 e
    refine ⟨⟨fun h => absurd h nal, fun h => (nal ?_).elim⟩, ⟨fun h => absurd h nal, fun h => by omega⟩⟩
    have same : ∀ A B, A.Perm a → B.Perm b → (J A B : Int) = fmin 0 := fun A B pA pB => by
      have l1 := fol_order P h1 pA pB
      have l2 := fol_order P h2 pA pB
      simp at l1 l2; omega
    intro A B pA pB
    have q1 := same A B pA pB
    have q2 := same a b (List.Perm.refl _) (List.Perm.refl _)
    omega
  · have ne : ∀ k, 0 < k → k < 2 ^ (a.length + b.length) - 1 → ms w (a.length + b.length) k ≠ 0 := fun k k0 k1 e => hs ⟨k, k0, k1, e⟩
    have b1 := best_none h3 (by omega) (ms_full P) ne
    have p := Nat.one_lt_two_pow_iff.mpr (show a.length + b.length ≠ 0 by omega)
    have f1 := fol_one P h1 ne (2 ^ (a.length + b.length) - 2) 0 (by omega)
    have f2 := fol_one P h2 ne (2 ^ (a.length + b.length) - 2) 0 (by omega)
    have al : Alike a b := by
      have same : ∀ A B, A.Perm a → B.Perm b → (J A B : Int) = 1 := fun A B pA pB => by
        have l1 := fol_order P h1 pA pB
        have l2 := fol_order P h2 pA pB
        simp at l1 l2; omega
      intro A B pA pB
      have q1 := same A B pA pB
      have q2 := same a b (List.Perm.refl _) (List.Perm.refl _)
      omega
    exact ⟨⟨fun _ => by omega, fun _ => al⟩, ⟨fun _ => b1, fun _ => al⟩⟩
end K70
end
section
set_option autoImplicit false
namespace K70
/-! ### joints by rests -/
theorem JJ_shift : ∀ (n : Nat) (S T d : Int) (xs ys : List Int), xs.length + ys.length = n → JJ (S + d) (T + d) xs ys = JJ S T xs ys := by
  intro n
  induction n using Nat.strongRecOn with
  | ind n ih =>
  intro S T d xs ys hn
  by_cases h : S ≤ T
  · cases xs with
    | nil => rw [JJ_nil (by omega), JJ_nil h]
    | cons x xs =>
      rw [JJ_le (by omega), JJ_le h, show S + d + x = S + x + d by omega, ih (xs.length + ys.length) (by simp at hn; omega) (S + x) T d xs ys rfl]
      by_cases e : S + x = T
      · rw [if_pos e, if_pos (by omega)]
      · rw [if_neg e, if_neg (by omega)]
  · cases ys with
    | nil =>
      rw [JJ.eq_def, if_neg (by omega), JJ.eq_def, if_neg h]
    | cons y ys =>
      rw [JJ_gt (by omega), JJ_gt (by omega), show T + d + y = T + y + d by omega, ih (xs.length + ys.length) (by simp at hn; omega) S (T + y) d xs ys rfl]
      by_cases e : S = T + y
      · rw [if_pos e, if_pos (by omega)]
      · rw [if_neg e, if_neg (by omega)]
theorem JJ_drop {S T : Int} {xs ys : List Int} : JJ S T xs ys = JJ (S - T) 0 xs ys := by
  have := JJ_shift _ (S - T) 0 T xs ys rfl
  rw [show S - T + T = S by omega, show (0 : Int) + T = T by omega] at this
  exact this
theorem JJ_drop2 {S T : Int} {xs ys : List Int} : JJ S T xs ys = JJ 0 (T - S) xs ys := by
  have := JJ_shift _ 0 (T - S) S xs ys rfl
  rw [show T - S + S = T by omega, show (0 : Int) + S = S by omega] at this
  exact this
theorem J_step {x y : Int} {xs ys : List Int} (hx : 0 < x) (hy : 0 < y) : J (x :: xs) (y :: ys) = (if x = y then 1 else 0) + JJ x y xs ys := by
  unfold J
  rw [JJ_le (by omega), if_neg (by omega), JJ_gt (by omega)]
  simp
theorem J_eq {x : Int} {xs ys : List Int} (hx : 0 < x) : J (x :: xs) (x :: ys) = 1 + J xs ys := by
  rw [J_step hx hx, if_pos rfl, JJ_drop, Int.sub_self]; rfl
theorem J_lt {x y : Int} {xs ys : List Int} (hx : 0 < x) (h : x < y) (hp : Pos xs) : J (x :: xs) (y :: ys) = J xs ((y - x) :: ys) := by
  rw [J_step hx (by omega), if_neg (by omega), JJ_drop2]
  cases xs with
  | nil => rw [JJ_nil (by omega)]; unfold J; rw [JJ_nil (by omega)]
  | cons z xs =>
    have z0 := hp.head
    rw [J_step z0 (by omega), JJ_le (by omega), show (0 : Int) + z = z by omega]; omega
theorem J_gt {x y : Int} {xs ys : List Int} (hy : 0 < y) (h : y < x) : J (x :: xs) (y :: ys) = J ((x - y) :: xs) ys := by
  rw [J_step (by omega) hy, if_neg (by omega), JJ_drop]
  unfold J
  rw [JJ_le (by omega), if_neg (by omega), show (0 : Int) + (x - y) = x - y by omega]
theorem J_nil {ys : List Int} : J [] ys = 0 := by unfold J; rw [JJ_nil (by omega)]

/-! ### the law's orders -/
def ordStep (n : Nat) (rows : List (List Nat)) : List (List Nat) := rows.flatMap fun row => ((List.range n).filter fun i => !row.contains i).map fun i => row ++ [i]
def ordL (n : Nat) : Nat → List (List Nat)
  | 0 => [[]]
  | k + 1 => ordStep n (ordL n k)
theorem ordL_perm {n : Nat} : ∀ {k : Nat} {r : List Nat}, r ∈ ordL n k → r.length = k ∧ r.Nodup ∧ (r ++ (List.range n).filter fun i => !r.contains i).Perm (List.range n)
  | 0, r, h => by
    have : r = [] := by simpa [ordL] using h
    subst this
    exact ⟨rfl, List.nodup_nil, by rw [List.nil_append, List.filter_eq_self.mpr (fun a _ => by simp)]⟩
  | k + 1, r, h => by
    unfold ordL ordStep at h
    obtain ⟨row, hrow, h2⟩ := List.mem_flatMap.mp h
    obtain ⟨i, hi, rfl⟩ := List.mem_map.mp h2
    obtain ⟨hl, hn, hp⟩ := ordL_perm hrow
    have hi' := (List.mem_filter.mp hi).2
    have hni : i ∉ row := by
      intro hm
      rw [List.contains_iff_mem.mpr hm] at hi'; cases hi'
    refine ⟨by rw [List.length_append, hl]; rfl, ?_, ?_⟩
    · rw [List.nodup_append]
      refine ⟨hn, by simp, fun a ha b hb => ?_⟩
      have : b = i := by simpa using hb
      subst this
      exact fun e => hni (e ▸ ha)
    · have nd : ((List.range n).filter fun i => !row.contains i).Nodup := List.Pairwise.filter _ List.nodup_range
      have p1 := List.perm_cons_erase hi
      have e1 : ((List.range n).filter fun j => !row.contains j).erase i = (List.range n).filter fun j => !(row ++ [i]).contains j := by
        rw [List.Nodup.erase_eq_filter nd, List.filter_filter]
        congr 1
        funext j
        by_cases e : j = i
        · subst e; simp
        · by_cases e2 : row.contains j <;> simp [e, e2]
      rw [e1] at p1
      rw [List.append_assoc]
      exact (List.Perm.append_left row p1.symm).trans hp
theorem ordL_full {n : Nat} {r : List Nat} (h : r ∈ ordL n n) : r.Perm (List.range n) := by
  obtain ⟨hl, _, hp⟩ := ordL_perm h
  have := hp.length_eq
  rw [List.length_append, hl, List.length_range] at this
  have e : ((List.range n).filter fun i => !r.contains i) = [] := List.length_eq_zero_iff.mp (by omega)
  rw [e, List.append_nil] at hp
  exact hp
theorem mem_ordL {n : Nat} {r : List Nat} (h : r.Perm (List.range n)) : r ∈ ordL n n := by
  have hl : r.length = n := by rw [h.length_eq, List.length_range]
  have hn : r.Nodup := h.nodup_iff.mpr List.nodup_range
  have key : ∀ k, k ≤ n → r.take k ∈ ordL n k := by
    intro k
    induction k with
    | zero => intro _; simp [ordL]
    | succ k ih =>
      intro hk
      have hkl : k < r.length := by omega
      unfold ordL ordStep
      refine List.mem_flatMap.mpr ⟨r.take k, ih (by omega), List.mem_map.mpr ⟨r[k], List.mem_filter.mpr ⟨?_, ?_⟩, ?_⟩⟩
      · exact h.mem_iff.mp (List.getElem_mem hkl)
      · have : r[k] ∉ r.take k := by
          intro hm
          obtain ⟨j, hj, e⟩ := List.getElem_of_mem hm
          rw [List.getElem_take] at e
          have hj2 : j < k := by rw [List.length_take] at hj; omega
          have := (List.getElem_inj hn).mp e
          omega
        have h2 : (r.take k).contains r[k] = false := by
          cases q : (r.take k).contains r[k] with
          | false => rfl
          | true => exact absurd (List.contains_iff_mem.mp q) this
        rw [h2]; rfl
      · exact (List.take_append_getElem hkl)
  have := key n (Nat.le_refl _)
  rw [List.take_of_length_le (by omega)] at this
  exact this
theorem ordL_len {n : Nat} : ∀ k, (ordL n k).length ≤ n ^ k
  | 0 => by simp [ordL]
  | k + 1 => by
    have ih := ordL_len (n := n) k
    unfold ordL ordStep
    have : ∀ rows : List (List Nat), (rows.flatMap fun row => ((List.range n).filter fun i => !row.contains i).map fun i => row ++ [i]).length ≤ rows.length * n := by
      intro rows
      induction rows with
      | nil => simp
      | cons r rs ih =>
        rw [List.flatMap_cons, List.length_append, List.length_map, List.length_cons, Nat.add_mul]
        have := List.length_filter_le (fun i => !r.contains i) (List.range n)
        rw [List.length_range] at this
        omega
    have h := this (ordL n k)
    rw [Nat.pow_succ]
    exact Nat.le_trans h (Nat.mul_le_mul_right n ih)
end K70
end
section
set_option Elab.async false
set_option linter.all false
set_option maxRecDepth 100000
set_option maxHeartbeats 4000000
namespace K70
open PySem PySem.Spec PyProof.Rows L2
/-! ### the text by places, printed by mk.py -/
def topS (i : Nat) : Stmt := PySem.Challenge.pw_quitsways_k70_whole_queue_units_and_alik.main.body.getD i (.Pass ⟨0, 0, 0, 0⟩)
abbrev s_isinteger : Stmt := topS 5
theorem sc_isinteger : FnScope ["thing"] ["thing"] (defScope s_isinteger) := ⟨rfl, rfl, rfl, by decide +kernel, rfl, by decide +kernel, by decide +kernel⟩
abbrev s_ispair : Stmt := topS 6
theorem sc_ispair : FnScope ["thing"] ["thing"] (defScope s_ispair) := ⟨rfl, rfl, rfl, by decide +kernel, rfl, by decide +kernel, by decide +kernel⟩
abbrev s_checkmost : Stmt := topS 7
theorem sc_checkmost : FnScope ["many", "most"] ["many", "most"] (defScope s_checkmost) := ⟨rfl, rfl, rfl, by decide +kernel, rfl, by decide +kernel, by decide +kernel⟩
abbrev s_commondivisor : Stmt := topS 10
theorem sc_commondivisor : FnScope ["one", "other"] ["one", "other"] (defScope s_commondivisor) := ⟨rfl, rfl, rfl, by decide +kernel, rfl, by decide +kernel, by decide +kernel⟩
abbrev s_made : Stmt := topS 11
theorem sc_made : FnScope ["top", "bottom", "divisor"] ["top", "bottom"] (defScope s_made) := ⟨rfl, rfl, rfl, by decide +kernel, rfl, by decide +kernel, by decide +kernel⟩
abbrev s_whole : Stmt := topS 12
theorem sc_whole : FnScope ["number"] ["number"] (defScope s_whole) := ⟨rfl, rfl, rfl, by decide +kernel, rfl, by decide +kernel, by decide +kernel⟩
abbrev s_plus : Stmt := topS 13
theorem sc_plus : FnScope ["one", "other"] ["one", "other"] (defScope s_plus) := ⟨rfl, rfl, rfl, by decide +kernel, rfl, by decide +kernel, by decide +kernel⟩
abbrev s_minus : Stmt := topS 14
theorem sc_minus : FnScope ["one", "other"] ["one", "other"] (defScope s_minus) := ⟨rfl, rfl, rfl, by decide +kernel, rfl, by decide +kernel, by decide +kernel⟩
abbrev s_times : Stmt := topS 15
theorem sc_times : FnScope ["one", "other"] ["one", "other"] (defScope s_times) := ⟨rfl, rfl, rfl, by decide +kernel, rfl, by decide +kernel, by decide +kernel⟩
abbrev s_over : Stmt := topS 16
theorem sc_over : FnScope ["one", "other"] ["one", "other"] (defScope s_over) := ⟨rfl, rfl, rfl, by decide +kernel, rfl, by decide +kernel, by decide +kernel⟩
abbrev s_totalof : Stmt := topS 17
theorem sc_totalof : FnScope ["fractions", "found", "fraction"] ["fractions"] (defScope s_totalof) := ⟨rfl, rfl, rfl, by decide +kernel, rfl, by decide +kernel, by decide +kernel⟩
abbrev s_measureof : Stmt := topS 18
theorem sc_measureof : FnScope ["amounts", "top", "bottom", "amount"] ["amounts"] (defScope s_measureof) := ⟨rfl, rfl, rfl, by decide +kernel, rfl, by decide +kernel, by decide +kernel⟩
abbrev s_isfraction : Stmt := topS 19
theorem sc_isfraction : FnScope ["thing"] ["thing"] (defScope s_isfraction) := ⟨rfl, rfl, rfl, by decide +kernel, rfl, by decide +kernel, by decide +kernel⟩
abbrev s_isamount : Stmt := topS 20
theorem sc_isamount : FnScope ["thing"] ["thing"] (defScope s_isamount) := ⟨rfl, rfl, rfl, by decide +kernel, rfl, by decide +kernel, by decide +kernel⟩
abbrev s_aresums : Stmt := topS 23
theorem sc_aresums : FnScope ["thing", "item"] ["thing"] (defScope s_aresums) := ⟨rfl, rfl, rfl, by decide +kernel, rfl, by decide +kernel, by decide +kernel⟩
abbrev s_Eveninginit : Stmt := inClass (topS 24) 0
theorem sc_Eveninginit : FnScope ["self", "owed", "due"] ["self", "owed", "due"] (defScope s_Eveninginit) := ⟨rfl, rfl, rfl, by decide +kernel, rfl, by decide +kernel, by decide +kernel⟩
abbrev s_allsums : Stmt := topS 25
theorem sc_allsums : FnScope ["evening"] ["evening"] (defScope s_allsums) := ⟨rfl, rfl, rfl, by decide +kernel, rfl, by decide +kernel, by decide +kernel⟩
abbrev s_people : Stmt := topS 26
theorem sc_people : FnScope ["evening"] ["evening"] (defScope s_people) := ⟨rfl, rfl, rfl, by decide +kernel, rfl, by decide +kernel, by decide +kernel⟩
abbrev s_measure : Stmt := topS 27
theorem sc_measure : FnScope ["evening"] ["evening"] (defScope s_measure) := ⟨rfl, rfl, rfl, by decide +kernel, rfl, by decide +kernel, by decide +kernel⟩
abbrev s_wholesums : Stmt := topS 30
theorem sc_wholesums : FnScope ["evening", "unit", "item"] ["evening"] (defScope s_wholesums) := ⟨rfl, rfl, rfl, by decide +kernel, rfl, by decide +kernel, by decide +kernel⟩
abbrev s_restby : Stmt := topS 31
theorem sc_restby : FnScope ["sum_here", "amount", "parts"] ["sum_here", "amount"] (defScope s_restby) := ⟨rfl, rfl, rfl, by decide +kernel, rfl, by decide +kernel, by decide +kernel⟩
abbrev s_fitsunit : Stmt := topS 32
theorem sc_fitsunit : FnScope ["ones", "others", "rests", "item", "rest"] ["ones", "others"] (defScope s_fitsunit) := ⟨rfl, rfl, rfl, by decide +kernel, rfl, by decide +kernel, by decide +kernel⟩
abbrev s_queueunit : Stmt := topS 33
theorem sc_queueunit : FnScope ["evening"] ["evening"] (defScope s_queueunit) := ⟨rfl, rfl, rfl, by decide +kernel, rfl, by decide +kernel, by decide +kernel⟩
abbrev s_Jointsinit : Stmt := inClass (topS 34) 0
theorem sc_Jointsinit : FnScope ["self", "evening", "owed", "due", "number", "item", "gap"] ["self", "evening"] (defScope s_Jointsinit) := ⟨rfl, rfl, rfl, by decide +kernel, rfl, by decide +kernel, by decide +kernel⟩
abbrev s_Jointsnextones : Stmt := inClass (topS 34) 1
theorem sc_Jointsnextones : FnScope ["self", "lot", "first", "end", "place"] ["self", "lot"] (defScope s_Jointsnextones) := ⟨rfl, rfl, rfl, by decide +kernel, rfl, by decide +kernel, by decide +kernel⟩
abbrev s_Jointsfollow : Stmt := inClass (topS 34) 2
theorem sc_Jointsfollow : FnScope ["self", "wants_few", "found", "lot", "numbers", "gap", "later"] ["self", "wants_few"] (defScope s_Jointsfollow) := ⟨rfl, rfl, rfl, by decide +kernel, rfl, by decide +kernel, by decide +kernel⟩
abbrev s_Jointslaterlots : Stmt := inClass (topS 34) 3
theorem sc_Jointslaterlots : FnScope ["self", "lot", "place"] ["self", "lot"] (defScope s_Jointslaterlots) := ⟨rfl, rfl, rfl, by decide +kernel, rfl, by decide +kernel, by decide +kernel⟩
abbrev s_Jointsorders : Stmt := inClass (topS 34) 4
theorem sc_Jointsorders : FnScope ["self", "wants_few", "follow", "lot", "owers", "takers", "place", "later"] ["self", "wants_few"] (defScope s_Jointsorders) := ⟨rfl, rfl, rfl, by decide +kernel, rfl, by decide +kernel, by decide +kernel⟩
abbrev s_queuesalike : Stmt := topS 35
theorem sc_queuesalike : FnScope ["evening"] ["evening"] (defScope s_queuesalike) := ⟨rfl, rfl, rfl, by decide +kernel, rfl, by decide +kernel, by decide +kernel⟩
abbrev s_unlikequeues : Stmt := topS 36
theorem sc_unlikequeues : FnScope ["evening", "joints"] ["evening"] (defScope s_unlikequeues) := ⟨rfl, rfl, rfl, by decide +kernel, rfl, by decide +kernel, by decide +kernel⟩
abbrev s_unitsof : Stmt := topS 39
theorem sc_unitsof : FnScope ["evening", "unit", "item"] ["evening"] (defScope s_unitsof) := ⟨rfl, rfl, rfl, by decide +kernel, rfl, by decide +kernel, by decide +kernel⟩
abbrev s_checkpeople : Stmt := topS 40
theorem sc_checkpeople : FnScope ["evening", "most"] ["evening", "most"] (defScope s_checkpeople) := ⟨rfl, rfl, rfl, by decide +kernel, rfl, by decide +kernel, by decide +kernel⟩
abbrev s_sumsbymask : Stmt := topS 41
theorem sc_sumsbymask : FnScope ["evening", "owed", "due", "found", "item", "before"] ["evening"] (defScope s_sumsbymask) := ⟨rfl, rfl, rfl, by decide +kernel, rfl, by decide +kernel, by decide +kernel⟩
abbrev s_bestof : Stmt := topS 42
theorem sc_bestof : FnScope ["sums", "many", "bits", "found", "mask", "best", "bit", "person"] ["sums", "many"] (defScope s_bestof) := ⟨rfl, rfl, rfl, by decide +kernel, rfl, by decide +kernel, by decide +kernel⟩
abbrev s_bestbymask : Stmt := topS 43
theorem sc_bestbymask : FnScope ["evening"] ["evening"] (defScope s_bestbymask) := ⟨rfl, rfl, rfl, by decide +kernel, rfl, by decide +kernel, by decide +kernel⟩
abbrev s_mostparts : Stmt := topS 44
theorem sc_mostparts : FnScope ["evening"] ["evening"] (defScope s_mostparts) := ⟨rfl, rfl, rfl, by decide +kernel, rfl, by decide +kernel, by decide +kernel⟩
abbrev s_Lisinteger : Stmt := topS 46
theorem sc_Lisinteger : FnScope ["_law_thing"] ["_law_thing"] (defScope s_Lisinteger) := ⟨rfl, rfl, rfl, by decide +kernel, rfl, by decide +kernel, by decide +kernel⟩
abbrev s_Lsource : Stmt := topS 47
theorem sc_Lsource : FnScope ["_law_script", "_law_k", "_law_fold", "_law_item", "_law_cell"] ["_law_script", "_law_k"] (defScope s_Lsource) := ⟨rfl, rfl, rfl, by decide +kernel, rfl, by decide +kernel, by decide +kernel⟩
abbrev s_Ldraw : Stmt := topS 48
theorem sc_Ldraw : FnScope ["_law_source_here", "_law_many", "_law_got", "_law_number"] ["_law_source_here", "_law_many"] (defScope s_Ldraw) := ⟨rfl, rfl, rfl, by decide +kernel, rfl, by decide +kernel, by decide +kernel⟩
abbrev s_Lmade : Stmt := topS 49
theorem sc_Lmade : FnScope ["_law_top", "_law_bottom", "_law_one", "_law_other"] ["_law_top", "_law_bottom"] (defScope s_Lmade) := ⟨rfl, rfl, rfl, by decide +kernel, rfl, by decide +kernel, by decide +kernel⟩
abbrev s_Lunit : Stmt := topS 50
theorem sc_Lunit : FnScope ["_law_source_here"] ["_law_source_here"] (defScope s_Lunit) := ⟨rfl, rfl, rfl, by decide +kernel, rfl, by decide +kernel, by decide +kernel⟩
abbrev s_Ltimes : Stmt := topS 51
theorem sc_Ltimes : FnScope ["_law_number", "_law_unit_here"] ["_law_number", "_law_unit_here"] (defScope s_Ltimes) := ⟨rfl, rfl, rfl, by decide +kernel, rfl, by decide +kernel, by decide +kernel⟩
abbrev s_Lsplit : Stmt := topS 52
theorem sc_Lsplit : FnScope ["_law_source_here", "_law_whole", "_law_many", "_law_found", "_law_left", "_law_k", "_law_part", "_law_order"] ["_law_source_here", "_law_whole", "_law_many"] (defScope s_Lsplit) := ⟨rfl, rfl, rfl, by decide +kernel, rfl, by decide +kernel, by decide +kernel⟩
abbrev s_Lperm : Stmt := topS 53
theorem sc_Lperm : FnScope ["_law_source_here", "_law_many", "_law_left", "_law_found", "_law_k"] ["_law_source_here", "_law_many"] (defScope s_Lperm) := ⟨rfl, rfl, rfl, by decide +kernel, rfl, by decide +kernel, by decide +kernel⟩
abbrev s_Lside : Stmt := topS 54
theorem sc_Lside : FnScope ["_law_source_here", "_law_many", "_law_style", "_law_k"] ["_law_source_here", "_law_many"] (defScope s_Lside) := ⟨rfl, rfl, rfl, by decide +kernel, rfl, by decide +kernel, by decide +kernel⟩
abbrev s_Lsums : Stmt := topS 55
theorem sc_Lsums : FnScope ["_law_source_here", "_law_owers", "_law_takers", "_law_owed", "_law_due_here", "_law_k"] ["_law_source_here", "_law_owers", "_law_takers"] (defScope s_Lsums) := ⟨rfl, rfl, rfl, by decide +kernel, rfl, by decide +kernel, by decide +kernel⟩
abbrev s_Lcrowd : Stmt := topS 56
theorem sc_Lcrowd : FnScope ["_law_source_here", "_law_most", "_law_many", "_law_owers"] ["_law_source_here", "_law_most"] (defScope s_Lcrowd) := ⟨rfl, rfl, rfl, by decide +kernel, rfl, by decide +kernel, by decide +kernel⟩
abbrev s_Levening : Stmt := topS 57
theorem sc_Levening : FnScope ["_law_sums_here", "_law_unit_here", "_law_owed", "_law_due_here", "_law_item"] ["_law_sums_here", "_law_unit_here"] (defScope s_Levening) := ⟨rfl, rfl, rfl, by decide +kernel, rfl, by decide +kernel, by decide +kernel⟩
abbrev s_Lpay : Stmt := topS 58
theorem sc_Lpay : FnScope ["_law_state", "_law_pair", "_law_owed", "_law_due_here", "_law_ower", "_law_taker", "_law_amount"] ["_law_state", "_law_pair"] (defScope s_Lpay) := ⟨rfl, rfl, rfl, by decide +kernel, rfl, by decide +kernel, by decide +kernel⟩
abbrev s_Lflag : Stmt := topS 59
theorem sc_Lflag : FnScope ["_law_told", "_law_due_here"] ["_law_told", "_law_due_here"] (defScope s_Lflag) := ⟨rfl, rfl, rfl, by decide +kernel, rfl, by decide +kernel, by decide +kernel⟩
abbrev s_Lsame : Stmt := topS 60
theorem sc_Lsame : FnScope ["_law_told", "_law_due_here", "_law_one", "_law_other"] ["_law_told", "_law_due_here"] (defScope s_Lsame) := ⟨rfl, rfl, rfl, by decide +kernel, rfl, by decide +kernel, by decide +kernel⟩
abbrev s_Lorders : Stmt := topS 61
theorem sc_Lorders : FnScope ["_law_many", "_law_found", "_law_turn", "_law_longer", "_law_row", "_law_item"] ["_law_many"] (defScope s_Lorders) := ⟨rfl, rfl, rfl, by decide +kernel, rfl, by decide +kernel, by decide +kernel⟩
abbrev s_Lqueueway : Stmt := topS 62
theorem sc_Lqueueway : FnScope ["_law_sums_here", "_law_owers", "_law_takers", "_law_state", "_law_one", "_law_other", "_law_way", "_law_turn"] ["_law_sums_here", "_law_owers", "_law_takers"] (defScope s_Lqueueway) := ⟨rfl, rfl, rfl, by decide +kernel, rfl, by decide +kernel, by decide +kernel⟩
abbrev s_Lqueueunit : Stmt := topS 63
theorem sc_Lqueueunit : FnScope ["_law_sums_here", "_law_owed", "_law_due_here", "_law_side_here", "_law_ones", "_law_others", "_law_rests", "_law_item"] ["_law_sums_here"] (defScope s_Lqueueunit) := ⟨rfl, rfl, rfl, by decide +kernel, rfl, by decide +kernel, by decide +kernel⟩
abbrev s_Lqueuenumbers : Stmt := topS 64
theorem sc_Lqueuenumbers : FnScope ["_law_sums_here", "_law_found", "_law_owers", "_law_takers"] ["_law_sums_here"] (defScope s_Lqueuenumbers) := ⟨rfl, rfl, rfl, by decide +kernel, rfl, by decide +kernel, by decide +kernel⟩
abbrev s_Lunitsside : Stmt := topS 65
theorem sc_Lunitsside : FnScope ["_law_source_here", "_law_one", "_law_rest", "_law_many", "_law_others", "_law_short", "_law_ones", "_law_k"] ["_law_source_here"] (defScope s_Lunitsside) := ⟨rfl, rfl, rfl, by decide +kernel, rfl, by decide +kernel, by decide +kernel⟩
abbrev s_Ldue : Stmt := topS 66
theorem sc_Ldue : FnScope ["_law_sums_here", "_law_unit_here", "_law_found"] ["_law_sums_here", "_law_unit_here"] (defScope s_Ldue) := ⟨rfl, rfl, rfl, by decide +kernel, rfl, by decide +kernel, by decide +kernel⟩
abbrev s_law : Stmt := topS 67
theorem sc_law : FnScope ["_law_script", "_law_k", "_law_source_here", "_law_sums_here", "_law_unit_here", "_law_evening_here", "_law_due_here", "_law_alike", "_law_great", "_law_other"] ["_law_script"] (defScope s_law) := ⟨rfl, rfl, rfl, by decide +kernel, rfl, by decide +kernel, by decide +kernel⟩
/-- a def of the text, where it stands -/
structure Dn (K : PySem.W.Frag) (x qual : Str) (st : Stmt) (ps : List Str) : Type where
  f : Addr
  fd : FuncData
  F : Fun K x qual st f fd
  b : Binds K fd ps []
/-- what the top has written -/
structure Tx (K : PySem.W.Frag) (mg : Str → Option Value) : Type where
  isinteger : Dn K "is_integer" "is_integer" s_isinteger ["thing"]
  g_isinteger : mg "is_integer" = some (.ref isinteger.f)
  ispair : Dn K "is_pair" "is_pair" s_ispair ["thing"]
  g_ispair : mg "is_pair" = some (.ref ispair.f)
  checkmost : Dn K "check_most" "check_most" s_checkmost ["many", "most"]
  g_checkmost : mg "check_most" = some (.ref checkmost.f)
  commondivisor : Dn K "common_divisor" "common_divisor" s_commondivisor ["one", "other"]
  g_commondivisor : mg "common_divisor" = some (.ref commondivisor.f)
  made : Dn K "made" "made" s_made ["top", "bottom"]
  g_made : mg "made" = some (.ref made.f)
  whole : Dn K "whole" "whole" s_whole ["number"]
  g_whole : mg "whole" = some (.ref whole.f)
  plus : Dn K "plus" "plus" s_plus ["one", "other"]
  g_plus : mg "plus" = some (.ref plus.f)
  minus : Dn K "minus" "minus" s_minus ["one", "other"]
  g_minus : mg "minus" = some (.ref minus.f)
  times : Dn K "times" "times" s_times ["one", "other"]
  g_times : mg "times" = some (.ref times.f)
  over : Dn K "over" "over" s_over ["one", "other"]
  g_over : mg "over" = some (.ref over.f)
  totalof : Dn K "total_of" "total_of" s_totalof ["fractions"]
  g_totalof : mg "total_of" = some (.ref totalof.f)
  measureof : Dn K "measure_of" "measure_of" s_measureof ["amounts"]
  g_measureof : mg "measure_of" = some (.ref measureof.f)
  isfraction : Dn K "is_fraction" "is_fraction" s_isfraction ["thing"]
  g_isfraction : mg "is_fraction" = some (.ref isfraction.f)
  isamount : Dn K "is_amount" "is_amount" s_isamount ["thing"]
  g_isamount : mg "is_amount" = some (.ref isamount.f)
  aresums : Dn K "are_sums" "are_sums" s_aresums ["thing"]
  g_aresums : mg "are_sums" = some (.ref aresums.f)
  Eveninginit : Dn K "__init__" "Evening.__init__" s_Eveninginit ["self", "owed", "due"]
  allsums : Dn K "all_sums" "all_sums" s_allsums ["evening"]
  g_allsums : mg "all_sums" = some (.ref allsums.f)
  people : Dn K "people" "people" s_people ["evening"]
  g_people : mg "people" = some (.ref people.f)
  measure : Dn K "measure" "measure" s_measure ["evening"]
  g_measure : mg "measure" = some (.ref measure.f)
  wholesums : Dn K "whole_sums" "whole_sums" s_wholesums ["evening"]
  g_wholesums : mg "whole_sums" = some (.ref wholesums.f)
  restby : Dn K "rest_by" "rest_by" s_restby ["sum_here", "amount"]
  g_restby : mg "rest_by" = some (.ref restby.f)
  fitsunit : Dn K "fits_unit" "fits_unit" s_fitsunit ["ones", "others"]
  g_fitsunit : mg "fits_unit" = some (.ref fitsunit.f)
  queueunit : Dn K "queue_unit" "queue_unit" s_queueunit ["evening"]
  g_queueunit : mg "queue_unit" = some (.ref queueunit.f)
  Jointsinit : Dn K "__init__" "Joints.__init__" s_Jointsinit ["self", "evening"]
  Jointsnextones : Dn K "next_ones" "Joints.next_ones" s_Jointsnextones ["self", "lot"]
  Jointsfollow : Dn K "follow" "Joints.follow" s_Jointsfollow ["self", "wants_few"]
  Jointslaterlots : Dn K "later_lots" "Joints.later_lots" s_Jointslaterlots ["self", "lot"]
  Jointsorders : Dn K "orders" "Joints.orders" s_Jointsorders ["self", "wants_few"]
  queuesalike : Dn K "queues_alike" "queues_alike" s_queuesalike ["evening"]
  g_queuesalike : mg "queues_alike" = some (.ref queuesalike.f)
  unlikequeues : Dn K "unlike_queues" "unlike_queues" s_unlikequeues ["evening"]
  g_unlikequeues : mg "unlike_queues" = some (.ref unlikequeues.f)
  unitsof : Dn K "units_of" "units_of" s_unitsof ["evening"]
  g_unitsof : mg "units_of" = some (.ref unitsof.f)
  checkpeople : Dn K "check_people" "check_people" s_checkpeople ["evening", "most"]
  g_checkpeople : mg "check_people" = some (.ref checkpeople.f)
  sumsbymask : Dn K "sums_by_mask" "sums_by_mask" s_sumsbymask ["evening"]
  g_sumsbymask : mg "sums_by_mask" = some (.ref sumsbymask.f)
  bestof : Dn K "best_of" "best_of" s_bestof ["sums", "many"]
  g_bestof : mg "best_of" = some (.ref bestof.f)
  bestbymask : Dn K "best_by_mask" "best_by_mask" s_bestbymask ["evening"]
  g_bestbymask : mg "best_by_mask" = some (.ref bestbymask.f)
  mostparts : Dn K "most_parts" "most_parts" s_mostparts ["evening"]
  g_mostparts : mg "most_parts" = some (.ref mostparts.f)
  Lisinteger : Dn K "_law_is_integer" "_law_is_integer" s_Lisinteger ["_law_thing"]
  g_Lisinteger : mg "_law_is_integer" = some (.ref Lisinteger.f)
  Lsource : Dn K "_law_source" "_law_source" s_Lsource ["_law_script", "_law_k"]
  g_Lsource : mg "_law_source" = some (.ref Lsource.f)
  Ldraw : Dn K "_law_draw" "_law_draw" s_Ldraw ["_law_source_here", "_law_many"]
  g_Ldraw : mg "_law_draw" = some (.ref Ldraw.f)
  Lmade : Dn K "_law_made" "_law_made" s_Lmade ["_law_top", "_law_bottom"]
  g_Lmade : mg "_law_made" = some (.ref Lmade.f)
  Lunit : Dn K "_law_unit" "_law_unit" s_Lunit ["_law_source_here"]
  g_Lunit : mg "_law_unit" = some (.ref Lunit.f)
  Ltimes : Dn K "_law_times" "_law_times" s_Ltimes ["_law_number", "_law_unit_here"]
  g_Ltimes : mg "_law_times" = some (.ref Ltimes.f)
  Lsplit : Dn K "_law_split" "_law_split" s_Lsplit ["_law_source_here", "_law_whole", "_law_many"]
  g_Lsplit : mg "_law_split" = some (.ref Lsplit.f)
  Lperm : Dn K "_law_perm" "_law_perm" s_Lperm ["_law_source_here", "_law_many"]
  g_Lperm : mg "_law_perm" = some (.ref Lperm.f)
  Lside : Dn K "_law_side" "_law_side" s_Lside ["_law_source_here", "_law_many"]
  g_Lside : mg "_law_side" = some (.ref Lside.f)
  Lsums : Dn K "_law_sums" "_law_sums" s_Lsums ["_law_source_here", "_law_owers", "_law_takers"]
  g_Lsums : mg "_law_sums" = some (.ref Lsums.f)
  Lcrowd : Dn K "_law_crowd" "_law_crowd" s_Lcrowd ["_law_source_here", "_law_most"]
  g_Lcrowd : mg "_law_crowd" = some (.ref Lcrowd.f)
  Levening : Dn K "_law_evening" "_law_evening" s_Levening ["_law_sums_here", "_law_unit_here"]
  g_Levening : mg "_law_evening" = some (.ref Levening.f)
  Lpay : Dn K "_law_pay" "_law_pay" s_Lpay ["_law_state", "_law_pair"]
  g_Lpay : mg "_law_pay" = some (.ref Lpay.f)
  Lflag : Dn K "_law_flag" "_law_flag" s_Lflag ["_law_told", "_law_due_here"]
  g_Lflag : mg "_law_flag" = some (.ref Lflag.f)
  Lsame : Dn K "_law_same" "_law_same" s_Lsame ["_law_told", "_law_due_here"]
  g_Lsame : mg "_law_same" = some (.ref Lsame.f)
  Lorders : Dn K "_law_orders" "_law_orders" s_Lorders ["_law_many"]
  g_Lorders : mg "_law_orders" = some (.ref Lorders.f)
  Lqueueway : Dn K "_law_queue_way" "_law_queue_way" s_Lqueueway ["_law_sums_here", "_law_owers", "_law_takers"]
  g_Lqueueway : mg "_law_queue_way" = some (.ref Lqueueway.f)
  Lqueueunit : Dn K "_law_queue_unit" "_law_queue_unit" s_Lqueueunit ["_law_sums_here"]
  g_Lqueueunit : mg "_law_queue_unit" = some (.ref Lqueueunit.f)
  Lqueuenumbers : Dn K "_law_queue_numbers" "_law_queue_numbers" s_Lqueuenumbers ["_law_sums_here"]
  g_Lqueuenumbers : mg "_law_queue_numbers" = some (.ref Lqueuenumbers.f)
  Lunitsside : Dn K "_law_units_side" "_law_units_side" s_Lunitsside ["_law_source_here"]
  g_Lunitsside : mg "_law_units_side" = some (.ref Lunitsside.f)
  Ldue : Dn K "_law_due" "_law_due" s_Ldue ["_law_sums_here", "_law_unit_here"]
  g_Ldue : mg "_law_due" = some (.ref Ldue.f)
  law : Dn K "law" "law" s_law ["_law_script"]
  g_law : mg "law" = some (.ref law.f)
  CEvening : Addr
  cl_Evening : Cls K CEvening
  c_Evening : mg "Evening" = some (.ref CEvening)
  mk_Evening : Mk K CEvening Eveninginit.f
  CJoints : Addr
  cl_Joints : Cls K CJoints
  c_Joints : mg "Joints" = some (.ref CJoints)
  mk_Joints : Mk K CJoints Jointsinit.f
  a_Evening_owed : NoAttr K CEvening "owed"
  a_Evening_due : NoAttr K CEvening "due"
  a_Joints_many : NoAttr K CJoints "many"
  a_Joints_everyone : NoAttr K CJoints "everyone"
  a_Joints_gaps : NoAttr K CJoints "gaps"
  a_Joints_everybody : NoAttr K CJoints "everybody"
  m_Jointsnextones : Meth K CJoints "next_ones" Jointsnextones.f
  m_Jointsfollow : Meth K CJoints "follow" Jointsfollow.f
  m_Jointslaterlots : Meth K CJoints "later_lots" Jointslaterlots.f
  m_Jointsorders : Meth K CJoints "orders" Jointsorders.f
  n_len : mg "len" = none
  n_abs : mg "abs" = none
  n_min : mg "min" = none
  n_max : mg "max" = none
  n_sum : mg "sum" = none
  n_all : mg "all" = none
  n_sorted : mg "sorted" = none
  n_isinstance : mg "isinstance" = none
  n_int : mg "int" = none
  n_bool : mg "bool" = none
  n_str : mg "str" = none
  n_list : mg "list" = none
  n_tuple : mg "tuple" = none
  n_range : mg "range" = none
  n_zip : mg "zip" = none
  zero : Addr
  v_ZERO : mg "ZERO" = some (.ref zero)
  zT : ∀ H, SqT K H zero [.int 0, .int 1]
  k_MOST_SIDE : Tok
  v_MOST_SIDE : mg "MOST_SIDE" = some (.int 100 k_MOST_SIDE)
  k_MOST_JOINED : Tok
  v_MOST_JOINED : mg "MOST_JOINED" = some (.int 14 k_MOST_JOINED)
  k_MOST_PEOPLE : Tok
  v_MOST_PEOPLE : mg "MOST_PEOPLE" = some (.int 14 k_MOST_PEOPLE)
end K70
end
section
set_option Elab.async false
set_option linter.all false
set_option maxRecDepth 100000
set_option maxHeartbeats 4000000
namespace K70
open PySem PySem.Spec PyProof.Rows L2
open Evl (Ex ex_l ex_t fresh_back)
/-! ### what stands in the heap -/
theorem Ex.rf (H : Hp) : Ex H H := Evl.Ex.refl H
theorem Ex.tr {H H1 H2 : Hp} (a : Ex H H1) (b : Ex H1 H2) : Ex H H2 := Evl.Ex.trans a b
theorem Ex.nw {H : Hp} {p : Addr} {o : HO} (h : H p = none) : Ex H (upd H p o) := Evl.Ex.new h
theorem tup_of {K : PySem.W.Frag} {H : Hp} {p : Addr} {xs : List V} : SqT K (upd H p (.tup xs)) p xs := SqT.of upd_same
/-- v is a fraction -/
def Fr (K : PySem.W.Frag) (H : Hp) (v : V) (x : Int × Int) : Prop := ∃ a, v = .ref a ∧ SqT K H a [.int x.1, .int x.2]
theorem Fr.mono {K : PySem.W.Frag} {H H' : Hp} {v : V} {x : Int × Int} (e : Ex H H') (h : Fr K H v x) : Fr K H' v x := by
  obtain ⟨a, rfl, h⟩ := h
  exact ⟨a, rfl, ex_t e h⟩
theorem Fr.new {K : PySem.W.Frag} {H : Hp} {p : Addr} {x y : Int} : Fr K (upd H p (.tup [.int x, .int y])) (.ref p) (x, y) := ⟨p, rfl, tup_of⟩
/-- a new fraction is handed back -/
def RetF (K : PySem.W.Frag) (H : Hp) (Q : VK) (x : Int × Int) : Prop := ∀ v H', Ex H H' → Fr K H' v x → Q v H'
/-- small enough: below 2 ^ n -/
def Sm (n : Nat) (x : Int) : Prop := x.natAbs < 2 ^ n
theorem Sm.mul {a b : Nat} {x y : Int} (hx : Sm a x) (hy : Sm b y) : Sm (a + b) (x * y) := wide_lt hx hy
theorem Sm.mono {a b : Nat} {x : Int} (h : Sm a x) (hab : a ≤ b) : Sm b x := Nat.lt_of_lt_of_le h (Nat.pow_le_pow_right (by decide) hab)
theorem Sm.le {a : Nat} {x y : Int} (h : Sm a x) (hy : y.natAbs ≤ x.natAbs) : Sm a y := Nat.lt_of_le_of_lt hy h
theorem Sm.add {a : Nat} {x y : Int} (hx : Sm a x) (hy : Sm a y) : Sm (a + 1) (x + y) := by
  unfold Sm at *
  rw [Nat.pow_succ]; omega
theorem Sm.sub {a : Nat} {x y : Int} (hx : Sm a x) (hy : Sm a y) : Sm (a + 1) (x - y) := by
  unfold Sm at *
  rw [Nat.pow_succ]; omega
theorem Sm.wide {a b : Nat} {x y : Int} (hx : Sm a x) (hy : Sm b y) (h0 : 0 < a := by decide) (h1 : 0 < b := by decide) (h : a + b ≤ 1000000 := by decide) : CMulW x y := wide_mul hx hy h0 h1 h
/-- both parts small, the bottom above 0 -/
structure SmF (n : Nat) (x : Int × Int) : Prop where
  t : Sm n x.1
  b : Sm n x.2
  p : 0 < x.2

/-! ### fractions.py -/
section
variable {P : Program} {w : World} {K : PySem.W.Frag} {mg : Str → Option Value} {base : Heap}
def spGcd : Sp := fun vs H Q _ => ∃ a b : Int, vs = [.int a, .int b] ∧ Q (.int (gcdI a b)) H
theorem gcd_step {a b : Int} (hb : 0 < b) (ha : 0 ≤ a) : gcdI b (a % b) = gcdI a b := by
  unfold gcdI
  congr 1
  have e : ((a % b).natAbs) = a.natAbs % b.natAbs := by
    obtain ⟨n, rfl⟩ := Int.eq_ofNat_of_zero_le ha
    obtain ⟨m, rfl⟩ := Int.eq_ofNat_of_zero_le (Int.le_of_lt hb)
    rfl
  unfold Int.gcd
  rw [e, Nat.gcd_comm, ← Nat.gcd_rec, Nat.gcd_comm]
theorem ok_commondivisor (T : Tx K mg) : FnOk P w K mg base CX0 1 T.commondivisor.f T.commondivisor.fd ["one", "other"] spGcd := by
  refine T.commondivisor.F.ok sc_commondivisor (fun vs H Q E h => ?_) (fun cdv A outer s H vs Q E hr h => ?_)
  · obtain ⟨a, b, rfl, _⟩ := h
    rfl
  · obtain ⟨a, b, rfl, k⟩ := h
    refine ⟨_, (pss_cons (ps_par (i := 0) (j := 1) rfl sc_commondivisor.nd (by rfl) (by rfl) (by decide) (by rfl) (by rfl) (pa_cons (pe_callB call_abs (by rfl) T.n_abs (by decide +kernel) (pa_cons (pv 0) pa_nil)) (pa_cons (pe_callB call_abs (by rfl) T.n_abs (by decide +kernel) (pa_cons (pv 1) pa_nil)) pa_nil)) (by rfl))
      (pss_cons (ps_while PassesOwn.never (pt_cmpR op_gt (pv 1) pe_int (nomark _)) (pss_one (ps_par (i := 0) (j := 1) rfl sc_commondivisor.nd (by rfl) (by rfl) (by decide) (by rfl) (by rfl) (pa_cons (pv 1) (pa_cons (pe_op op_mod (pv 0) (pv 1)) pa_nil)) (by rfl))))
      (pss_one (ps_ret (pv 0))))), ?_⟩
    refine ⟨_, rfl, _, rfl, _, rfl, _, rfl, _, _, rfl, ?_⟩
    refine while_by (fun σ H' => ∃ x y : Int, σ = [some (.int x), some (.int y)] ∧ 0 ≤ x ∧ 0 ≤ y ∧ gcdI x y = gcdI a b ∧ H' = H) (fun σ _ => match σ with | [_, some (.int y)] => y.toNat | _ => 0) ?_ ?_ ?_
    · refine ⟨_, _, rfl, ?_, ?_, ?_, rfl⟩
      · split <;> omega
      · split <;> omega
      · unfold gcdI
        have : ∀ z : Int, (if z < 0 then -z else z).natAbs = z.natAbs := fun z => by split <;> omega
        unfold Int.gcd
        rw [this, this]
    · rintro σ H' ⟨x, y, rfl, hx, hy, hg, rfl⟩
      refine ⟨_, rfl, _, _, rfl, rfl, _, rfl, ?_⟩
      refine ite2 (fun h => ?_) (fun h => ?_)
      · have y0 : 0 < y := of_decide_eq_true h
        refine ⟨_, rfl, _, rfl, _, rfl, _, _, rfl, rfl, y0, _, _, rfl, ?_⟩
        refine ⟨⟨_, _, rfl, hy, Int.emod_nonneg x (by omega), by rw [gcd_step y0 hx, hg], rfl⟩, ?_⟩
        have h1 := Int.emod_lt_of_pos x y0
        have h2 := Int.emod_nonneg x (show y ≠ 0 by omega)
        show (x % y).toNat < y.toNat
        omega
      · have y0 : y = 0 := by
          have : ¬ 0 < y := fun q => h (decide_eq_true q)
          omega
        refine ⟨_, rfl, ?_⟩
        have e : gcdI a b = x := by
          rw [← hg, y0]; unfold gcdI; rw [Int.gcd_zero_right]; omega
        rw [e] at k
        exact k
    · rintro σ H' Q1 Q2 hq ⟨v, e, i, j, h1, h2, c, h3, h4⟩
      exact ⟨v, e, i, j, h1, h2, c, h3, hq _ _ h4⟩
def spMade (K : PySem.W.Frag) : Sp := fun vs H Q _ => ∃ a b : Int, vs = [.int a, .int b] ∧ 0 < b ∧ Sm 8000 b ∧ RetF K H Q (red a b)
theorem ok_made (T : Tx K mg) : FnOk P w K mg base CX0 2 T.made.f T.made.fd ["top", "bottom"] (spMade K) := by
  refine T.made.F.ok sc_made (fun vs H Q E h => ?_) (fun cdv A outer s H vs Q E hr h => ?_)
  · obtain ⟨a, b, rfl, _⟩ := h
    rfl
  · obtain ⟨a, b, rfl, hb, hs, k⟩ := h
    refine ⟨_, (pss_cons (ps_set (i := 2) sc_made.nd (by rfl) (Or.inl rfl) (pe_call (ok_commondivisor (P := P) (w := w) (base := base) T) (hr.mono (by decide)) (by rfl) T.g_commondivisor T.commondivisor.F.kp T.commondivisor.b .nil pass0 (pa_cons (pv 0) (pa_cons (pv 1) pa_nil))))
      (pss_one (ps_ret (pe_tup (pa_cons (pe_op op_fdivW (pv 0) (pv 2)) (pa_cons (pe_op op_fdivW (pv 1) (pv 2)) pa_nil)))))), ?_⟩
    have g0 := gcdI_pos (t := a) hb
    have gs : (gcdI a b).natAbs < 2 ^ 8000 := Nat.lt_of_le_of_lt (by
      have : gcdI a b ∣ b := Int.gcd_dvd_right a b
      have := Int.le_of_dvd hb this
      omega) hs
    have gd := fun x : Int => wide_div (i := x) g0 gs (by decide) (by decide)
    refine ⟨_, rfl, _, rfl, a, b, rfl, ?_⟩
    refine ⟨_, rfl, _, rfl, _, _, rfl, rfl, gd a, _, rfl, _, rfl, _, _, rfl, rfl, gd b, (by show 2 ≤ sizeLine; decide), fun p hp => ?_⟩
    exact k _ _ (Ex.nw hp) Fr.new
def spWhole (K : PySem.W.Frag) : Sp := fun vs H Q _ => ∃ a : Int, vs = [.int a] ∧ RetF K H Q (a, 1)
theorem ok_whole (T : Tx K mg) : FnOk P w K mg base CX0 1 T.whole.f T.whole.fd ["number"] (spWhole K) := by
  refine T.whole.F.ok sc_whole (fun vs H Q E h => ?_) (fun cdv A outer s H vs Q E hr h => ?_)
  · obtain ⟨a, rfl, _⟩ := h
    rfl
  · obtain ⟨a, rfl, k⟩ := h
    refine ⟨_, (pss_one (ps_ret (pe_tup (pa_cons (pv 0) (pa_cons pe_int pa_nil))))), ?_⟩
    refine ⟨_, rfl, (by show 2 ≤ sizeLine; decide), fun p hp => ?_⟩
    exact k _ _ (Ex.nw hp) Fr.new
/-- two fractions in -/
def spF2 (K : PySem.W.Frag) (f : Int × Int → Int × Int → Int × Int) (C : Int × Int → Int × Int → Prop) : Sp := fun vs H Q _ => ∃ (v u : V) (x y : Int × Int), vs = [v, u] ∧ Fr K H v x ∧ Fr K H u y ∧ SmF 2000 x ∧ SmF 2000 y ∧ C x y ∧ RetF K H Q (f x y)
theorem ok_plus (T : Tx K mg) : FnOk P w K mg base CX0 3 T.plus.f T.plus.fd ["one", "other"] (spF2 K plusI fun _ _ => True) := by
  refine T.plus.F.ok sc_plus (fun vs H Q E h => ?_) (fun cdv A outer s H vs Q E hr h => ?_)
  · obtain ⟨_, _, _, _, rfl, _⟩ := h
    rfl
  · obtain ⟨v, u, x, y, rfl, ⟨a, rfl, ha⟩, ⟨b, rfl, hb⟩, sx, sy, _, k⟩ := h
    refine ⟨_, (pss_one (ps_ret (pe_call (ok_made (P := P) (w := w) (base := base) T) (hr.mono (by decide)) (by rfl) T.g_made T.made.F.kp T.made.b .nil pass0 (pa_cons (pe_op op_add (pe_op op_mulW (pe_ix ix_tup (pv 0) pe_int (fun _ _ => rfl)) (pe_ix ix_tup (pv 1) pe_int (fun _ _ => rfl))) (pe_op op_mulW (pe_ix ix_tup (pv 1) pe_int (fun _ _ => rfl)) (pe_ix ix_tup (pv 0) pe_int (fun _ _ => rfl)))) (pa_cons (pe_op op_mulW (pe_ix ix_tup (pv 0) pe_int (fun _ _ => rfl)) (pe_ix ix_tup (pv 1) pe_int (fun _ _ => rfl))) pa_nil))))), ?_⟩
    refine ⟨_, rfl, a, _, 0, _, rfl, rfl, ha, rfl, _, rfl, b, _, 1, _, rfl, rfl, hb, rfl, _, _, rfl, rfl, sx.t.wide sy.b, ?_⟩
    refine ⟨_, rfl, b, _, 0, _, rfl, rfl, hb, rfl, _, rfl, a, _, 1, _, rfl, rfl, ha, rfl, _, _, rfl, rfl, sy.t.wide sx.b, _, _, rfl, rfl, ?_⟩
    refine ⟨_, rfl, a, _, 1, _, rfl, rfl, ha, rfl, _, rfl, b, _, 1, _, rfl, rfl, hb, rfl, _, _, rfl, rfl, sx.b.wide sy.b, ?_⟩
    exact ⟨_, _, rfl, Int.mul_pos sx.p sy.p, (sx.b.mul sy.b).mono (by decide), k⟩
theorem ok_minus (T : Tx K mg) : FnOk P w K mg base CX0 3 T.minus.f T.minus.fd ["one", "other"] (spF2 K minusI fun _ _ => True) := by
  refine T.minus.F.ok sc_minus (fun vs H Q E h => ?_) (fun cdv A outer s H vs Q E hr h => ?_)
  · obtain ⟨_, _, _, _, rfl, _⟩ := h
    rfl
  · obtain ⟨v, u, x, y, rfl, ⟨a, rfl, ha⟩, ⟨b, rfl, hb⟩, sx, sy, _, k⟩ := h
    refine ⟨_, (pss_one (ps_ret (pe_call (ok_made (P := P) (w := w) (base := base) T) (hr.mono (by decide)) (by rfl) T.g_made T.made.F.kp T.made.b .nil pass0 (pa_cons (pe_op op_sub (pe_op op_mulW (pe_ix ix_tup (pv 0) pe_int (fun _ _ => rfl)) (pe_ix ix_tup (pv 1) pe_int (fun _ _ => rfl))) (pe_op op_mulW (pe_ix ix_tup (pv 1) pe_int (fun _ _ => rfl)) (pe_ix ix_tup (pv 0) pe_int (fun _ _ => rfl)))) (pa_cons (pe_op op_mulW (pe_ix ix_tup (pv 0) pe_int (fun _ _ => rfl)) (pe_ix ix_tup (pv 1) pe_int (fun _ _ => rfl))) pa_nil))))), ?_⟩
    refine ⟨_, rfl, a, _, 0, _, rfl, rfl, ha, rfl, _, rfl, b, _, 1, _, rfl, rfl, hb, rfl, _, _, rfl, rfl, sx.t.wide sy.b, ?_⟩
    refine ⟨_, rfl, b, _, 0, _, rfl, rfl, hb, rfl, _, rfl, a, _, 1, _, rfl, rfl, ha, rfl, _, _, rfl, rfl, sy.t.wide sx.b, _, _, rfl, rfl, ?_⟩
    refine ⟨_, rfl, a, _, 1, _, rfl, rfl, ha, rfl, _, rfl, b, _, 1, _, rfl, rfl, hb, rfl, _, _, rfl, rfl, sx.b.wide sy.b, ?_⟩
    exact ⟨_, _, rfl, Int.mul_pos sx.p sy.p, (sx.b.mul sy.b).mono (by decide), k⟩
theorem ok_times (T : Tx K mg) : FnOk P w K mg base CX0 3 T.times.f T.times.fd ["one", "other"] (spF2 K timesI fun _ _ => True) := by
  refine T.times.F.ok sc_times (fun vs H Q E h => ?_) (fun cdv A outer s H vs Q E hr h => ?_)
  · obtain ⟨_, _, _, _, rfl, _⟩ := h
    rfl
  · obtain ⟨v, u, x, y, rfl, ⟨a, rfl, ha⟩, ⟨b, rfl, hb⟩, sx, sy, _, k⟩ := h
    refine ⟨_, (pss_one (ps_ret (pe_call (ok_made (P := P) (w := w) (base := base) T) (hr.mono (by decide)) (by rfl) T.g_made T.made.F.kp T.made.b .nil pass0 (pa_cons (pe_op op_mulW (pe_ix ix_tup (pv 0) pe_int (fun _ _ => rfl)) (pe_ix ix_tup (pv 1) pe_int (fun _ _ => rfl))) (pa_cons (pe_op op_mulW (pe_ix ix_tup (pv 0) pe_int (fun _ _ => rfl)) (pe_ix ix_tup (pv 1) pe_int (fun _ _ => rfl))) pa_nil))))), ?_⟩
    refine ⟨_, rfl, a, _, 0, _, rfl, rfl, ha, rfl, _, rfl, b, _, 0, _, rfl, rfl, hb, rfl, _, _, rfl, rfl, sx.t.wide sy.t, ?_⟩
    refine ⟨_, rfl, a, _, 1, _, rfl, rfl, ha, rfl, _, rfl, b, _, 1, _, rfl, rfl, hb, rfl, _, _, rfl, rfl, sx.b.wide sy.b, ?_⟩
    exact ⟨_, _, rfl, Int.mul_pos sx.p sy.p, (sx.b.mul sy.b).mono (by decide), k⟩
theorem ok_over (T : Tx K mg) : FnOk P w K mg base CX0 3 T.over.f T.over.fd ["one", "other"] (spF2 K overI fun _ y => 0 < y.1) := by
  refine T.over.F.ok sc_over (fun vs H Q E h => ?_) (fun cdv A outer s H vs Q E hr h => ?_)
  · obtain ⟨_, _, _, _, rfl, _⟩ := h
    rfl
  · obtain ⟨v, u, x, y, rfl, ⟨a, rfl, ha⟩, ⟨b, rfl, hb⟩, sx, sy, hy, k⟩ := h
    refine ⟨_, (pss_one (ps_ret (pe_call (ok_made (P := P) (w := w) (base := base) T) (hr.mono (by decide)) (by rfl) T.g_made T.made.F.kp T.made.b .nil pass0 (pa_cons (pe_op op_mulW (pe_ix ix_tup (pv 0) pe_int (fun _ _ => rfl)) (pe_ix ix_tup (pv 1) pe_int (fun _ _ => rfl))) (pa_cons (pe_op op_mulW (pe_ix ix_tup (pv 0) pe_int (fun _ _ => rfl)) (pe_ix ix_tup (pv 1) pe_int (fun _ _ => rfl))) pa_nil))))), ?_⟩
    refine ⟨_, rfl, a, _, 0, _, rfl, rfl, ha, rfl, _, rfl, b, _, 1, _, rfl, rfl, hb, rfl, _, _, rfl, rfl, sx.t.wide sy.b, ?_⟩
    refine ⟨_, rfl, a, _, 1, _, rfl, rfl, ha, rfl, _, rfl, b, _, 0, _, rfl, rfl, hb, rfl, _, _, rfl, rfl, sx.b.wide sy.t, ?_⟩
    exact ⟨_, _, rfl, Int.mul_pos sx.p hy, (sx.b.mul sy.t).mono (by decide), k⟩
end
end K70
end
section
set_option Elab.async false
set_option linter.all false
set_option maxRecDepth 100000
set_option maxHeartbeats 4000000
namespace K70
open PySem PySem.Spec PyProof.Rows L2
open Evl (Ex ex_l ex_t fresh_back)
theorem tyX_tup {K : PySem.W.Frag} {H : Hp} {a : Addr} {xs : List V} (h : SqT K H a xs) : TyX K H (.ref a) (.type "tuple") := by
  rcases h with (h | ⟨o, h⟩) | ⟨o, its, n, h1, h2, _⟩
  · exact .base (.tup h)
  · exact .fTuple h
  · exact .kTuple h1 h2
/-- a tuple of the fractions n * p / q -/
def Frs (K : PySem.W.Frag) (H : Hp) (a : Addr) (p q : Int) (xs : List Int) : Prop :=
  ∃ vs, SqT K H a vs ∧ vs.length = xs.length ∧ ∀ (i : Nat) (v : V), vs[i]? = some v → ∃ n, xs[i]? = some n ∧ Fr K H v (F p q n)
theorem Frs.mono {K : PySem.W.Frag} {H H' : Hp} {a : Addr} {p q : Int} {xs : List Int} (e : Ex H H') (h : Frs K H a p q xs) : Frs K H' a p q xs := by
  obtain ⟨vs, h1, h2, h3⟩ := h
  refine ⟨vs, ex_t e h1, h2, fun i v hv => ?_⟩
  obtain ⟨n, h4, h5⟩ := h3 i v hv
  exact ⟨n, h4, h5.mono e⟩
/-- the unit's top and bottom -/
structure Pq (p q : Int) : Prop where
  p0 : 0 < p
  q0 : 0 < q
  ps : Sm 200 p
  qs : Sm 200 q
/-- the sums: 1 to 100, each above 0 and small -/
structure Sums (xs : List Int) : Prop where
  len : xs.length ≤ 100
  ne : xs ≠ []
  pos : Pos xs
  sm : ∀ x ∈ xs, x < 2 ^ 64
theorem sum_lt {M : Int} : ∀ {xs : List Int}, (∀ x ∈ xs, x ≤ M) → xs.sum ≤ xs.length * M
  | [], _ => by simp
  | x :: r, h => by
    have := sum_lt (xs := r) fun y hy => h y (List.mem_cons_of_mem _ hy)
    have := h x List.mem_cons_self
    simp only [List.sum_cons, List.length_cons, Int.natCast_add, Int.add_mul]
    omega
theorem Sums.sum_le {xs : List Int} (h : Sums xs) : xs.sum < 2 ^ 90 := by
  have h1 := sum_lt (M := 2 ^ 64) fun x hx => Int.le_of_lt (h.sm x hx)
  have h2 := h.len
  have : (xs.length : Int) * 2 ^ 64 ≤ 100 * 2 ^ 64 := Int.mul_le_mul_of_nonneg_right (by omega) (by decide)
  have : (100 : Int) * 2 ^ 64 < 2 ^ 90 := by decide
  omega
theorem sum_take_le {xs : List Int} (h : Pos xs) (i : Nat) : 0 ≤ (xs.take i).sum ∧ (xs.take i).sum ≤ xs.sum := by
  have e : xs.sum = (xs.take i).sum + (xs.drop i).sum := by rw [← List.sum_append, List.take_append_drop]
  have h1 := Pos.sum_nonneg (l := xs.take i) fun x hx => h x (List.mem_of_mem_take hx)
  have h2 := Pos.sum_nonneg (l := xs.drop i) fun x hx => h x (List.mem_of_mem_drop hx)
  omega
theorem small_of {x : Int} {n : Nat} (h0 : 0 ≤ x) (h : x < (2 : Int) ^ n) : Sm n x := by
  unfold Sm
  have e : ((2 ^ n : Nat) : Int) = (2 : Int) ^ n := by exact_mod_cast rfl
  omega
theorem Pq.smF {p q : Int} (h : Pq p q) {n : Int} (hn : Sm 100 n) : SmF 2000 (F p q n) := by
  have l := red_le (t := n * p) h.q0
  exact ⟨((hn.mul h.ps).le l.1).mono (by decide), (h.qs.le l.2).mono (by decide), F_pos (p := p) h.q0 n⟩
theorem Sums.at {xs : List Int} (h : Sums xs) {i : Nat} {n : Int} (e : xs[i]? = some n) : 0 < n ∧ Sm 100 n := by
  have hm := List.mem_of_getElem? e
  have := h.pos n hm
  exact ⟨this, (small_of (by omega) (h.sm n hm)).mono (by decide)⟩

section
variable {P : Program} {w : World} {K : PySem.W.Frag} {mg : Str → Option Value} {base : Heap}
def spTotal (K : PySem.W.Frag) : Sp := fun vs H Q _ => ∃ (a : Addr) (p q : Int) (xs : List Int), vs = [.ref a] ∧ Frs K H a p q xs ∧ Pq p q ∧ Sums xs ∧ RetF K H Q (F p q xs.sum)
theorem ok_totalof (T : Tx K mg) : FnOk P w K mg base CX0 4 T.totalof.f T.totalof.fd ["fractions"] (spTotal K) := by
  refine T.totalof.F.ok sc_totalof (fun vs H Q E h => ?_) (fun cdv A outer s H vs Q E hr h => ?_)
  · obtain ⟨_, _, _, _, rfl, _⟩ := h
    rfl
  · obtain ⟨a, p, q, xs, rfl, hF, hU, hS, k⟩ := h
    refine ⟨_, (pss_cons (ps_set (i := 1) sc_totalof.nd (by rfl) (Or.inl rfl) (pe_glob (v := .ref T.zero) (by rfl) T.v_ZERO rfl))
      (pss_cons (ps_for PassesOwn.never rfl (pi_tup (pv 0)) (pg_name (i := 2) sc_totalof.nd (by rfl) (Or.inl rfl)) (pss_one (ps_set (i := 1) sc_totalof.nd (by rfl) (Or.inl rfl) (pe_call (ok_plus (P := P) (w := w) (base := base) T) (hr.mono (by decide)) (by rfl) T.g_plus T.plus.F.kp T.plus.b .nil pass0 (pa_cons (pv 1) (pa_cons (pv 2) pa_nil))))))
      (pss_one (ps_ret (pv 1))))), ?_⟩
    obtain ⟨vs, hT, hl, hv⟩ := hF
    refine ⟨_, rfl, a, rfl, ⟨_, hT⟩, for_tup (K := K) (a := a) (xs := vs) (fun i σ H' => ∃ (v : V) (y : Option V), σ = [some (.ref a), some v, y] ∧ Ex H H' ∧ Fr K H' v (F p q (xs.take i).sum)) ?_ ?_ ?_ ?_⟩
    · refine ⟨_, _, rfl, Ex.rf H, T.zero, rfl, ?_⟩
      rw [List.take_zero, List.sum_nil, F_zero hU.q0]
      exact T.zT H
    · rintro i σ H' _ ⟨_, _, _, e, _⟩
      exact ex_t e hT
    · rintro i x σ H' hi ⟨v, y, rfl, e, hf⟩
      obtain ⟨n, hn, hx⟩ := hv i x hi
      obtain ⟨n0, ns⟩ := hS.at hn
      have tk := sum_take_le hS.pos i
      have tl := hS.sum_le
      refine ⟨_, rfl, _, rfl, v, x, _, _, rfl, hf, hx.mono e, hU.smF (small_of tk.1 (Int.lt_trans (Int.lt_of_le_of_lt tk.2 tl) (by decide))), hU.smF ns, trivial, fun v' H2 e2 hf2 => ?_⟩
      refine ⟨v', some x, rfl, Ex.tr e e2, ?_⟩
      rw [plus_F hU.q0] at hf2
      rw [sum_take hn]
      exact hf2
    · rintro σ H' ⟨v, y, rfl, e, hf⟩
      refine ⟨_, rfl, k v H' e ?_⟩
      rw [hl, List.take_length] at hf
      exact hf
theorem cut1 (xs : List V) : cutV xs (some 1) none = xs.drop 1 := by
  unfold cutV
  rw [show HT.sIx xs.length 0 (some 1) = min 1 xs.length from HT.sIx_nat xs.length 0 1, HT.sIx_none]
  cases xs with
  | nil => rfl
  | cons x r =>
    rw [show min 1 (x :: r).length = 1 by
      rw [List.length_cons]
      omega]
    show (List.take ((x :: r).length - 1) r) = r
    rw [List.length_cons, Nat.add_sub_cancel]
    exact List.take_length
theorem gcdL_take {g : Int} : ∀ {r : List Int} {i : Nat} {n : Int}, r[i]? = some n → gcdL g (r.take (i + 1)) = gcdI (gcdL g (r.take i)) n := by
  intro r
  induction r generalizing g with
  | nil => intro i n h; simp at h
  | cons x r ih =>
    intro i n h
    cases i with
    | zero =>
      have e : x = n := Option.some.inj h
      subst e
      simp [gcdL]
    | succ i =>
      rw [List.take_succ_cons, List.take_succ_cons]
      simp only [gcdL]
      exact ih h
/-- the greatest common divisor of the sums -/
def gAll : List Int → Int
  | [] => 1
  | x :: r => gcdL x r
def spMeasure (K : PySem.W.Frag) : Sp := fun vs H Q _ => ∃ (a : Addr) (p q : Int) (xs : List Int), vs = [.ref a] ∧ Frs K H a p q xs ∧ Pq p q ∧ xs ≠ [] ∧ (∀ x ∈ xs, 0 < x ∧ x < 2 ^ 64) ∧ RetF K H Q (F p q (gAll xs))
theorem ok_measureof (T : Tx K mg) : FnOk P w K mg base CX0 3 T.measureof.f T.measureof.fd ["amounts"] (spMeasure K) := by
  refine T.measureof.F.ok sc_measureof (fun vs H Q E h => ?_) (fun cdv A outer s H vs Q E hr h => ?_)
  · obtain ⟨_, _, _, _, rfl, _⟩ := h
    rfl
  · obtain ⟨a, p, q, xs, rfl, hF, hU, hne, hS, k⟩ := h
    refine ⟨_, (pss_cons (ps_asg (pe_ix ix_tup (pv 0) pe_int (fun _ _ => rfl)) (pg_tup (by rfl) (pgs_cons (pg_name (i := 1) sc_measureof.nd (by rfl) (Or.inl rfl)) (pgs_cons (pg_name (i := 2) sc_measureof.nd (by rfl) (Or.inl rfl)) pgs_nil))))
      (pss_cons (ps_for PassesOwn.never rfl (pi_tup (pe_slice sl_tupA (pv 0) (po_some pe_int) po_none)) (pg_name (i := 3) sc_measureof.nd (by rfl) (Or.inl rfl)) (pss_one (ps_asg (pe_call (ok_made (P := P) (w := w) (base := base) T) (hr.mono (by decide)) (by rfl) T.g_made T.made.F.kp T.made.b .nil pass0 (pa_cons (pe_call (ok_commondivisor (P := P) (w := w) (base := base) T) (hr.mono (by decide)) (by rfl) T.g_commondivisor T.commondivisor.F.kp T.commondivisor.b .nil pass0 (pa_cons (pe_op op_mulW (pv 1) (pe_ix ix_tup (pv 3) pe_int (fun _ _ => rfl))) (pa_cons (pe_op op_mulW (pe_ix ix_tup (pv 3) pe_int (fun _ _ => rfl)) (pv 2)) pa_nil))) (pa_cons (pe_op op_mulW (pv 2) (pe_ix ix_tup (pv 3) pe_int (fun _ _ => rfl))) pa_nil))) (pg_tup (by rfl) (pgs_cons (pg_name (i := 1) sc_measureof.nd (by rfl) (Or.inl rfl)) (pgs_cons (pg_name (i := 2) sc_measureof.nd (by rfl) (Or.inl rfl)) pgs_nil))))))
      (pss_one (ps_ret (pe_tup (pa_cons (pv 1) (pa_cons (pv 2) pa_nil))))))), ?_⟩
    obtain ⟨vs, hT, hl, hv⟩ := hF
    obtain ⟨x0, r, rfl⟩ : ∃ x0 r, xs = x0 :: r := by
      cases xs with
      | nil => exact absurd rfl hne
      | cons x0 r => exact ⟨x0, r, rfl⟩
    obtain ⟨v0, vr, rfl⟩ : ∃ v0 vr, vs = v0 :: vr := by
      cases vs with
      | nil => cases hl
      | cons v0 vr => exact ⟨v0, vr, rfl⟩
    obtain ⟨n0, e0, a0, rfl, ha0⟩ := hv 0 v0 rfl
    cases Option.some.inj e0
    have bnd : ∀ z, 0 < z → z < 2 ^ 64 → Sm 100 z := fun z h1 h2 => (small_of (Int.le_of_lt h1) h2).mono (by decide)
    -- top, bottom = amounts[0]
    refine ⟨_, rfl, a, _, 0, _, rfl, rfl, hT, atI_nat (j := 0) rfl, a0, _, rfl, ha0, rfl, _, _, rfl, _, _, rfl, rfl, ?_⟩
    -- for amount in amounts[1:]
    refine ⟨_, rfl, 1, rfl, a, _, rfl, hT, fun z => ?_, fun _ np hnp => ?_⟩
    · exfalso
      have := z.1
      rw [show HT.sIx (V.ref a0 :: vr).length 0 (some 1) = min 1 (V.ref a0 :: vr).length from HT.sIx_nat _ 0 1, List.length_cons] at this
      omega
    · rw [cut1]
      have eN : Ex H (upd H np (.tup ((V.ref a0 :: vr).drop 1))) := Ex.nw hnp
      refine ⟨np, rfl, ⟨_, tup_of⟩, for_tup (K := K) (a := np) (xs := vr) (fun i σ H' => ∃ y : Option V, σ = [some (.ref a), some (.int (F p q (gcdL x0 (r.take i))).1), some (.int (F p q (gcdL x0 (r.take i))).2), y] ∧ Ex (upd H np (.tup vr)) H') ?_ ?_ ?_ ?_⟩
      · exact ⟨_, rfl, Ex.rf _⟩
      · rintro i σ H' _ ⟨_, _, e⟩
        exact ex_t e tup_of
      · rintro i x σ H' hi ⟨y, rfl, e⟩
        obtain ⟨n, hn, b, rfl, hb⟩ := hv (i + 1) x hi
        have hn' : r[i]? = some n := hn
        have hb' := ex_t e (ex_t eN hb)
        have nb := hS n (List.mem_of_getElem? hn)
        have x0b := hS x0 List.mem_cons_self
        have g0 := gcdL_pos (r.take i) x0 x0b.1
        have gl := gcdL_le (r.take i) x0 x0b.1
        have sg := hU.smF (bnd _ g0 (by omega))
        have sn := hU.smF (bnd _ nb.1 nb.2)
        refine ⟨_, rfl, _, rfl, b, _, 1, _, rfl, rfl, hb', rfl, _, _, rfl, rfl, sg.t.wide sn.b, ?_⟩
        refine ⟨_, rfl, b, _, 0, _, rfl, rfl, hb', rfl, _, rfl, _, _, rfl, rfl, sn.t.wide sg.b, _, _, rfl, ?_⟩
        refine ⟨_, rfl, _, rfl, b, _, 1, _, rfl, rfl, hb', rfl, _, _, rfl, rfl, sg.b.wide sn.b, ?_⟩
        refine ⟨_, _, rfl, Int.mul_pos sg.p sn.p, (sg.b.mul sn.b).mono (by decide), fun v' H2 e2 hf2 => ?_⟩
        rw [gcd_F hU.p0 hU.q0] at hf2
        obtain ⟨c, rfl, hc⟩ := hf2
        refine ⟨c, _, rfl, hc, rfl, _, _, rfl, _, _, rfl, rfl, ?_⟩
        refine ⟨some (.ref b), ?_, Ex.tr e e2⟩
        rw [gcdL_take hn']
        rfl
      · rintro σ H' ⟨y, rfl, e⟩
        refine ⟨_, rfl, _, rfl, (by show 2 ≤ sizeLine; decide), fun t ht => ?_⟩
        refine k _ _ (Ex.tr (Ex.tr eN e) (Ex.nw ht)) ?_
        have : r.take vr.length = r := by
          have : vr.length = r.length := by simpa using hl
          rw [this, List.take_length]
        rw [this]
        exact Fr.new
def spIsInt : Sp := fun vs H Q _ => ∃ a : Int, vs = [.int a] ∧ Q (.bl true) H
theorem ok_isinteger (T : Tx K mg) : FnOk P w K mg base CX0 1 T.isinteger.f T.isinteger.fd ["thing"] spIsInt := by
  refine T.isinteger.F.ok sc_isinteger (fun vs H Q E h => ?_) (fun cdv A outer s H vs Q E hr h => ?_)
  · obtain ⟨a, rfl, _⟩ := h
    rfl
  · obtain ⟨a, rfl, k⟩ := h
    refine ⟨_, (pss_one (ps_ret (pe_and (pe_callB call_isi (by rfl) T.n_isinstance (by decide +kernel) (pa_cons (pv 0) (pa_cons (pe_bltn (v := .ty "int") (by rfl) T.n_int (by decide +kernel) rfl) pa_nil))) (pe_one (pe_not (pe_callB call_isi (by rfl) T.n_isinstance (by decide +kernel) (pa_cons (pv 0) (pa_cons (pe_bltn (v := .ty "bool") (by rfl) T.n_bool (by decide +kernel) rfl) pa_nil)))))))), ?_⟩
    refine ⟨_, rfl, _, _, _, _, true, rfl, .ty _, .base (.int a), kit_ty (by decide +kernel), _, rfl, iteT ?_⟩
    exact ⟨_, rfl, _, _, _, _, false, rfl, .ty _, .base (.int a), kit_ty (by decide +kernel), _, rfl, k⟩
def spIsPair (K : PySem.W.Frag) : Sp := fun vs H Q _ => ∃ (v : V) (x : Int × Int), vs = [v] ∧ Fr K H v x ∧ Q (.bl true) H
theorem ok_ispair (T : Tx K mg) : FnOk P w K mg base CX0 1 T.ispair.f T.ispair.fd ["thing"] (spIsPair K) := by
  refine T.ispair.F.ok sc_ispair (fun vs H Q E h => ?_) (fun cdv A outer s H vs Q E hr h => ?_)
  · obtain ⟨a, _, rfl, _⟩ := h
    rfl
  · obtain ⟨v, x, rfl, ⟨a, rfl, ha⟩, k⟩ := h
    refine ⟨_, (pss_one (ps_ret (pe_and (pe_callB call_isi (by rfl) T.n_isinstance (by decide +kernel) (pa_cons (pv 0) (pa_cons (pe_bltn (v := .ty "tuple") (by rfl) T.n_tuple (by decide +kernel) rfl) pa_nil))) (pe_one (pe_cmpR op_eq (pe_callB call_len_seq (by rfl) T.n_len (by decide +kernel) (pa_cons (pv 0) pa_nil)) pe_int (nomark _)))))), ?_⟩
    refine ⟨_, rfl, _, _, _, _, true, rfl, .ty _, tyX_tup ha, kit_ty (by decide +kernel), _, rfl, iteT ?_⟩
    exact ⟨_, rfl, a, _, rfl, .inr ha, rfl, k⟩
/-- a fraction in lowest terms, its top above 0 -/
def spIsFr (K : PySem.W.Frag) : Sp := fun vs H Q _ => ∃ (v : V) (x : Int × Int), vs = [v] ∧ Fr K H v x ∧ 0 < x.1 ∧ 0 < x.2 ∧ Int.gcd x.1 x.2 = 1 ∧ Q (.bl true) H
theorem ok_isfraction (T : Tx K mg) : FnOk P w K mg base CX0 2 T.isfraction.f T.isfraction.fd ["thing"] (spIsFr K) := by
  refine T.isfraction.F.ok sc_isfraction (fun vs H Q E h => ?_) (fun cdv A outer s H vs Q E hr h => ?_)
  · obtain ⟨a, _, rfl, _⟩ := h
    rfl
  · obtain ⟨v, x, rfl, hx, x1, x2, hg, k⟩ := h
    refine ⟨_, (pss_cons (ps_if (PW.pt (pw_or (pt_not (pt_val (pe_call (ok_ispair (P := P) (w := w) (base := base) T) (hr.mono (by decide)) (by rfl) T.g_ispair T.ispair.F.kp T.ispair.b .nil pass0 (pa_cons (pv 0) pa_nil)))) (pw_or (pt_not (pt_val (pe_call (ok_isinteger (P := P) (w := w) (base := base) T) (hr.mono (by decide)) (by rfl) T.g_isinteger T.isinteger.F.kp T.isinteger.b .nil pass0 (pa_cons (pe_ix ix_tup (pv 0) pe_int (fun _ _ => rfl)) pa_nil)))) (pw_or (pt_not (pt_val (pe_call (ok_isinteger (P := P) (w := w) (base := base) T) (hr.mono (by decide)) (by rfl) T.g_isinteger T.isinteger.F.kp T.isinteger.b .nil pass0 (pa_cons (pe_ix ix_tup (pv 0) pe_int (fun _ _ => rfl)) pa_nil)))) (pw_or1 (pt_cmpR op_lt (pe_ix ix_tup (pv 0) pe_int (fun _ _ => rfl)) pe_int (nomark _))))))) (pss_one (ps_ret pe_bl)) pss_nil)
      (pss_one (ps_ret (pe_cmpR op_eq (pe_call (ok_commondivisor (P := P) (w := w) (base := base) T) (hr.mono (by decide)) (by rfl) T.g_commondivisor T.commondivisor.F.kp T.commondivisor.b .nil pass0 (pa_cons (pe_ix ix_tup (pv 0) pe_int (fun _ _ => rfl)) (pa_cons (pe_ix ix_tup (pv 0) pe_int (fun _ _ => rfl)) pa_nil))) pe_int (nomark _))))), ?_⟩
    obtain ⟨a, rfl, ha⟩ := id hx
    refine ⟨_, rfl, _, x, rfl, hx, _, rfl, iteF ?_⟩
    refine ⟨_, rfl, a, _, 0, _, rfl, rfl, ha, rfl, _, rfl, _, rfl, iteF ?_⟩
    refine ⟨_, rfl, a, _, 1, _, rfl, rfl, ha, rfl, _, rfl, _, rfl, iteF ?_⟩
    refine ⟨_, rfl, a, _, 1, _, rfl, rfl, ha, rfl, _, _, rfl, rfl, _, rfl, ?_⟩
    rw [decide_eq_false (show ¬ x.2 < 1 by omega)]
    refine iteF ?_
    refine ⟨_, rfl, a, _, 0, _, rfl, rfl, ha, rfl, _, rfl, a, _, 1, _, rfl, rfl, ha, rfl, _, _, rfl, rfl, ?_⟩
    have e : gcdI x.1 x.2 = 1 := by unfold gcdI; rw [hg]; rfl
    rw [e]
    exact k
theorem ok_isamount (T : Tx K mg) : FnOk P w K mg base CX0 3 T.isamount.f T.isamount.fd ["thing"] (spIsFr K) := by
  refine T.isamount.F.ok sc_isamount (fun vs H Q E h => ?_) (fun cdv A outer s H vs Q E hr h => ?_)
  · obtain ⟨a, _, rfl, _⟩ := h
    rfl
  · obtain ⟨v, x, rfl, hx, x1, x2, hg, k⟩ := h
    refine ⟨_, (pss_one (ps_ret (pe_and (pe_call (ok_isfraction (P := P) (w := w) (base := base) T) (hr.mono (by decide)) (by rfl) T.g_isfraction T.isfraction.F.kp T.isfraction.b .nil pass0 (pa_cons (pv 0) pa_nil)) (pe_one (pe_cmpR op_gt (pe_ix ix_tup (pv 0) pe_int (fun _ _ => rfl)) pe_int (nomark _)))))), ?_⟩
    obtain ⟨a, rfl, ha⟩ := id hx
    refine ⟨_, rfl, _, x, rfl, hx, x1, x2, hg, _, rfl, iteT ?_⟩
    refine ⟨_, rfl, a, _, 0, _, rfl, rfl, ha, rfl, _, _, rfl, rfl, ?_⟩
    show Q (.bl (decide (0 < x.1))) H
    rw [decide_eq_true (show 0 < x.1 from x1)]
    exact k
end
end K70
end
section
set_option Elab.async false
set_option linter.all false
set_option maxRecDepth 100000
set_option maxHeartbeats 4000000
namespace K70
open PySem PySem.Spec PyProof.Rows L2
open Evl (Ex ex_l ex_t fresh_back)
/-! ### heaps whose lists may change -/
/-- all but lists stays -/
def ExT (H H' : Hp) : Prop := ∀ a o, H a = some o → (∀ l, o ≠ .lst l) → H' a = some o
theorem ExT.rf (H : Hp) : ExT H H := fun _ _ h _ => h
theorem ExT.tr {H H1 H2 : Hp} (a : ExT H H1) (b : ExT H1 H2) : ExT H H2 := fun c o h n => b c o (a c o h n) n
theorem ExT.of {H H' : Hp} (e : Ex H H') : ExT H H' := fun a o h _ => e a o h
theorem ExT.put {H : Hp} {p : Addr} {l l' : List V} (h : H p = some (.lst l)) : ExT H (upd H p (.lst l')) := fun a o q n => by
  by_cases e : a = p
  · subst e; rw [h] at q; exact absurd (Option.some.inj q).symm (n l)
  · rw [upd_ne e]; exact q
theorem ExT.t {K : PySem.W.Frag} {H H' : Hp} {a : Addr} {xs : List V} (e : ExT H H') (h : SqT K H a xs) : SqT K H' a xs := by
  rcases h with (h | ⟨o, h⟩) | h
  · exact .inl (.inl (e a _ h fun l q => by cases q))
  · exact .inl (.inr ⟨o, e a _ h fun l q => by cases q⟩)
  · exact .inr h
theorem Fr.monoT {K : PySem.W.Frag} {H H' : Hp} {v : V} {x : Int × Int} (e : ExT H H') (h : Fr K H v x) : Fr K H' v x := by
  obtain ⟨a, rfl, h⟩ := h
  exact ⟨a, rfl, e.t h⟩
theorem Frs.monoT {K : PySem.W.Frag} {H H' : Hp} {a : Addr} {p q : Int} {xs : List Int} (e : ExT H H') (h : Frs K H a p q xs) : Frs K H' a p q xs := by
  obtain ⟨vs, h1, h2, h3⟩ := h
  refine ⟨vs, e.t h1, h2, fun i v hv => ?_⟩
  obtain ⟨n, h4, h5⟩ := h3 i v hv
  exact ⟨n, h4, h5.monoT e⟩
/-- what a comprehension has made so far: n items, R i of each -/
def Made (R : Nat → V → Hp → Prop) (n : Nat) (ys : List V) (H : Hp) : Prop := ys.length = n ∧ ∀ (i : Nat) (v : V), ys[i]? = some v → R i v H
/-- R stays while all but lists stays -/
def Stays (R : Nat → V → Hp → Prop) : Prop := ∀ i v H H', ExT H H' → R i v H → R i v H'
theorem Made.push {R : Nat → V → Hp → Prop} {n : Nat} {ys : List V} {H : Hp} {y : V} (h : Made R n ys H) (r : R n y H) : Made R (n + 1) (ys ++ [y]) H := by
  obtain ⟨hl, hr⟩ := h
  refine ⟨by rw [List.length_append, hl]; rfl, fun i v hv => ?_⟩
  by_cases e : i < n
  · rw [List.getElem?_append_left (by omega)] at hv
    exact hr i v hv
  · rw [List.getElem?_append_right (by omega), hl] at hv
    have : i = n := by
      have := (List.getElem?_eq_some_iff.mp hv).1
      simp at this; omega
    subst this
    rw [Nat.sub_self] at hv
    cases Option.some.inj hv
    exact r
theorem Made.stay {R : Nat → V → Hp → Prop} (S : Stays R) {n : Nat} {ys : List V} {H H' : Hp} (e : ExT H H') (h : Made R n ys H) : Made R n ys H' := ⟨h.1, fun i v hv => S i v H H' e (h.2 i v hv)⟩
/-- the word of a comprehension at D -/
def Cw (R : Nat → V → Hp → Prop) (H1 : Hp) (D : Addr) (i : Nat) (H : Hp) : Prop := H1 D = none ∧ Ex H1 H ∧ ∃ ys, H D = some (.lst ys) ∧ Made R i ys H
theorem Ex.mt {H H' : Hp} {p : Addr} {o : HO} (e : Ex H H') (h : H p = none) : Ex H (upd H' p o) := Evl.Ex.mut e h
theorem Cw.zero {R : Nat → V → Hp → Prop} {H1 : Hp} {D : Addr} (h : H1 D = none) : Cw R H1 D 0 (upd H1 D (.lst [])) := ⟨h, Ex.nw h, [], upd_same, rfl, fun i v hv => by simp at hv⟩
/-- one more: behind the element's evaluation in H4 -/
theorem Cw.next {R : Nat → V → Hp → Prop} (S : Stays R) {H1 H3 H4 : Hp} {D : Addr} {i : Nat} {y : V} (c : Cw R H1 D i H3) (hi : i < 100000) (e : Ex H3 H4) (r : R i y H4) :
    ∃ acc, H4 D = some (.lst acc) ∧ acc.length < sizeLine ∧ Cw R H1 D (i + 1) (upd H4 D (.lst (acc ++ [y]))) := by
  obtain ⟨h, e1, ys, hD, m⟩ := c
  have hD4 := e D _ hD
  have t : ExT H4 (upd H4 D (.lst (ys ++ [y]))) := ExT.put hD4
  refine ⟨ys, hD4, Evl.sz_lt (by rw [m.1]; exact hi), h, Ex.mt (Ex.tr e1 e) h, ys ++ [y], upd_same, ?_⟩
  exact Made.stay S t (Made.push (Made.stay S (ExT.of e) m) r)

section
variable {K : PySem.W.Frag}
/-- a comprehension over a tuple, no test -/
theorem comp_tup (R : Nat → V → Hp → Prop) (S : Stays R) {xs : List V} {j : Nat} {tl te : TE} {vs : List Nat} {σ : L2.St} {H : Hp} {Q : VK}
    (htl : ∀ R' : VK, (∀ a H1, Ex H H1 → SqT K H1 a xs → R' (.ref a) H1) → tl σ H R') (hl : xs.length < 100000)
    (hw : ∀ x, wipe ((wipe σ vs).set j (some x)) vs = wipe σ vs)
    (he : ∀ (i : Nat) (x : V) H', xs[i]? = some x → Ex H H' → ∀ Q' : VK, (∀ v H2, Ex H' H2 → R i v H2 → Q' v H2) → te ((wipe σ vs).set j (some x)) H' Q')
    (hd : ∀ D H' ys, H D = none → Ex H H' → H' D = some (.lst ys) → Made R xs.length ys H' → Q (.ref D) H') :
    tLc (iTup K tl) (gName j) tYes te vs σ H Q := htl _ fun a H1 e0 hT => ⟨a, rfl, ⟨_, hT⟩, fun D hD =>
  lc_tup (K := K) (a := a) (xs := xs) (Cw R H1 D) (Cw.zero hD) (fun i H' _ c => ex_t c.2.1 hT) (fun i x H' hi c => ⟨hw x, by
      show (if true = true then te ((wipe σ vs).set j (some x)) H' (fun y H4 => ∃ acc, H4 D = some (.lst acc) ∧ acc.length < sizeLine ∧ Cw R H1 D (i + 1) (upd H4 D (.lst (acc ++ [y])))) else Cw R H1 D (i + 1) H')
      rw [if_pos rfl]
      exact he i x H' hi (Ex.tr e0 c.2.1) _ fun v H2 e2 r => c.next S (by have := (List.getElem?_eq_some_iff.mp hi).1; omega) e2 r⟩)
    fun H' c => by
      obtain ⟨h, e1, ys, h2, m⟩ := c
      exact hd D H' ys (fresh_back e0 h) (Ex.tr e0 e1) h2 m⟩
/-- .. over a list -/
theorem comp_list (R : Nat → V → Hp → Prop) (S : Stays R) {xs : List V} {j : Nat} {tl te : TE} {vs : List Nat} {σ : L2.St} {H : Hp} {Q : VK}
    (htl : ∀ R' : VK, (∀ a H1, Ex H H1 → SqL K H1 a xs → R' (.ref a) H1) → tl σ H R') (hl : xs.length < 100000)
    (hw : ∀ x, wipe ((wipe σ vs).set j (some x)) vs = wipe σ vs)
    (he : ∀ (i : Nat) (x : V) H', xs[i]? = some x → Ex H H' → ∀ Q' : VK, (∀ v H2, Ex H' H2 → R i v H2 → Q' v H2) → te ((wipe σ vs).set j (some x)) H' Q')
    (hd : ∀ D H' ys, H D = none → Ex H H' → H' D = some (.lst ys) → Made R xs.length ys H' → Q (.ref D) H') :
    tLc (iList K tl) (gName j) tYes te vs σ H Q := htl _ fun a H1 e0 hT => ⟨a, rfl, ⟨_, hT⟩, fun D hD =>
  lc_list (K := K) (a := a) (xs := xs) (Cw R H1 D) (Cw.zero hD) (fun i H' _ c => ex_l c.2.1 hT) (fun i x H' hi c => ⟨hw x, by
      show (if true = true then te ((wipe σ vs).set j (some x)) H' (fun y H4 => ∃ acc, H4 D = some (.lst acc) ∧ acc.length < sizeLine ∧ Cw R H1 D (i + 1) (upd H4 D (.lst (acc ++ [y])))) else Cw R H1 D (i + 1) H')
      rw [if_pos rfl]
      exact he i x H' hi (Ex.tr e0 c.2.1) _ fun v H2 e2 r => c.next S (by have := (List.getElem?_eq_some_iff.mp hi).1; omega) e2 r⟩)
    fun H' c => by
      obtain ⟨h, e1, ys, h2, m⟩ := c
      exact hd D H' ys (fresh_back e0 h) (Ex.tr e0 e1) h2 m⟩
/-- .. over range(n) -/
theorem comp_range (R : Nat → V → Hp → Prop) (S : Stays R) {n : Int} {j : Nat} {ta : TA} {te : TE} {vs : List Nat} {σ : L2.St} {H : Hp} {Q : VK}
    (hta : ∀ R' : List V → Hp → Prop, (∀ H1, Ex H H1 → R' [.int n] H1) → ta σ H R') (hl : 0 ≤ n ∧ n < 100000)
    (hw : ∀ x, wipe ((wipe σ vs).set j (some x)) vs = wipe σ vs)
    (he : ∀ (i : Nat) H', (i : Int) < n → Ex H H' → ∀ Q' : VK, (∀ v H2, Ex H' H2 → R i v H2 → Q' v H2) → te ((wipe σ vs).set j (some (.int i))) H' Q')
    (hd : ∀ D H' ys, H D = none → Ex H H' → H' D = some (.lst ys) → Made R n.toNat ys H' → Q (.ref D) H') :
    tLc (iRng1 ta) (gName j) tYes te vs σ H Q := hta _ fun H1 e0 => ⟨n, rfl, by omega, by omega, fun D hD =>
  lc_range (lo := 0) (n := n.toNat) (Cw R H1 D) (Cw.zero hD) (fun i H' hi c => ⟨hw _, by
      show (if true = true then te ((wipe σ vs).set j (some (.int (0 + (i : Int))))) H' (fun y H4 => ∃ acc, H4 D = some (.lst acc) ∧ acc.length < sizeLine ∧ Cw R H1 D (i + 1) (upd H4 D (.lst (acc ++ [y])))) else Cw R H1 D (i + 1) H')
      rw [if_pos rfl, Int.zero_add]
      exact he i H' (by omega) (Ex.tr e0 c.2.1) _ fun v H2 e2 r => c.next S (by omega) e2 r⟩)
    fun H' c => by
      obtain ⟨h, e1, ys, h2, m⟩ := c
      exact hd D H' ys (fresh_back e0 h) (Ex.tr e0 e1) h2 m⟩
end
theorem cb1 {r : List V → Hp → VK → Prop} {ta : TE} {σ : L2.St} {H : Hp} {Q : VK} (h : ta σ H fun x H1 => r [x] H1 Q) : tCB r (tCons ta tNil) σ H Q := h
/-- values that don't ask for the heap -/
def RV (f : Nat → V) : Nat → V → Hp → Prop := fun i v _ => v = f i
theorem RV.stays (f : Nat → V) : Stays (RV f) := fun _ _ _ _ _ h => h
theorem RV.list {f : Nat → V} {n : Nat} {ys : List V} {H : Hp} (m : Made (RV f) n ys H) : ys = (List.range n).map f := by
  obtain ⟨hl, hr⟩ := m
  apply List.ext_getElem?
  intro i
  by_cases h : i < n
  · have e1 : ys[i]? = some ys[i] := List.getElem?_eq_getElem (by omega)
    rw [e1, hr i _ e1, List.getElem?_map, List.getElem?_range h]
    rfl
  · rw [List.getElem?_eq_none (by omega), List.getElem?_eq_none (by simp; omega)]
theorem range_bl {n : Nat} {f : Nat → Bool} : (List.range n).map (fun i => V.bl (f i)) = ((List.range n).map f).map V.bl := by rw [List.map_map]; rfl
theorem eqv_ints {a b c d : Int} : PyData.eqv (.tuple [.int a, .int b]) (.tuple [.int c, .int d]) = decide ((a, b) = (c, d)) := by
  simp only [PyData.eqv, PyData.eqvAll, Bool.and_true]
  by_cases h1 : a = c <;> by_cases h2 : b = d <;> simp [h1, h2]
theorem sh_ints (a b : Int) : SeqAt.shaped (.tuple [.int a, .int b]) = true := rfl
theorem Fr.dp {K : PySem.W.Frag} {H : Hp} {v : V} {x : Int × Int} (h : Fr K H v x) : Dp K H v (.tuple [.int x.1, .int x.2]) := by
  obtain ⟨a, rfl, h⟩ := h
  exact .tup h (.cons (.int _) (.cons (.int _) .nil))

/-! ### evenings.py -/
section
variable {P : Program} {w : World} {K : PySem.W.Frag} {mg : Str → Option Value} {base : Heap}
def spAreSums (K : PySem.W.Frag) : Sp := fun vs H Q _ => ∃ (a : Addr) (p q : Int) (xs : List Int), vs = [.ref a] ∧ Frs K H a p q xs ∧ Pq p q ∧ Sums xs ∧ ∀ H', Ex H H' → Q (.bl true) H'
theorem ok_aresums (T : Tx K mg) : FnOk P w K mg base CX0 4 T.aresums.f T.aresums.fd ["thing"] (spAreSums K) := by
  refine T.aresums.F.ok sc_aresums (fun vs H Q E h => ?_) (fun cdv A outer s H vs Q E hr h => ?_)
  · obtain ⟨_, _, _, _, rfl, _⟩ := h
    rfl
  · obtain ⟨a, p, q, xs, rfl, hF, hU, hS, k⟩ := h
    refine ⟨_, (pss_one (ps_ret (pe_and (pe_callB call_isi (by rfl) T.n_isinstance (by decide +kernel) (pa_cons (pv 0) (pa_cons (pe_bltn (v := .ty "tuple") (by rfl) T.n_tuple (by decide +kernel) rfl) pa_nil))) (pe_and (pe_chain op_le op_le pe_int (pe_callB call_len_seq (by rfl) T.n_len (by decide +kernel) (pa_cons (pv 0) pa_nil)) (pe_glob (v := .int 100) (by rfl) T.v_MOST_SIDE ⟨_, rfl⟩)) (pe_one (pe_callB (cr_all rfl) (by rfl) T.n_all (by decide +kernel) (pa_cons (pe_lc (own := [(("item" : Str), 1)]) (g := gName 1) (tt := tYes) (by rfl) sc_aresums.nd (pi_tup (pv 0)) (blkOk_by (own := [(("item" : Str), 1)]) (N := ["thing", "item"]) (sc := defScope s_aresums) (by decide +kernel)) (fun _ _ _ _ _ => (pg_name (i := 1) sc_aresums.nd (by rfl) (Or.inl rfl))) (fun _ _ _ _ _ => pts_nil) (fun _ _ _ _ _ => (pe_call (ok_isamount (P := P) (w := w) (base := base) T) (hr.mono (by decide)) (by rfl) T.g_isamount T.isamount.F.kp T.isamount.b .nil pass0 (pa_cons (pv 1) pa_nil)))) pa_nil))))))), ?_⟩
    obtain ⟨vs, hT, hl, hv⟩ := hF
    have h1 : (1 : Int) ≤ (vs.length : Int) := by
      have : xs.length ≠ 0 := fun q => hS.ne (List.length_eq_zero_iff.mp q)
      omega
    have h2 : (vs.length : Int) ≤ 100 := by have := hS.len; omega
    refine ⟨_, rfl, _, _, _, _, true, rfl, .ty _, tyX_tup hT, kit_ty (by decide +kernel), _, rfl, iteT ?_⟩
    refine ⟨_, rfl, a, _, rfl, .inr hT, _, _, rfl, rfl, _, rfl, ?_⟩
    rw [decide_eq_true h1]
    refine iteT ⟨_, _, rfl, rfl, _, rfl, ?_⟩
    rw [decide_eq_true h2]
    refine iteT ?_
    refine cb1 ?_
    refine comp_tup (K := K) (xs := vs) (RV fun _ => .bl true) (RV.stays _) (fun R' k => ⟨_, rfl, k a H (Ex.rf H) hT⟩) (by have := hS.len; omega) (fun x => rfl) ?_ ?_
    · intro i x H' hi e Q' k'
      obtain ⟨n, hn, hx⟩ := hv i x hi
      obtain ⟨n0, _⟩ := hS.at hn
      exact ⟨_, rfl, x, _, rfl, hx.mono e, F_top hU.p0 n0, F_pos hU.q0 n, F_cop hU.q0 n, k' _ _ (Ex.rf _) rfl⟩
    · intro D H' ys hD e hys m
      rw [RV.list m] at hys
      refine ⟨D, (List.range vs.length).map fun _ => true, rfl, SqL.of (by rw [List.map_map]; exact hys), ?_⟩
      have : ((List.range vs.length).map fun _ => true).all id = true := by simp
      rw [this]
      exact k H' e
/-- an evening -/
def EvAt (K : PySem.W.Frag) (C : Addr) (H : Hp) (e : Addr) (p q : Int) (a b : List Int) : Prop := ∃ (dx ao ad : Addr) (fs : List (Str × V)), H e = some (.ins C dx fs) ∧ fs.lookup ("owed" : Str) = some (.ref ao) ∧ fs.lookup ("due" : Str) = some (.ref ad) ∧ Frs K H ao p q a ∧ Frs K H ad p q b
theorem EvAt.monoT {K : PySem.W.Frag} {C : Addr} {H H' : Hp} {e : Addr} {p q : Int} {a b : List Int} (x : ExT H H') (h : EvAt K C H e p q a b) : EvAt K C H' e p q a b := by
  obtain ⟨dx, ao, ad, fs, h1, h2, h3, h4, h5⟩ := h
  exact ⟨dx, ao, ad, fs, x e _ h1 (fun l q => by cases q), h2, h3, h4.monoT x, h5.monoT x⟩
theorem EvAt.mono {K : PySem.W.Frag} {C : Addr} {H H' : Hp} {e : Addr} {p q : Int} {a b : List Int} (x : Ex H H') (h : EvAt K C H e p q a b) : EvAt K C H' e p q a b := h.monoT (ExT.of x)
def spEvInit (K : PySem.W.Frag) (C : Addr) : Sp := fun vs H Q _ => ∃ (x dx ao ad : Addr) (p q : Int) (a b : List Int), vs = [.ref x, .ref ao, .ref ad] ∧ H x = some (.ins C dx []) ∧ Frs K H ao p q a ∧ Frs K H ad p q b ∧ Pq p q ∧ Sums a ∧ Sums b ∧ a.sum = b.sum ∧
  ∀ H', (∀ c o, H c = some o → c ≠ x → H' c = some o) → EvAt K C H' x p q a b → Q .non H'
theorem od_ : ¬ (("owed" : Str) = "due") := by decide +kernel
theorem do_ : ¬ (("due" : Str) = "owed") := by decide +kernel
theorem ok_Eveninginit (T : Tx K mg) : FnOk P w K mg base CX0 5 T.Eveninginit.f T.Eveninginit.fd ["self", "owed", "due"] (spEvInit K T.CEvening) := by
  refine T.Eveninginit.F.ok sc_Eveninginit (fun vs H Q E h => ?_) (fun cdv A outer s H vs Q E hr h => ?_)
  · obtain ⟨_, _, _, _, _, _, _, _, rfl, _⟩ := h
    rfl
  · obtain ⟨x, dx, ao, ad, p, q, a, b, rfl, hx, ha, hb, hU, sa, sb, es, k⟩ := h
    refine ⟨_, (pss_cons (ps_if (pt_not (pt_val (pe_call (ok_aresums (P := P) (w := w) (base := base) T) (hr.mono (by decide)) (by rfl) T.g_aresums T.aresums.F.kp T.aresums.b .nil pass0 (pa_cons (pv 1) pa_nil)))) (pss_one ps_never) pss_nil)
      (pss_cons (ps_if (pt_not (pt_val (pe_call (ok_aresums (P := P) (w := w) (base := base) T) (hr.mono (by decide)) (by rfl) T.g_aresums T.aresums.F.kp T.aresums.b .nil pass0 (pa_cons (pv 2) pa_nil)))) (pss_one ps_never) pss_nil)
      (pss_cons (ps_if (pt_cmpR (op_neD hr.units) (pe_call (ok_totalof (P := P) (w := w) (base := base) T) (hr.mono (by decide)) (by rfl) T.g_totalof T.totalof.F.kp T.totalof.b .nil pass0 (pa_cons (pv 1) pa_nil)) (pe_call (ok_totalof (P := P) (w := w) (base := base) T) (hr.mono (by decide)) (by rfl) T.g_totalof T.totalof.F.kp T.totalof.b .nil pass0 (pa_cons (pv 2) pa_nil)) (nomark _)) (pss_one ps_never) pss_nil)
      (pss_cons (ps_fld (pv 0) (pv 1) (by rfl))
      (pss_one (ps_fld (pv 0) (pv 2) (by rfl))))))), ?_⟩
    refine ⟨_, rfl, ao, p, q, a, rfl, ha, hU, sa, fun H1 e1 => ⟨_, rfl, iteF ?_⟩⟩
    refine ⟨_, rfl, ad, p, q, b, rfl, hb.mono e1, hU, sb, fun H2 e2 => ⟨_, rfl, iteF ?_⟩⟩
    have e12 := Ex.tr e1 e2
    refine ⟨_, rfl, ao, p, q, a, rfl, ha.mono e12, hU, sa, fun v1 H3 e3 f1 => ?_⟩
    have e13 := Ex.tr e12 e3
    refine ⟨_, rfl, ad, p, q, b, rfl, hb.mono e13, hU, sb, fun v2 H4 e4 f2 => ?_⟩
    have e14 := Ex.tr e13 e4
    refine ⟨_, _, (f1.mono e4).dp, f2.dp, sh_ints _ _, sh_ints _ _, _, rfl, ?_⟩
    rw [eqv_ints, es, decide_eq_true rfl]
    refine iteF ?_
    have hx4 := e14 x _ hx
    refine ⟨_, rfl, _, rfl, x, _, dx, [], rfl, hx4, T.cl_Evening, T.a_Evening_owed, (by show 0 < 1000; decide), ?_⟩
    refine ⟨_, rfl, _, rfl, x, _, dx, _, rfl, upd_same, T.cl_Evening, T.a_Evening_due, (by show 1 < 1000; decide), ?_⟩
    rw [upd_upd]
    have keep : ∀ c o, H c = some o → c ≠ x → (upd H4 x (.ins T.CEvening dx (putF "due" (.ref ad) (putF "owed" (.ref ao) [])))) c = some o := fun c o hc n => by
      rw [upd_ne n]; exact e14 c o hc
    have fr : ∀ {c : Addr} {xs : List Int}, Frs K H4 c p q xs → Frs K (upd H4 x (.ins T.CEvening dx (putF "due" (.ref ad) (putF "owed" (.ref ao) [])))) c p q xs := fun {c xs} h => by
      obtain ⟨vs, h1, h2, h3⟩ := h
      have tt : ∀ {d : Addr} {ws : List V}, SqT K H4 d ws → SqT K (upd H4 x (.ins T.CEvening dx (putF "due" (.ref ad) (putF "owed" (.ref ao) [])))) d ws := fun {d ws} h => by
        rcases h with (h | ⟨o, h⟩) | h
        · exact .inl (.inl (by rw [upd_ne (ne_of h hx4 (by intro z; cases z))]; exact h))
        · exact .inl (.inr ⟨o, by rw [upd_ne (ne_of h hx4 (by intro z; cases z))]; exact h⟩)
        · exact .inr h
      refine ⟨vs, tt h1, h2, fun i v hv => ?_⟩
      obtain ⟨n, h4, d, rfl, h5⟩ := h3 i v hv
      exact ⟨n, h4, d, rfl, tt h5⟩
    refine k _ keep ⟨dx, ao, ad, _, upd_same, ?_, ?_, fr (ha.mono e14), fr (hb.mono e14)⟩
    · rw [lookup_putF, if_neg od_, lookup_putF, if_pos rfl]
    · rw [lookup_putF, if_pos rfl]
/-- an evening in -/
def spEv (K : PySem.W.Frag) (C : Addr) (A : Hp → VK → Int → Int → List Int → List Int → Prop) : Sp := fun vs H Q _ => ∃ (e : Addr) (p q : Int) (a b : List Int), vs = [.ref e] ∧ EvAt K C H e p q a b ∧ Pq p q ∧ Sums a ∧ Sums b ∧ a.sum = b.sum ∧ A H Q p q a b
theorem Frs.append {K : PySem.W.Frag} {H : Hp} {p q : Int} {a b : List Int} {va vb : List V} (ha : va.length = a.length) (hb : vb.length = b.length)
    (ia : ∀ (i : Nat) (v : V), va[i]? = some v → ∃ n, a[i]? = some n ∧ Fr K H v (F p q n)) (ib : ∀ (i : Nat) (v : V), vb[i]? = some v → ∃ n, b[i]? = some n ∧ Fr K H v (F p q n)) :
    (va ++ vb).length = (a ++ b).length ∧ ∀ (i : Nat) (v : V), (va ++ vb)[i]? = some v → ∃ n, (a ++ b)[i]? = some n ∧ Fr K H v (F p q n) := by
  refine ⟨by simp [ha, hb], fun i v hv => ?_⟩
  by_cases h : i < va.length
  · rw [List.getElem?_append_left h] at hv
    rw [List.getElem?_append_left (by omega)]
    exact ia i v hv
  · rw [List.getElem?_append_right (by omega)] at hv
    rw [List.getElem?_append_right (by omega), ← ha]
    exact ib _ v hv
theorem ok_allsums (T : Tx K mg) : FnOk P w K mg base CX0 1 T.allsums.f T.allsums.fd ["evening"] (spEv K T.CEvening fun H Q p q a b => ∀ c H', Ex H H' → Frs K H' c p q (a ++ b) → Q (.ref c) H') := by
  refine T.allsums.F.ok sc_allsums (fun vs H Q E h => ?_) (fun cdv A outer s H vs Q E hr h => ?_)
  · obtain ⟨_, _, _, _, _, rfl, _⟩ := h
    rfl
  · obtain ⟨e, p, q, a, b, rfl, hE, hU, sa, sb, es, k⟩ := h
    refine ⟨_, (pss_one (ps_ret (pe_op op_catA (pe_fld (pv 0) (by rfl)) (pe_fld (pv 0) (by rfl))))), ?_⟩
    obtain ⟨dx, ao, ad, fs, he, lo, ld, ⟨va, ta, la, ia⟩, ⟨vb, tb, lb, ib⟩⟩ := hE
    have na : va ≠ [] := fun z => sa.ne (List.length_eq_zero_iff.mp (by rw [← la, z]; rfl))
    have nb : vb ≠ [] := fun z => sb.ne (List.length_eq_zero_iff.mp (by rw [← lb, z]; rfl))
    refine ⟨_, rfl, e, _, dx, fs, _, rfl, he, T.cl_Evening, T.a_Evening_owed, lo, _, rfl, e, _, dx, fs, _, rfl, he, T.cl_Evening, T.a_Evening_due, ld, ao, ad, va, vb, rfl, rfl, ta, tb, ?_, fun z => absurd z na, fun _ z => absurd z nb, fun _ _ c hc => ?_⟩
    · have := sa.len
      have := sb.len
      exact Nat.le_trans (show va.length + vb.length ≤ 1000 by omega) (by decide)
    · have x : Ex H (upd H c (.tup (va ++ vb))) := Ex.nw hc
      have f := Frs.append (K := K) (H := upd H c (.tup (va ++ vb))) (p := p) (q := q) la lb (fun i v hv => by
        obtain ⟨n, h1, h2⟩ := ia i v hv
        exact ⟨n, h1, h2.mono x⟩) (fun i v hv => by
        obtain ⟨n, h1, h2⟩ := ib i v hv
        exact ⟨n, h1, h2.mono x⟩)
      exact k c _ x ⟨_, tup_of, f.1, f.2⟩
theorem ok_people (T : Tx K mg) : FnOk P w K mg base CX0 1 T.people.f T.people.fd ["evening"] (spEv K T.CEvening fun H Q _ _ a b => Q (.int (a.length + b.length : Nat)) H) := by
  refine T.people.F.ok sc_people (fun vs H Q E h => ?_) (fun cdv A outer s H vs Q E hr h => ?_)
  · obtain ⟨_, _, _, _, _, rfl, _⟩ := h
    rfl
  · obtain ⟨e, p, q, a, b, rfl, hE, hU, sa, sb, es, k⟩ := h
    refine ⟨_, (pss_one (ps_ret (pe_op op_add (pe_callB call_len_seq (by rfl) T.n_len (by decide +kernel) (pa_cons (pe_fld (pv 0) (by rfl)) pa_nil)) (pe_callB call_len_seq (by rfl) T.n_len (by decide +kernel) (pa_cons (pe_fld (pv 0) (by rfl)) pa_nil))))), ?_⟩
    obtain ⟨dx, ao, ad, fs, he, lo, ld, ⟨va, ta, la, ia⟩, ⟨vb, tb, lb, ib⟩⟩ := hE
    refine ⟨_, rfl, e, _, dx, fs, _, rfl, he, T.cl_Evening, T.a_Evening_owed, lo, ao, va, rfl, .inr ta, _, rfl, e, _, dx, fs, _, rfl, he, T.cl_Evening, T.a_Evening_due, ld, ad, vb, rfl, .inr tb, _, _, rfl, rfl, ?_⟩
    show Q (.int ((va.length : Int) + (vb.length : Int))) H
    rw [la, lb, ← Int.natCast_add]
    exact k
theorem Sums.both {a b : List Int} (sa : Sums a) (sb : Sums b) : a ++ b ≠ [] ∧ ∀ x ∈ a ++ b, 0 < x ∧ x < 2 ^ 64 := by
  refine ⟨fun z => sa.ne (List.append_eq_nil_iff.mp z).1, fun x hx => ?_⟩
  rcases List.mem_append.mp hx with h | h
  · exact ⟨sa.pos x h, sa.sm x h⟩
  · exact ⟨sb.pos x h, sb.sm x h⟩
theorem ok_measure (T : Tx K mg) : FnOk P w K mg base CX0 4 T.measure.f T.measure.fd ["evening"] (spEv K T.CEvening fun H Q p q a b => RetF K H Q (F p q (gAll (a ++ b)))) := by
  refine T.measure.F.ok sc_measure (fun vs H Q E h => ?_) (fun cdv A outer s H vs Q E hr h => ?_)
  · obtain ⟨_, _, _, _, _, rfl, _⟩ := h
    rfl
  · obtain ⟨e, p, q, a, b, rfl, hE, hU, sa, sb, es, k⟩ := h
    refine ⟨_, (pss_one (ps_ret (pe_call (ok_measureof (P := P) (w := w) (base := base) T) (hr.mono (by decide)) (by rfl) T.g_measureof T.measureof.F.kp T.measureof.b .nil pass0 (pa_cons (pe_call (ok_allsums (P := P) (w := w) (base := base) T) (hr.mono (by decide)) (by rfl) T.g_allsums T.allsums.F.kp T.allsums.b .nil pass0 (pa_cons (pv 0) pa_nil)) pa_nil)))), ?_⟩
    refine ⟨_, rfl, e, p, q, a, b, rfl, hE, hU, sa, sb, es, fun c H1 e1 hc => ?_⟩
    obtain ⟨n0, nb⟩ := Sums.both sa sb
    exact ⟨c, p, q, _, rfl, hc, hU, n0, nb, fun v H2 e2 hf => k v H2 (Ex.tr e1 e2) hf⟩
end
end K70
end
section
set_option Elab.async false
set_option linter.all false
set_option maxRecDepth 100000
set_option maxHeartbeats 4000000
namespace K70
open PySem PySem.Spec PyProof.Rows L2
open Evl (Ex ex_l ex_t fresh_back)
/-! ### queues.py: sums, units -/
theorem Sm.one {n : Nat} (h : n ≠ 0) : Sm n 1 := Nat.one_lt_two_pow h
section
variable {σ : L2.St} {H : Hp} {D : Ends} {ta tb te : TE} {t2 : TS} {g : TG}
theorem rt2 (h : ta σ H fun x H1 => tb σ H1 fun y H2 => [x, y].length ≤ sizeLine ∧ ∀ p, H2 p = none → D.rt (.ref p) (upd H2 p (.tup [x, y]))) : tRet (tTup (tCons ta (tCons tb tNil))) D σ H := h
theorem sq_asg (h : te σ H fun x H1 => g x σ H1 (t2 D)) : tSeq (tAsg te g) t2 D σ H := h
theorem gn {i : Nat} {v : V} {Q : L2.St → Hp → Prop} (h : Q (σ.set i (some v)) H) : gName i v σ H Q := h
theorem rt1 (h : te σ H D.rt) : tRet te D σ H := h
end
/-- a field, within a comprehension -/
theorem pe_fldK {X : Cx} {K : PySem.W.Frag} (hK : X.K = K) {e : Expr} {f : Str} {pos : PySem.Pos} {ta : TE} (ha : PE X e ta) (hb : attributeBase e f X.env (eval e X.env) = eval e X.env) : PE X (.Attribute e f pos) (tFld K ta f) := by
  subst hK
  exact pe_fld ha hb
theorem range_ints {a : List Int} {n : Nat} {f : Int → Int} (hn : n = a.length) : (List.range n).map (fun i => V.int (f (at0 a i))) = (a.map f).map V.int := by
  subst hn
  conv => rhs; rw [← map_range (a := a)]
  rw [List.map_map, List.map_map]
  rfl
theorem at0_get {a : List Int} {i : Nat} {n : Int} (h : a[i]? = some n) : at0 a i = n := by
  have hi := (List.getElem?_eq_some_iff.mp h).1
  rw [at0_of hi] at h
  exact Option.some.inj h
theorem gAll_pos {xs : List Int} (h : ∀ x ∈ xs, 0 < x ∧ x < 2 ^ 64) : 0 < gAll xs := by
  cases xs with
  | nil => decide
  | cons x r => exact gcdL_pos r x (h x List.mem_cons_self).1
theorem gAll_dvd {xs : List Int} : ∀ x ∈ xs, gAll xs ∣ x := by
  cases xs with
  | nil => intro x h; cases h
  | cons x r =>
    intro y hy
    obtain ⟨h1, h2⟩ := gcdL_dvd r x
    rcases List.mem_cons.mp hy with rfl | h
    · exact h1
    · exact h2 y h
theorem gAll_sm {xs : List Int} (h : ∀ x ∈ xs, 0 < x ∧ x < 2 ^ 64) : Sm 100 (gAll xs) := by
  have p := gAll_pos h
  refine (small_of (n := 64) (by omega) ?_).mono (by decide)
  cases xs with
  | nil => decide
  | cons x r =>
    have := gcdL_le r x (h x List.mem_cons_self).1
    have := (h x List.mem_cons_self).2
    show gcdL x r < 2 ^ 64
    omega
section
variable {P : Program} {w : World} {K : PySem.W.Frag} {mg : Str → Option Value} {base : Heap}
/-- a pair of new lists of whole numbers -/
def RetLL (K : PySem.W.Frag) (H : Hp) (Q : VK) (a b : List Int) : Prop := ∀ c l1 l2 H', Ex H H' → SqT K H' c [.ref l1, .ref l2] → H l1 = none → H l2 = none → l1 ≠ l2 → H' l1 = some (.lst (a.map V.int)) → H' l2 = some (.lst (b.map V.int)) → Q (.ref c) H'
abbrev spWholes (K : PySem.W.Frag) (C : Addr) : Sp := spEv K C fun H Q p q a b => RetLL K H Q (a.map (· / gAll (a ++ b))) (b.map (· / gAll (a ++ b)))
theorem over_unit {p q : Int} (hU : Pq p q) {n g : Int} (hg : 0 < g) (hd : g ∣ n) : (overI (F p q n) (F p q g)).1 = n / g := by
  rw [over_F hU.p0 hU.q0 n hg, red_whole hg hd]
theorem ok_wholesums (T : Tx K mg) : FnOk P w K mg base CX0 5 T.wholesums.f T.wholesums.fd ["evening"] (spWholes K T.CEvening) := by
  refine T.wholesums.F.ok sc_wholesums (fun vs H Q E h => ?_) (fun cdv A outer s H vs Q E hr h => ?_)
  · obtain ⟨_, _, _, _, _, rfl, _⟩ := h
    rfl
  · obtain ⟨e, p, q, a, b, rfl, hE, hU, sa, sb, es, k⟩ := h
    refine ⟨_, (pss_cons (ps_set (i := 1) sc_wholesums.nd (by rfl) (Or.inr rfl) (pe_call (ok_measure (P := P) (w := w) (base := base) T) (hr.mono (by decide)) (by rfl) T.g_measure T.measure.F.kp T.measure.b .nil pass0 (pa_cons (pv 0) pa_nil)))
      (pss_one (ps_ret (pe_tup (pa_cons (pe_lc (own := [(("item" : Str), 2)]) (g := gName 2) (tt := tYes) (by rfl) sc_wholesums.nd (pi_tup (pe_fld (pv 0) (by rfl))) (blkOk_by (own := [(("item" : Str), 2)]) (N := ["evening", "unit", "item"]) (sc := defScope s_wholesums) (by decide +kernel)) (fun _ _ _ _ _ => (pg_name (i := 2) sc_wholesums.nd (by rfl) (Or.inl rfl))) (fun _ _ _ _ _ => pts_nil) (fun _ _ _ _ _ => (pe_ix (r := rIxT K) ix_tup (pe_call (ok_over (P := P) (w := w) (base := base) T) (hr.mono (by decide)) (by rfl) T.g_over T.over.F.kp T.over.b .nil pass0 (pa_cons (pv 2) (pa_cons (pv 1) pa_nil))) pe_int (fun _ _ => rfl)))) (pa_cons (pe_lc (own := [(("item" : Str), 2)]) (g := gName 2) (tt := tYes) (by rfl) sc_wholesums.nd (pi_tup (pe_fld (pv 0) (by rfl))) (blkOk_by (own := [(("item" : Str), 2)]) (N := ["evening", "unit", "item"]) (sc := defScope s_wholesums) (by decide +kernel)) (fun _ _ _ _ _ => (pg_name (i := 2) sc_wholesums.nd (by rfl) (Or.inl rfl))) (fun _ _ _ _ _ => pts_nil) (fun _ _ _ _ _ => (pe_ix (r := rIxT K) ix_tup (pe_call (ok_over (P := P) (w := w) (base := base) T) (hr.mono (by decide)) (by rfl) T.g_over T.over.F.kp T.over.b .nil pass0 (pa_cons (pv 2) (pa_cons (pv 1) pa_nil))) pe_int (fun _ _ => rfl)))) pa_nil)))))), ?_⟩
    obtain ⟨nb0, nb⟩ := Sums.both sa sb
    refine ⟨_, rfl, e, p, q, a, b, rfl, hE, hU, sa, sb, es, fun u H1 e1 hu => ?_⟩
    generalize hg : gAll (a ++ b) = g at *
    have g0 : 0 < g := hg ▸ gAll_pos nb
    have gs : Sm 100 g := hg ▸ gAll_sm nb
    have gd : ∀ x ∈ a ++ b, g ∣ x := hg ▸ gAll_dvd
    have hE1 := hE.mono e1
    obtain ⟨dx, ao, ad, fs, he, lo, ld, ⟨va, ta, la, ia⟩, ⟨vb, tb, lb, ib⟩⟩ := hE1
    refine gn ?_
    dsimp only
    refine rt2 (comp_tup (K := K) (xs := va) (RV fun i => .int (at0 a i / g)) (RV.stays _) (fun R' k' => ⟨_, rfl, e, _, dx, fs, _, rfl, he, T.cl_Evening, T.a_Evening_owed, lo, k' ao H1 (Ex.rf H1) ta⟩) (by have := sa.len; omega) (fun x => rfl) ?_ ?_)
    · intro i x H' hi e' Q' k'
      obtain ⟨n, hn, hx⟩ := ia i x hi
      obtain ⟨n0, ns⟩ := sa.at hn
      refine ⟨_, rfl, _, rfl, x, u, _, _, rfl, hx.mono e', hu.mono e', hU.smF ns, hU.smF gs, F_top hU.p0 g0, fun v H2 e2 hf => ?_⟩
      obtain ⟨c, rfl, hc⟩ := hf
      refine ⟨c, _, 0, _, rfl, rfl, hc, rfl, k' _ _ e2 ?_⟩
      show V.int _ = V.int _
      rw [over_unit hU g0 (gd n (List.mem_append_left _ (List.mem_of_getElem? hn))), at0_get hn]
    · intro D H2 ys hD e2 hys m
      rw [RV.list m] at hys
      have hE2 := hE.mono (Ex.tr e1 e2)
      have e12 := Ex.tr e1 e2
      refine comp_tup (K := K) (xs := vb) (RV fun i => .int (at0 b i / g)) (RV.stays _) (fun R' k' => ⟨_, rfl, e, _, dx, fs, _, rfl, e2 e _ he, T.cl_Evening, T.a_Evening_due, ld, k' ad H2 (Ex.rf H2) (ex_t e2 tb)⟩) (by have := sb.len; omega) (fun x => rfl) ?_ ?_
      · intro i x H' hi e' Q' k'
        obtain ⟨n, hn, hx⟩ := ib i x hi
        obtain ⟨n0, ns⟩ := sb.at hn
        refine ⟨_, rfl, _, rfl, x, u, _, _, rfl, hx.mono (Ex.tr e2 e'), hu.mono (Ex.tr e2 e'), hU.smF ns, hU.smF gs, F_top hU.p0 g0, fun v H3 e3 hf => ?_⟩
        obtain ⟨c, rfl, hc⟩ := hf
        refine ⟨c, _, 0, _, rfl, rfl, hc, rfl, k' _ _ e3 ?_⟩
        show V.int _ = V.int _
        rw [over_unit hU g0 (gd n (List.mem_append_right _ (List.mem_of_getElem? hn))), at0_get hn]
      · intro D2 H3 ys2 hD2 e3 hys2 m2
        rw [RV.list m2] at hys2
        refine ⟨by show 2 ≤ sizeLine; decide, fun c hc => ?_⟩
        have ec : Ex H3 (upd H3 c (.tup [.ref D, .ref D2])) := Ex.nw hc
        have hD3 := e3 D _ hys
        refine k c D D2 _ (Ex.tr e12 (Ex.tr e3 ec)) tup_of (fresh_back e1 hD) (fresh_back e12 hD2) ?_ ?_ ?_
        · intro z
          rw [z] at hys
          rw [hys] at hD2
          cases hD2
        · exact (ec D _ hD3).trans (congrArg (fun z => some (HO.lst z)) (range_ints (f := (· / g)) la))
        · exact (ec D2 _ hys2).trans (congrArg (fun z => some (HO.lst z)) (range_ints (f := (· / g)) lb))
theorem ok_unitsof (T : Tx K mg) : FnOk P w K mg base CX0 4 T.unitsof.f T.unitsof.fd ["evening"] (spWholes K T.CEvening) := by
  refine T.unitsof.F.ok sc_unitsof (fun vs H Q E h => ?_) (fun cdv A outer s H vs Q E hr h => ?_)
  · obtain ⟨_, _, _, _, _, rfl, _⟩ := h
    rfl
  · obtain ⟨e, p, q, a, b, rfl, hE, hU, sa, sb, es, k⟩ := h
    refine ⟨_, (pss_cons (ps_set (i := 1) sc_unitsof.nd (by rfl) (Or.inr rfl) (pe_call (ok_measureof (P := P) (w := w) (base := base) T) (hr.mono (by decide)) (by rfl) T.g_measureof T.measureof.F.kp T.measureof.b .nil pass0 (pa_cons (pe_call (ok_allsums (P := P) (w := w) (base := base) T) (hr.mono (by decide)) (by rfl) T.g_allsums T.allsums.F.kp T.allsums.b .nil pass0 (pa_cons (pv 0) pa_nil)) pa_nil)))
      (pss_one (ps_ret (pe_tup (pa_cons (pe_lc (own := [(("item" : Str), 2)]) (g := gName 2) (tt := tYes) (by rfl) sc_unitsof.nd (pi_tup (pe_fld (pv 0) (by rfl))) (blkOk_by (own := [(("item" : Str), 2)]) (N := ["evening", "unit", "item"]) (sc := defScope s_unitsof) (by decide +kernel)) (fun _ _ _ _ _ => (pg_name (i := 2) sc_unitsof.nd (by rfl) (Or.inl rfl))) (fun _ _ _ _ _ => pts_nil) (fun _ _ _ _ _ => (pe_ix (r := rIxT K) ix_tup (pe_call (ok_over (P := P) (w := w) (base := base) T) (hr.mono (by decide)) (by rfl) T.g_over T.over.F.kp T.over.b .nil pass0 (pa_cons (pv 2) (pa_cons (pv 1) pa_nil))) pe_int (fun _ _ => rfl)))) (pa_cons (pe_lc (own := [(("item" : Str), 2)]) (g := gName 2) (tt := tYes) (by rfl) sc_unitsof.nd (pi_tup (pe_fld (pv 0) (by rfl))) (blkOk_by (own := [(("item" : Str), 2)]) (N := ["evening", "unit", "item"]) (sc := defScope s_unitsof) (by decide +kernel)) (fun _ _ _ _ _ => (pg_name (i := 2) sc_unitsof.nd (by rfl) (Or.inl rfl))) (fun _ _ _ _ _ => pts_nil) (fun _ _ _ _ _ => (pe_ix (r := rIxT K) ix_tup (pe_call (ok_over (P := P) (w := w) (base := base) T) (hr.mono (by decide)) (by rfl) T.g_over T.over.F.kp T.over.b .nil pass0 (pa_cons (pv 2) (pa_cons (pv 1) pa_nil))) pe_int (fun _ _ => rfl)))) pa_nil)))))), ?_⟩
    obtain ⟨nb0, nb⟩ := Sums.both sa sb
    refine ⟨_, rfl, e, p, q, a, b, rfl, hE, hU, sa, sb, es, fun cc H0 e0 hcc => ?_⟩
    refine ⟨cc, p, q, _, rfl, hcc, hU, nb0, nb, fun u H1 e01 hu => ?_⟩
    have e1 := Ex.tr e0 e01
    generalize hg : gAll (a ++ b) = g at *
    have g0 : 0 < g := hg ▸ gAll_pos nb
    have gs : Sm 100 g := hg ▸ gAll_sm nb
    have gd : ∀ x ∈ a ++ b, g ∣ x := hg ▸ gAll_dvd
    have hE1 := hE.mono e1
    obtain ⟨dx, ao, ad, fs, he, lo, ld, ⟨va, ta, la, ia⟩, ⟨vb, tb, lb, ib⟩⟩ := hE1
    refine gn ?_
    dsimp only
    refine rt2 (comp_tup (K := K) (xs := va) (RV fun i => .int (at0 a i / g)) (RV.stays _) (fun R' k' => ⟨_, rfl, e, _, dx, fs, _, rfl, he, T.cl_Evening, T.a_Evening_owed, lo, k' ao H1 (Ex.rf H1) ta⟩) (by have := sa.len; omega) (fun x => rfl) ?_ ?_)
    · intro i x H' hi e' Q' k'
      obtain ⟨n, hn, hx⟩ := ia i x hi
      obtain ⟨n0, ns⟩ := sa.at hn
      refine ⟨_, rfl, _, rfl, x, u, _, _, rfl, hx.mono e', hu.mono e', hU.smF ns, hU.smF gs, F_top hU.p0 g0, fun v H2 e2 hf => ?_⟩
      obtain ⟨c, rfl, hc⟩ := hf
      refine ⟨c, _, 0, _, rfl, rfl, hc, rfl, k' _ _ e2 ?_⟩
      show V.int _ = V.int _
      rw [over_unit hU g0 (gd n (List.mem_append_left _ (List.mem_of_getElem? hn))), at0_get hn]
    · intro D H2 ys hD e2 hys m
      rw [RV.list m] at hys
      have e12 := Ex.tr e1 e2
      refine comp_tup (K := K) (xs := vb) (RV fun i => .int (at0 b i / g)) (RV.stays _) (fun R' k' => ⟨_, rfl, e, _, dx, fs, _, rfl, e2 e _ he, T.cl_Evening, T.a_Evening_due, ld, k' ad H2 (Ex.rf H2) (ex_t e2 tb)⟩) (by have := sb.len; omega) (fun x => rfl) ?_ ?_
      · intro i x H' hi e' Q' k'
        obtain ⟨n, hn, hx⟩ := ib i x hi
        obtain ⟨n0, ns⟩ := sb.at hn
        refine ⟨_, rfl, _, rfl, x, u, _, _, rfl, hx.mono (Ex.tr e2 e'), hu.mono (Ex.tr e2 e'), hU.smF ns, hU.smF gs, F_top hU.p0 g0, fun v H3 e3 hf => ?_⟩
        obtain ⟨c, rfl, hc⟩ := hf
        refine ⟨c, _, 0, _, rfl, rfl, hc, rfl, k' _ _ e3 ?_⟩
        show V.int _ = V.int _
        rw [over_unit hU g0 (gd n (List.mem_append_right _ (List.mem_of_getElem? hn))), at0_get hn]
      · intro D2 H3 ys2 hD2 e3 hys2 m2
        rw [RV.list m2] at hys2
        refine ⟨by show 2 ≤ sizeLine; decide, fun c hc => ?_⟩
        have ec : Ex H3 (upd H3 c (.tup [.ref D, .ref D2])) := Ex.nw hc
        have hD3 := e3 D _ hys
        refine k c D D2 _ (Ex.tr e12 (Ex.tr e3 ec)) tup_of (fresh_back e1 hD) (fresh_back e12 hD2) ?_ ?_ ?_
        · intro z
          rw [z] at hys
          rw [hys] at hD2
          cases hD2
        · exact (ec D _ hD3).trans (congrArg (fun z => some (HO.lst z)) (range_ints (f := (· / g)) la))
        · exact (ec D2 _ hys2).trans (congrArg (fun z => some (HO.lst z)) (range_ints (f := (· / g)) lb))
/-- what is left of a sum -/
def spRest (K : PySem.W.Frag) : Sp := fun vs H Q _ => ∃ (v u : V) (p q n m : Int), vs = [v, u] ∧ Fr K H v (F p q n) ∧ Fr K H u (F p q m) ∧ Pq p q ∧ 0 < n ∧ Sm 100 n ∧ 0 < m ∧ Sm 100 m ∧ RetF K H Q (F p q (n % m))
theorem ok_restby (T : Tx K mg) : FnOk P w K mg base CX0 4 T.restby.f T.restby.fd ["sum_here", "amount"] (spRest K) := by
  refine T.restby.F.ok sc_restby (fun vs H Q E h => ?_) (fun cdv A outer s H vs Q E hr h => ?_)
  · obtain ⟨_, _, _, _, _, _, rfl, _⟩ := h
    rfl
  · obtain ⟨v, u, p, q, n, m, rfl, hv, hu, hU, n0, ns, m0, ms, k⟩ := h
    refine ⟨_, (pss_cons (ps_set (i := 2) sc_restby.nd (by rfl) (Or.inl rfl) (pe_call (ok_over (P := P) (w := w) (base := base) T) (hr.mono (by decide)) (by rfl) T.g_over T.over.F.kp T.over.b .nil pass0 (pa_cons (pv 0) (pa_cons (pv 1) pa_nil))))
      (pss_one (ps_ret (pe_call (ok_minus (P := P) (w := w) (base := base) T) (hr.mono (by decide)) (by rfl) T.g_minus T.minus.F.kp T.minus.b .nil pass0 (pa_cons (pv 0) (pa_cons (pe_call (ok_times (P := P) (w := w) (base := base) T) (hr.mono (by decide)) (by rfl) T.g_times T.times.F.kp T.times.b .nil pass0 (pa_cons (pe_call (ok_whole (P := P) (w := w) (base := base) T) (hr.mono (by decide)) (by rfl) T.g_whole T.whole.F.kp T.whole.b .nil pass0 (pa_cons (pe_op op_fdivW (pe_ix ix_tup (pv 2) pe_int (fun _ _ => rfl)) (pe_ix ix_tup (pv 2) pe_int (fun _ _ => rfl))) pa_nil)) (pa_cons (pv 1) pa_nil))) pa_nil)))))), ?_⟩
    refine ⟨_, rfl, _, rfl, v, u, _, _, rfl, hv, hu, hU.smF ns, hU.smF ms, F_top hU.p0 m0, fun v1 H1 e1 f1 => ?_⟩
    rw [over_F hU.p0 hU.q0 n m0] at f1
    obtain ⟨c, rfl, hc⟩ := f1
    have rl := red_le (t := n) m0
    have rp := red_pos (t := n) m0
    refine ⟨_, rfl, _, rfl, c, _, 0, _, rfl, rfl, hc, rfl, _, rfl, c, _, 1, _, rfl, rfl, hc, rfl, _, _, rfl, rfl, wide_div rp (ms.le rl.2) (by decide) (by decide), ?_⟩
    refine ⟨_, rfl, fun v2 H2 e2 f2 => ?_⟩
    rw [red_floor m0] at f2
    have q0 : 0 ≤ n / m := Int.ediv_nonneg (by omega) (by omega)
    have ql : n / m ≤ n := Int.ediv_le_self m (by omega)
    have e12 := Ex.tr e1 e2
    have qs : Sm 100 (n / m) := ns.le (by omega)
    refine ⟨_, rfl, v2, u, _, _, rfl, f2, hu.mono e12, ⟨qs.mono (by decide), Sm.one (by decide), (by decide : (0 : Int) < 1)⟩, hU.smF ms, trivial, fun v3 H3 e3 f3 => ?_⟩
    rw [times_F hU.q0] at f3
    have e13 := Ex.tr e12 e3
    have md := Int.mul_ediv_add_emod n m
    have mc := Int.mul_comm (n / m) m
    have mn := Int.emod_nonneg n (show m ≠ 0 by omega)
    have pn : 0 ≤ n / m * m := Int.mul_nonneg q0 (by omega)
    have ps : Sm 100 (n / m * m) := ns.le (by omega)
    refine ⟨v, v3, _, _, rfl, hv.mono e13, f3, hU.smF ns, hU.smF ps, trivial, fun v4 H4 e4 f4 => ?_⟩
    rw [minus_F hU.q0, show n - n / m * m = n % m by omega] at f4
    exact k v4 H4 (Ex.tr e13 e4) f4
/-- all of one side are one, and leave one rest of all of the other side -/
def fitsU (a b : List Int) : Bool := (a.all fun x => x == at0 a 0) && (b.all fun y => y % at0 a 0 == at0 b 0 % at0 a 0)
theorem all_at0 {a : List Int} {n : Nat} {f : Int → Bool} (hn : n = a.length) : ((List.range n).map fun i => f (at0 a i)).all id = a.all f := by
  subst hn
  conv => rhs; rw [← map_range (a := a)]
  rw [List.all_map, List.all_map]
  rfl
def spFits (K : PySem.W.Frag) : Sp := fun vs H Q _ => ∃ (ca cb : Addr) (p q : Int) (a b : List Int), vs = [.ref ca, .ref cb] ∧ Frs K H ca p q a ∧ Frs K H cb p q b ∧ Pq p q ∧ Sums a ∧ Sums b ∧ ∀ H', Ex H H' → Q (.bl (fitsU a b)) H'
theorem F_eq {p q : Int} (hU : Pq p q) {m n : Int} : decide (F p q m = F p q n) = (m == n) := by
  by_cases h : m = n
  · subst h; simp
  · have : ¬ F p q m = F p q n := fun e => h (F_inj hU.p0 hU.q0 e)
    rw [decide_eq_false this]; exact (beq_eq_false_iff_ne.mpr h).symm
theorem ok_fitsunit (T : Tx K mg) : FnOk P w K mg base CX0 5 T.fitsunit.f T.fitsunit.fd ["ones", "others"] (spFits K) := by
  refine T.fitsunit.F.ok sc_fitsunit (fun vs H Q E h => ?_) (fun cdv A outer s H vs Q E hr h => ?_)
  · obtain ⟨_, _, _, _, _, _, rfl, _⟩ := h
    rfl
  · obtain ⟨ca, cb, p, q, a, b, rfl, ⟨va, ta, la, ia⟩, ⟨vb, tb, lb, ib⟩, hU, sa, sb, k⟩ := h
    refine ⟨_, (pss_cons (ps_set (i := 2) sc_fitsunit.nd (by rfl) (Or.inr rfl) (pe_lc (own := [(("item" : Str), 3)]) (g := gName 3) (tt := tYes) (by rfl) sc_fitsunit.nd (pi_tup (pv 1)) (blkOk_by (own := [(("item" : Str), 3)]) (N := ["ones", "others", "rests", "item", "rest"]) (sc := defScope s_fitsunit) (by decide +kernel)) (fun _ _ _ _ _ => (pg_name (i := 3) sc_fitsunit.nd (by rfl) (Or.inl rfl))) (fun _ _ _ _ _ => pts_nil) (fun _ _ _ _ _ => (pe_call (ok_restby (P := P) (w := w) (base := base) T) (hr.mono (by decide)) (by rfl) T.g_restby T.restby.F.kp T.restby.b .nil pass0 (pa_cons (pv 3) (pa_cons (pe_ix (r := rIxT K) ix_tup (pv 0) pe_int (fun _ _ => rfl)) pa_nil))))))
      (pss_one (ps_ret (pe_and (pe_callB (cr_all rfl) (by rfl) T.n_all (by decide +kernel) (pa_cons (pe_lc (own := [(("item" : Str), 3)]) (g := gName 3) (tt := tYes) (by rfl) sc_fitsunit.nd (pi_tup (pv 0)) (blkOk_by (own := [(("item" : Str), 3)]) (N := ["ones", "others", "rests", "item", "rest"]) (sc := defScope s_fitsunit) (by decide +kernel)) (fun _ _ _ _ _ => (pg_name (i := 3) sc_fitsunit.nd (by rfl) (Or.inl rfl))) (fun _ _ _ _ _ => pts_nil) (fun _ _ _ _ _ => (pe_cmpR (r := rEqD K) (op_eqD hr.units) (pv 3) (pe_ix (r := rIxT K) ix_tup (pv 0) pe_int (fun _ _ => rfl)) (nomark _)))) pa_nil)) (pe_one (pe_callB (cr_all rfl) (by rfl) T.n_all (by decide +kernel) (pa_cons (pe_lc (own := [(("rest" : Str), 4)]) (g := gName 4) (tt := tYes) (by rfl) sc_fitsunit.nd (pi_list (pv 2)) (blkOk_by (own := [(("rest" : Str), 4)]) (N := ["ones", "others", "rests", "item", "rest"]) (sc := defScope s_fitsunit) (by decide +kernel)) (fun _ _ _ _ _ => (pg_name (i := 4) sc_fitsunit.nd (by rfl) (Or.inl rfl))) (fun _ _ _ _ _ => pts_nil) (fun _ _ _ _ _ => (pe_cmpR (r := rEqD K) (op_eqD hr.units) (pv 4) (pe_ix (r := rIxL K) ix_list (pv 2) pe_int (fun _ _ => rfl)) (nomark _)))) pa_nil))))))), ?_⟩
    obtain ⟨va0, ha0⟩ : ∃ v, va[0]? = some v := by
      have : 0 < va.length := by
        rw [la]
        exact List.length_pos_iff.mpr sa.ne
      exact ⟨va[0], List.getElem?_eq_getElem this⟩
    obtain ⟨a0, hna0, hfa0⟩ := ia 0 va0 ha0
    obtain ⟨a0p, a0s⟩ := sa.at hna0
    have ea0 := at0_get hna0
    have ixa : ∀ H', Ex H H' → atI va 0 = some va0 := fun _ _ => atI_nat (j := 0) ha0
    refine sq_asg (comp_tup (K := K) (xs := vb) (fun i v H => Fr K H v (F p q (at0 b i % a0))) (fun i v H H' e h => h.monoT e) (fun R' k' => ⟨_, rfl, k' cb H (Ex.rf H) tb⟩) (by have := sb.len; omega) (fun x => rfl) ?_ ?_)
    · intro i x H' hi e' Q' k'
      obtain ⟨n, hn, hx⟩ := ib i x hi
      obtain ⟨n0, ns⟩ := sb.at hn
      refine ⟨_, rfl, _, rfl, ca, va, 0, _, rfl, rfl, ex_t e' ta, ixa H' e', ?_⟩
      refine ⟨x, va0, p, q, n, a0, rfl, hx.mono e', hfa0.mono e', hU, n0, ns, a0p, a0s, fun v H2 e2 f => k' v H2 e2 ?_⟩
      rw [at0_get hn]; exact f
    · intro D H1 ys hD e1 hys m
      -- all([item == ones[0] for item in ones])
      refine cb1 (comp_tup (K := K) (xs := va) (RV fun i => .bl (at0 a i == a0)) (RV.stays _) (fun R' k' => ⟨_, rfl, k' ca H1 (Ex.rf H1) (ex_t e1 ta)⟩) (by have := sa.len; omega) (fun x => rfl) ?_ ?_)
      · intro i x H' hi e' Q' k'
        obtain ⟨n, hn, hx⟩ := ia i x hi
        have e1' := Ex.tr e1 e'
        refine ⟨_, rfl, _, rfl, ca, va, 0, _, rfl, rfl, ex_t e1' ta, ixa H' e1', _, _, (hx.mono e1').dp, (hfa0.mono e1').dp, sh_ints _ _, sh_ints _ _, k' _ _ (Ex.rf _) ?_⟩
        show V.bl _ = V.bl _
        rw [eqv_ints, at0_get hn]
        exact congrArg V.bl (F_eq hU)
      · intro D2 H2 ys2 hD2 e2 hys2 m2
        rw [RV.list m2] at hys2
        refine ⟨D2, (List.range va.length).map fun i => (at0 a i == a0), rfl, SqL.of (by rw [List.map_map]; exact hys2), _, rfl, ?_⟩
        rw [all_at0 (f := fun x => x == a0) la]
        cases hA : a.all fun x => x == a0 with
        | false =>
          refine iteF (k H2 (Ex.tr e1 e2) |> fun z => ?_)
          unfold fitsU at z
          rw [ea0, hA, Bool.false_and] at z
          exact z
        | true =>
          refine iteT ?_
          have e12 := Ex.tr e1 e2
          have hys' := e2 D _ hys
          obtain ⟨yl, yr⟩ := m
          obtain ⟨y0, hy0⟩ : ∃ v, ys[0]? = some v := by
            have : 0 < ys.length := by
              rw [yl, lb]
              exact List.length_pos_iff.mpr sb.ne
            exact ⟨ys[0], List.getElem?_eq_getElem this⟩
          have fy0 := yr 0 y0 hy0
          refine cb1 (comp_list (K := K) (xs := ys) (RV fun i => .bl (at0 b i % a0 == at0 b 0 % a0)) (RV.stays _) (fun R' k' => ⟨_, rfl, k' D H2 (Ex.rf H2) (SqL.of hys')⟩) (by have := sb.len; omega) (fun x => rfl) ?_ ?_)
          · intro i x H' hi e' Q' k'
            have fx := yr i x hi
            have e2' := Ex.tr e2 e'
            refine ⟨_, rfl, _, rfl, D, ys, 0, _, rfl, rfl, SqL.of (e2' D _ hys), atI_nat (j := 0) hy0, _, _, (fx.mono e2').dp, (fy0.mono e2').dp, sh_ints _ _, sh_ints _ _, k' _ _ (Ex.rf _) ?_⟩
            show V.bl _ = V.bl _
            rw [eqv_ints]
            exact congrArg V.bl (F_eq hU)
          · intro D3 H3 ys3 hD3 e3 hys3 m3
            rw [RV.list m3] at hys3
            refine ⟨D3, (List.range ys.length).map fun i => (at0 b i % a0 == at0 b 0 % a0), rfl, SqL.of (by rw [List.map_map]; exact hys3), ?_⟩
            rw [all_at0 (f := fun y => y % a0 == at0 b 0 % a0) (by rw [yl, lb])]
            have z := k H3 (Ex.tr e12 e3)
            unfold fitsU at z
            rw [ea0, hA, Bool.true_and] at z
            exact z
/-- the unit by the law's own rests -/
def unitOf (a b : List Int) : Option (Str × Int) := if fitsU a b = true then some ("owed", at0 a 0) else if fitsU b a = true then some ("due", at0 b 0) else none
/-- v is None or a pair of a side and an amount -/
def UnV (K : PySem.W.Frag) (H : Hp) (p q : Int) (v : V) : Option (Str × Int) → Prop
  | none => v = .non
  | some (s, n) => ∃ c f, v = .ref c ∧ SqT K H c [.str s, f] ∧ Fr K H f (F p q n)
theorem UnV.mono {K : PySem.W.Frag} {H H' : Hp} {p q : Int} {v : V} {o : Option (Str × Int)} (e : Ex H H') (h : UnV K H p q v o) : UnV K H' p q v o := by
  cases o with
  | none => exact h
  | some z =>
    obtain ⟨c, f, rfl, h1, h2⟩ := h
    exact ⟨c, f, rfl, ex_t e h1, h2.mono e⟩
theorem ok_queueunit (T : Tx K mg) : FnOk P w K mg base CX0 6 T.queueunit.f T.queueunit.fd ["evening"] (spEv K T.CEvening fun H Q p q a b => ∀ v H', Ex H H' → UnV K H' p q v (unitOf a b) → Q v H') := by
  refine T.queueunit.F.ok sc_queueunit (fun vs H Q E h => ?_) (fun cdv A outer s H vs Q E hr h => ?_)
  · obtain ⟨_, _, _, _, _, rfl, _⟩ := h
    rfl
  · obtain ⟨e, p, q, a, b, rfl, hE, hU, sa, sb, es, k⟩ := h
    refine ⟨_, (pss_cons (ps_if (pt_val (pe_call (ok_fitsunit (P := P) (w := w) (base := base) T) (hr.mono (by decide)) (by rfl) T.g_fitsunit T.fitsunit.F.kp T.fitsunit.b .nil pass0 (pa_cons (pe_fld (pv 0) (by rfl)) (pa_cons (pe_fld (pv 0) (by rfl)) pa_nil)))) (pss_one (ps_ret (pe_tup (pa_cons pe_str (pa_cons (pe_ix ix_tup (pe_fld (pv 0) (by rfl)) pe_int (fun _ _ => rfl)) pa_nil))))) pss_nil)
      (pss_one (ps_ret (pe_ifExp (pt_val (pe_call (ok_fitsunit (P := P) (w := w) (base := base) T) (hr.mono (by decide)) (by rfl) T.g_fitsunit T.fitsunit.F.kp T.fitsunit.b .nil pass0 (pa_cons (pe_fld (pv 0) (by rfl)) (pa_cons (pe_fld (pv 0) (by rfl)) pa_nil)))) (pe_tup (pa_cons pe_str (pa_cons (pe_ix ix_tup (pe_fld (pv 0) (by rfl)) pe_int (fun _ _ => rfl)) pa_nil))) pe_non)))), ?_⟩
    obtain ⟨dx, ao, ad, fs, he, lo, ld, fa, fb⟩ := hE
    have first : ∀ {c : Addr} {xs : List Int} {H' : Hp}, Frs K H' c p q xs → Sums xs → ∃ vs v, SqT K H' c vs ∧ atI vs 0 = some v ∧ Fr K H' v (F p q (at0 xs 0)) := fun {c xs H'} ⟨vs, t, l, i⟩ sx => by
      have : 0 < vs.length := by
        rw [l]
        exact List.length_pos_iff.mpr sx.ne
      have h0 : vs[0]? = some vs[0] := List.getElem?_eq_getElem this
      obtain ⟨n, h1, h2⟩ := i 0 _ h0
      exact ⟨vs, _, t, atI_nat (j := 0) h0, by rw [at0_get h1]; exact h2⟩
    refine ⟨_, rfl, e, _, dx, fs, _, rfl, he, T.cl_Evening, T.a_Evening_owed, lo, _, rfl, e, _, dx, fs, _, rfl, he, T.cl_Evening, T.a_Evening_due, ld, ao, ad, p, q, a, b, rfl, fa, fb, hU, sa, sb, fun H1 e1 => ⟨_, rfl, ?_⟩⟩
    have he1 := e1 e _ he
    cases h1 : fitsU a b with
    | true =>
      refine iteT ?_
      obtain ⟨vs, v, t, h0, hf⟩ := first (fa.mono e1) sa
      refine ⟨_, rfl, e, _, dx, fs, _, rfl, he1, T.cl_Evening, T.a_Evening_owed, lo, ao, vs, 0, v, rfl, rfl, t, h0, by show 2 ≤ sizeLine; decide, fun c hc => ?_⟩
      have ec : Ex H1 (upd H1 c (.tup [.str "owed", v])) := Ex.nw hc
      refine k _ _ (Ex.tr e1 ec) ?_
      unfold unitOf
      rw [if_pos h1]
      exact ⟨c, v, rfl, tup_of, hf.mono ec⟩
    | false =>
      refine iteF ?_
      refine ⟨_, rfl, e, _, dx, fs, _, rfl, he1, T.cl_Evening, T.a_Evening_due, ld, _, rfl, e, _, dx, fs, _, rfl, he1, T.cl_Evening, T.a_Evening_owed, lo, ad, ao, p, q, b, a, rfl, fb.mono e1, fa.mono e1, hU, sb, sa, fun H2 e2 => ⟨_, rfl, ?_⟩⟩
      have he2 := e2 e _ he1
      have e12 := Ex.tr e1 e2
      cases h2 : fitsU b a with
      | true =>
        refine iteT ?_
        obtain ⟨vs, v, t, h0, hf⟩ := first (fb.mono e12) sb
        refine ⟨_, rfl, e, _, dx, fs, _, rfl, he2, T.cl_Evening, T.a_Evening_due, ld, ad, vs, 0, v, rfl, rfl, t, h0, by show 2 ≤ sizeLine; decide, fun c hc => ?_⟩
        have ec : Ex H2 (upd H2 c (.tup [.str "due", v])) := Ex.nw hc
        refine k _ _ (Ex.tr e12 ec) ?_
        unfold unitOf
        rw [if_neg (by rw [h1]; decide), if_pos h2]
        exact ⟨c, v, rfl, tup_of, hf.mono ec⟩
      | false =>
        refine iteF ?_
        refine k _ _ e12 ?_
        unfold unitOf
        rw [if_neg (by rw [h1]; decide), if_neg (by rw [h2]; decide)]
        rfl
def spMost : Sp := fun vs H Q _ => ∃ m n : Int, vs = [.int m, .int n] ∧ m ≤ n ∧ Q .non H
theorem ok_checkmost (T : Tx K mg) : FnOk P w K mg base CX0 1 T.checkmost.f T.checkmost.fd ["many", "most"] spMost := by
  refine T.checkmost.F.ok sc_checkmost (fun vs H Q E h => ?_) (fun cdv A outer s H vs Q E hr h => ?_)
  · obtain ⟨_, _, rfl, _⟩ := h
    rfl
  · obtain ⟨m, n, rfl, hmn, k⟩ := h
    refine ⟨_, (pss_one (ps_if (pt_cmpR op_gt (pv 0) (pv 1) (nomark _)) (pss_one ps_never) pss_nil)), ?_⟩
    refine ⟨_, rfl, _, rfl, _, _, rfl, rfl, _, rfl, ?_⟩
    rw [decide_eq_false (show ¬ n < m by omega)]
    exact iteF k
def spCheckPeople (K : PySem.W.Frag) (C : Addr) : Sp := fun vs H Q _ => ∃ (e : Addr) (p q : Int) (a b : List Int) (n : Int), vs = [.ref e, .int n] ∧ EvAt K C H e p q a b ∧ Pq p q ∧ Sums a ∧ Sums b ∧ a.sum = b.sum ∧ ((a.length + b.length : Nat) : Int) ≤ n ∧ Q .non H
theorem ok_checkpeople (T : Tx K mg) : FnOk P w K mg base CX0 2 T.checkpeople.f T.checkpeople.fd ["evening", "most"] (spCheckPeople K T.CEvening) := by
  refine T.checkpeople.F.ok sc_checkpeople (fun vs H Q E h => ?_) (fun cdv A outer s H vs Q E hr h => ?_)
  · obtain ⟨_, _, _, _, _, _, rfl, _⟩ := h
    rfl
  · obtain ⟨e, p, q, a, b, n, rfl, hE, hU, sa, sb, es, hn, k⟩ := h
    refine ⟨_, (pss_one (ps_expr (pe_call (ok_checkmost (P := P) (w := w) (base := base) T) (hr.mono (by decide)) (by rfl) T.g_checkmost T.checkmost.F.kp T.checkmost.b .nil pass0 (pa_cons (pe_call (ok_people (P := P) (w := w) (base := base) T) (hr.mono (by decide)) (by rfl) T.g_people T.people.F.kp T.people.b .nil pass0 (pa_cons (pv 0) pa_nil)) (pa_cons (pv 1) pa_nil))))), ?_⟩
    exact ⟨_, rfl, e, p, q, a, b, rfl, hE, hU, sa, sb, es, _, rfl, _, _, rfl, hn, k⟩
end
end K70
end
section
set_option Elab.async false
set_option linter.all false
set_option maxRecDepth 100000
set_option maxHeartbeats 4000000
namespace K70
open PySem PySem.Spec PyProof.Rows L2
open Evl (Ex ex_l ex_t fresh_back)
/-! ### the people's numbers -/
/-- what each person owes, or, below 0, is due, in units of the measure -/
def wOf (a b : List Int) (i : Nat) : Int := if i < a.length then at0 a i / gAll (a ++ b) else -(at0 b (i - a.length) / gAll (a ++ b))
theorem people_of {a b : List Int} (sa : Sums a) (sb : Sums b) (es : a.sum = b.sum) : People a b (gAll (a ++ b)) (wOf a b) := by
  obtain ⟨_, nb⟩ := Sums.both sa sb
  have g0 := gAll_pos nb
  refine ⟨g0, sa.pos, sb.pos, es, fun i x hx => ?_, fun j y hy => ?_⟩
  · have hi := (List.getElem?_eq_some_iff.mp hx).1
    unfold wOf
    rw [if_pos hi, at0_get hx]
    exact (Int.mul_ediv_cancel' (gAll_dvd x (List.mem_append_left _ (List.mem_of_getElem? hx)))).symm
  · unfold wOf
    rw [if_neg (by omega), show a.length + j - a.length = j by omega, at0_get hy, Int.mul_neg, Int.neg_neg]
    exact (Int.mul_ediv_cancel' (gAll_dvd y (List.mem_append_right _ (List.mem_of_getElem? hy)))).symm
theorem wOf_list {a b : List Int} : a.map (· / gAll (a ++ b)) ++ (b.map (· / gAll (a ++ b))).map (fun x => -x) = (List.range (a.length + b.length)).map (wOf a b) := by
  apply List.ext_getElem?
  intro i
  by_cases h : i < a.length
  · rw [List.getElem?_append_left (by simpa using h), List.getElem?_map, List.getElem?_map, List.getElem?_range (by omega), at0_of h]
    simp [wOf, h]
  · by_cases h2 : i < a.length + b.length
    · rw [List.getElem?_append_right (by simpa using h), List.getElem?_map, List.getElem?_map, List.getElem?_map, List.getElem?_range h2, List.length_map, at0_of (show i - a.length < b.length by omega)]
      simp [wOf, h]
    · rw [List.getElem?_eq_none (by simp; omega), List.getElem?_eq_none (by simp; omega)]
theorem bit_test {lot place : Nat} : decide (V.int (Builtin.bitAnd ((lot : Int) / 2 ^ (place : Int).toNat) 1) = V.int 0) = !lot.testBit place := by
  have e : (lot : Int) / 2 ^ (place : Int).toNat = ((lot / 2 ^ place : Nat) : Int) := by
    rw [Int.toNat_natCast]; simp
  rw [e, bitAnd_pp (Int.natCast_nonneg _) (by decide), Int.toNat_natCast]
  have : Nat.testBit lot place = decide ((lot / 2 ^ place) &&& (1 : Int).toNat = 1) := by
    rw [Nat.testBit_eq_decide_div_mod_eq]
    show decide (lot / 2 ^ place % 2 = 1) = decide ((lot / 2 ^ place) &&& 1 = 1)
    rw [Nat.and_one_is_mod]
  rw [this]
  have h2 : (lot / 2 ^ place) &&& (1 : Int).toNat = 0 ∨ (lot / 2 ^ place) &&& (1 : Int).toNat = 1 := by
    show (lot / 2 ^ place) &&& 1 = 0 ∨ (lot / 2 ^ place) &&& 1 = 1
    rw [Nat.and_one_is_mod]; omega
  rcases h2 with h | h <;> rw [h] <;> decide
theorem bit_set {lot place : Nat} : Builtin.bitOr (lot : Int) (1 * 2 ^ (place : Int).toNat) = ((lot ||| 2 ^ place : Nat) : Int) := by
  have e : (1 : Int) * 2 ^ (place : Int).toNat = ((2 ^ place : Nat) : Int) := by
    rw [Int.toNat_natCast]; simp
  rw [e, Bits.bitOr_pp (Int.natCast_nonneg _) (Int.natCast_nonneg _), Int.toNat_natCast, Int.toNat_natCast]
/-! ### a comprehension over a range with a test -/
def CwF (f : Nat → Bool) (v : Nat → V) (H1 : Hp) (D : Addr) (i : Nat) (H : Hp) : Prop := H1 D = none ∧ Ex H1 H ∧ H D = some (.lst (((List.range i).filter f).map v))
theorem comp_rangeF (f : Nat → Bool) (v : Nat → V) {lo hi : Int} {n : Nat} {j : Nat} {ta : TA} {tt : TT} {te : TE} {vs : List Nat} {σ : L2.St} {H : Hp} {Q : VK}
    (hta : ∀ R' : List V → Hp → Prop, R' [.int lo, .int hi] H → ta σ H R') (h0 : 0 ≤ lo) (h1 : lo ≤ hi) (h2 : hi < 100000) (hn : n = (hi - lo).toNat)
    (hw : ∀ x, wipe ((wipe σ vs).set j (some x)) vs = wipe σ vs)
    (ht : ∀ (i : Nat) H', i < n → ∀ Q' : Bool → Hp → Prop, Q' (f i) H' → tt ((wipe σ vs).set j (some (.int (lo + i)))) H' Q')
    (he : ∀ (i : Nat) H', i < n → ∀ Q' : VK, Q' (v i) H' → te ((wipe σ vs).set j (some (.int (lo + i)))) H' Q')
    (hd : ∀ D H', H D = none → Ex H H' → H' D = some (.lst (((List.range n).filter f).map v)) → Q (.ref D) H') :
    tLc (iRng2 ta) (gName j) tt te vs σ H Q := hta _ ⟨lo, hi, rfl, ⟨by omega, by omega, by omega, by omega⟩, fun D hD => by
  rw [← hn]
  refine lc_range (lo := lo) (n := n) (CwF f v H D) ⟨hD, Ex.nw hD, upd_same⟩ (fun i H' hi c => ⟨hw _, ht i H' hi _ ?_⟩) fun H' c => hd D H' c.1 c.2.1 c.2.2
  obtain ⟨c1, c2, c3⟩ := c
  cases hf : f i with
  | false =>
    refine iteF ⟨c1, c2, ?_⟩
    rw [List.range_succ, List.filter_append, List.filter_cons, if_neg (by rw [hf]; decide)]
    simpa using c3
  | true =>
    refine iteT (he i H' hi _ ⟨_, c3, ?_, c1, Ex.mt c2 c1, ?_⟩)
    · rw [List.length_map]
      have := List.length_filter_le f (List.range i)
      rw [List.length_range] at this
      exact Evl.sz_lt (by omega)
    · rw [upd_same, List.range_succ, List.filter_append, List.filter_cons, if_pos hf]
      simp⟩

/-! ### Joints -/
theorem ne_mE : ¬ (("many" : Str) = "everyone") := by decide +kernel
theorem ne_mg : ¬ (("many" : Str) = "gaps") := by decide +kernel
theorem ne_mb : ¬ (("many" : Str) = "everybody") := by decide +kernel
theorem ne_Eg : ¬ (("everyone" : Str) = "gaps") := by decide +kernel
theorem ne_Eb : ¬ (("everyone" : Str) = "everybody") := by decide +kernel
theorem ne_gb : ¬ (("gaps" : Str) = "everybody") := by decide +kernel
def NoM (fs : List (Str × V)) : Prop := ∀ x : Str, x ≠ "many" → x ≠ "everyone" → x ≠ "gaps" → x ≠ "everybody" → fs.lookup x = none
/-- the joints of an evening of m owers and n takers -/
def JAt (C : Addr) (H : Hp) (j : Addr) (m n : Nat) (w : Nat → Int) : Prop := ∃ (dx gp : Addr) (fs : List (Str × V)) (G : List Int), H j = some (.ins C dx fs) ∧ fs.lookup ("many" : Str) = some (.int m) ∧ fs.lookup ("everyone" : Str) = some (.int (m + n : Nat)) ∧
  fs.lookup ("gaps" : Str) = some (.ref gp) ∧ fs.lookup ("everybody" : Str) = some (.int (2 ^ (m + n) - 1 : Nat)) ∧ NoM fs ∧ H gp = some (.lst (G.map V.int)) ∧ Gaps w (m + n) G
theorem JAt.mono {C : Addr} {H H' : Hp} {j : Addr} {m n : Nat} {w : Nat → Int} (e : Ex H H') (h : JAt C H j m n w) : JAt C H' j m n w := by
  obtain ⟨dx, gp, fs, G, h1, h2, h3, h4, h5, h6, h7, h8⟩ := h
  exact ⟨dx, gp, fs, G, e _ _ h1, h2, h3, h4, h5, h6, e _ _ h7, h8⟩
theorem Gaps.at {w : Nat → Int} {n : Nat} {G : List Int} (h : Gaps w n G) {k : Nat} (hk : k < 2 ^ n) : (G.map V.int)[k]? = some (.int (ms w n k)) := by
  rw [List.getElem?_map, h.2 k hk]; rfl
theorem pow14 {n : Nat} (h : n ≤ 14) : 2 ^ n ≤ 16384 := Nat.le_trans (Nat.pow_le_pow_right (by decide) h) (by decide)
section
variable {P : Program} {w : World} {K : PySem.W.Frag} {mg : Str → Option Value} {base : Heap}
def spJInit (K : PySem.W.Frag) (CE CJ : Addr) : Sp := fun vs H Q _ => ∃ (x dx e : Addr) (p q : Int) (a b : List Int), vs = [.ref x, .ref e] ∧ H x = some (.ins CJ dx []) ∧ EvAt K CE H e p q a b ∧ Pq p q ∧ Sums a ∧ Sums b ∧ a.sum = b.sum ∧ a.length + b.length ≤ 14 ∧
  ∀ H', (∀ c o, H c = some o → c ≠ x → H' c = some o) → JAt CJ H' x a.length b.length (wOf a b) → Q .non H'
theorem ok_Jointsinit (T : Tx K mg) : FnOk P w K mg base CX0 6 T.Jointsinit.f T.Jointsinit.fd ["self", "evening"] (spJInit K T.CEvening T.CJoints) := by
  refine T.Jointsinit.F.ok sc_Jointsinit (fun vs H Q E h => ?_) (fun cdv A outer s H vs Q E hr h => ?_)
  · obtain ⟨_, _, _, _, _, _, _, rfl, _⟩ := h
    rfl
  · obtain ⟨x, dx, e, p, q, a, b, rfl, hx, hE, hU, sa, sb, es, hn, k⟩ := h
    refine ⟨_, (pss_cons (ps_asg (pe_call (ok_wholesums (P := P) (w := w) (base := base) T) (hr.mono (by decide)) (by rfl) T.g_wholesums T.wholesums.F.kp T.wholesums.b .nil pass0 (pa_cons (pv 1) pa_nil)) (pg_tup (by rfl) (pgs_cons (pg_name (i := 2) sc_Jointsinit.nd (by rfl) (Or.inl rfl)) (pgs_cons (pg_name (i := 3) sc_Jointsinit.nd (by rfl) (Or.inl rfl)) pgs_nil))))
      (pss_cons (ps_fld (pv 0) (pe_callB call_len_seq (by rfl) T.n_len (by decide +kernel) (pa_cons (pv 2) pa_nil)) (by rfl))
      (pss_cons (ps_fld (pv 0) (pe_op op_add (pe_callB call_len_seq (by rfl) T.n_len (by decide +kernel) (pa_cons (pv 2) pa_nil)) (pe_callB call_len_seq (by rfl) T.n_len (by decide +kernel) (pa_cons (pv 3) pa_nil))) (by rfl))
      (pss_cons (ps_fld (pv 0) (pe_lst (pa_cons pe_int pa_nil)) (by rfl))
      (pss_cons (ps_for PassesOwn.never rfl (pi_list (pe_op op_cat (pv 2) (pe_lc (own := [(("item" : Str), 5)]) (g := gName 5) (tt := tYes) (by rfl) sc_Jointsinit.nd (pi_list (pv 3)) (blkOk_by (own := [(("item" : Str), 5)]) (N := ["self", "evening", "owed", "due", "number", "item", "gap"]) (sc := defScope s_Jointsinit) (by decide +kernel)) (fun _ _ _ _ _ => (pg_name (i := 5) sc_Jointsinit.nd (by rfl) (Or.inl rfl))) (fun _ _ _ _ _ => pts_nil) (fun _ _ _ _ _ => (pe_un un_neg (pv 5)))))) (pg_name (i := 4) sc_Jointsinit.nd (by rfl) (Or.inr rfl)) (pss_one (ps_fld (pv 0) (pe_op op_cat (pe_fld (pv 0) (by rfl)) (pe_lc (own := [(("gap" : Str), 6)]) (g := gName 6) (tt := tYes) (by rfl) sc_Jointsinit.nd (pi_list (pe_fld (pv 0) (by rfl))) (blkOk_by (own := [(("gap" : Str), 6)]) (N := ["self", "evening", "owed", "due", "number", "item", "gap"]) (sc := defScope s_Jointsinit) (by decide +kernel)) (fun _ _ _ _ _ => (pg_name (i := 6) sc_Jointsinit.nd (by rfl) (Or.inl rfl))) (fun _ _ _ _ _ => pts_nil) (fun _ _ _ _ _ => (pe_op op_add (pv 6) (pv 4))))) (by rfl))))
      (pss_one (ps_fld (pv 0) (pe_op op_sub (pe_callB call_len_seq (by rfl) T.n_len (by decide +kernel) (pa_cons (pe_fld (pv 0) (by rfl)) pa_nil)) pe_int) (by rfl)))))))), ?_⟩
    refine ⟨_, rfl, e, p, q, a, b, rfl, hE, hU, sa, sb, es, fun c l1 l2 H1 e1 hc n1 n2 n12 h1 h2 => ?_⟩
    have hx1 := e1 x _ hx
    have x1 : x ≠ l1 := ne_of_none hx n1
    have x2 : x ≠ l2 := ne_of_none hx n2
    refine ⟨c, _, rfl, hc, rfl, _, _, rfl, _, _, rfl, rfl, ?_⟩
    -- self.many, self.everyone
    refine ⟨_, rfl, l1, _, rfl, .inl (SqL.of h1), _, rfl, x, _, dx, [], rfl, hx1, T.cl_Joints, T.a_Joints_many, (by show 0 < 1000; decide), ?_⟩
    refine ⟨_, rfl, l1, _, rfl, .inl (SqL.of (by rw [upd_ne x1.symm]; exact h1)), _, rfl, l2, _, rfl, .inl (SqL.of (by rw [upd_ne x2.symm]; exact h2)), _, _, rfl, rfl, _, rfl, x, _, dx, _, rfl, upd_same, T.cl_Joints, T.a_Joints_everyone, (by show 1 < 1000; decide), ?_⟩
    rw [upd_upd, List.length_map, List.length_map, List.length_map, List.length_map]
    -- self.gaps = [0]
    refine ⟨Nat.le_trans (show 1 ≤ 1000 by decide) (by decide), fun g0 hg0 => ?_⟩
    have xg0 : x ≠ g0 := fun z => by rw [z, upd_same] at hg0; cases hg0
    have g0n : H1 g0 = Option.none := by rw [upd_ne xg0.symm] at hg0; exact hg0
    refine ⟨_, rfl, x, _, dx, _, rfl, (by rw [upd_ne xg0, upd_same]), T.cl_Joints, T.a_Joints_gaps, (by show 2 < 1000; decide), ?_⟩
    generalize hf0 : putF "gaps" (V.ref g0) (putF "everyone" (V.int (↑a.length + ↑b.length)) (putF "many" (V.int ↑a.length) [])) = f0
    have q1 : f0.lookup ("many" : Str) = some (.int a.length) := by rw [← hf0, lookup_putF, if_neg ne_mg, lookup_putF, if_neg ne_mE, lookup_putF, if_pos rfl]
    have q2 : f0.lookup ("everyone" : Str) = some (.int (a.length + b.length : Nat)) := by rw [← hf0, lookup_putF, if_neg ne_Eg, lookup_putF, if_pos rfl, Int.natCast_add]
    have q3 : f0.lookup ("gaps" : Str) = some (.ref g0) := by rw [← hf0, lookup_putF, if_pos rfl]
    have q4 : NoM f0 := fun y y1 y2 y3 y4 => by rw [← hf0, lookup_putF, if_neg y3, lookup_putF, if_neg y2, lookup_putF, if_neg y1]; rfl
    have q5 : f0.length ≤ 10 := by rw [← hf0]; exact Nat.le_trans (length_putF _ _ _) (Nat.succ_le_succ (Nat.le_trans (length_putF _ _ _) (Nat.succ_le_succ (Nat.le_trans (length_putF _ _ _) (by show 1 ≤ 8; decide)))))
    generalize hH2 : upd (upd (upd H1 x (.ins T.CJoints dx (putF "everyone" (V.int (↑a.length + ↑b.length)) (putF "many" (V.int ↑a.length) [])))) g0 (.lst [.int 0])) x (.ins T.CJoints dx f0) = H2
    have e12 : ∀ c o, H1 c = some o → c ≠ x → H2 c = some o := fun c o hc nc => by
      rw [← hH2, upd_ne nc, upd_ne (ne_of_none hc g0n), upd_ne nc]; exact hc
    have hx2 : H2 x = some (.ins T.CJoints dx f0) := by rw [← hH2, upd_same]
    have hg2 : H2 g0 = some (.lst (([0] : List Int).map V.int)) := by rw [← hH2, upd_ne xg0.symm, upd_same]; rfl
    have h12 : H2 l1 = some (.lst ((a.map (· / gAll (a ++ b))).map V.int)) := e12 _ _ h1 x1.symm
    have h22 : H2 l2 = some (.lst ((b.map (· / gAll (a ++ b))).map V.int)) := e12 _ _ h2 x2.symm
    have keep2 : ∀ c o, H c = some o → c ≠ x → H2 c = some o := fun c o hc nc => e12 c o (e1 c o hc) nc
    -- owed + [-item for item in due]
    refine ⟨_, rfl, ?_⟩
    refine comp_list (K := K) (xs := (b.map (· / gAll (a ++ b))).map V.int) (RV fun i => .int (-(at0 (b.map (· / gAll (a ++ b))) i))) (RV.stays _) (fun R' k' => ⟨_, rfl, k' l2 H2 (Ex.rf H2) (SqL.of h22)⟩) (by simp; omega) (fun y => rfl) ?_ ?_
    · intro i y H' hi e' Q' k'
      rw [List.getElem?_map] at hi
      obtain ⟨z, hz, rfl⟩ := Option.map_eq_some_iff.mp hi
      refine ⟨_, rfl, _, rfl, k' _ _ (Ex.rf _) ?_⟩
      show V.int _ = V.int _
      rw [at0_get hz]
    · intro D H3 ys hD e23 hys m
      rw [RV.list m] at hys
      have hD3 : H3 D = some (.lst (((b.map (· / gAll (a ++ b))).map (fun z => -z)).map V.int)) := hys.trans (congrArg (fun z => some (HO.lst z)) (range_ints (f := fun z => -z) (by simp)))
      refine ⟨l1, D, _, _, rfl, rfl, e23 _ _ h12, hD3, (by simp only [List.length_map]; exact Nat.le_trans (show a.length + b.length ≤ 1000 by omega) (by decide)), fun L hL => ?_⟩
      rw [← List.map_append, wOf_list]
      have eL : Ex H3 (upd H3 L (.lst (((List.range (a.length + b.length)).map (wOf a b)).map V.int))) := Ex.nw hL
      have xL : x ≠ L := ne_of_none (e23 _ _ hx2) hL
      have keepL : ∀ c o, H c = some o → c ≠ x → (upd H3 L (.lst (((List.range (a.length + b.length)).map (wOf a b)).map V.int))) c = some o := fun c o hc nc => eL c o (e23 c o (keep2 c o hc nc))
      refine ⟨L, rfl, ⟨_, SqL.of upd_same⟩, for_list (K := K) (a := L) (xs := ((List.range (a.length + b.length)).map (wOf a b)).map V.int)
        (fun i σ H' => ∃ (gp : Addr) (fs : List (Str × V)) (G : List Int) (y : Option V), σ = [some (.ref x), some (.ref e), some (.ref l1), some (.ref l2), y, none, none] ∧ H' x = some (.ins T.CJoints dx fs) ∧ fs.lookup ("many" : Str) = some (.int a.length) ∧ fs.lookup ("everyone" : Str) = some (.int (a.length + b.length : Nat)) ∧
          fs.lookup ("gaps" : Str) = some (.ref gp) ∧ NoM fs ∧ fs.length ≤ 10 + i ∧ H' gp = some (.lst (G.map V.int)) ∧ Gaps (wOf a b) i G ∧ H' L = some (.lst (((List.range (a.length + b.length)).map (wOf a b)).map V.int)) ∧ ∀ c o, H c = some o → c ≠ x → H' c = some o) ?_ ?_ ?_ ?_⟩
      · exact ⟨g0, f0, [0], none, rfl, eL _ _ (e23 _ _ hx2), q1, q2, q3, q4, by omega, eL _ _ (e23 _ _ hg2), Gaps.zero, upd_same, keepL⟩
      · rintro i σ H' _ ⟨_, _, _, _, _, _, _, _, _, _, _, _, _, h, _⟩
        exact SqL.of h
      · rintro i y σ H' hi ⟨gp, fs, G, yo, rfl, hx', r1, r2, r3, r4, r5, hG, gG, hL', kp⟩
        rw [List.getElem?_map, List.getElem?_map] at hi
        obtain ⟨z, hz, rfl⟩ := Option.map_eq_some_iff.mp hi
        obtain ⟨i', hi', rfl⟩ := Option.map_eq_some_iff.mp hz
        have hil : i < a.length + b.length := by have := (List.getElem?_eq_some_iff.mp hi').1; simpa using this
        rw [List.getElem?_range hil] at hi'
        cases Option.some.inj hi'
        have p14 := pow14 (n := i) (by omega)
        refine ⟨_, rfl, x, _, dx, fs, _, rfl, hx', T.cl_Joints, T.a_Joints_gaps, r3, ?_⟩
        refine comp_list (K := K) (xs := G.map V.int) (RV fun k => .int (at0 G k + wOf a b i)) (RV.stays _) (fun R' k' => ⟨_, rfl, x, _, dx, fs, _, rfl, hx', T.cl_Joints, T.a_Joints_gaps, r3, k' gp H' (Ex.rf H') (SqL.of hG)⟩) (by rw [List.length_map, gG.1]; omega) (fun y => rfl) ?_ ?_
        · intro k y H4 hk e4 Q' k'
          rw [List.getElem?_map] at hk
          obtain ⟨z, hz, rfl⟩ := Option.map_eq_some_iff.mp hk
          refine ⟨_, rfl, _, rfl, _, _, rfl, rfl, k' _ _ (Ex.rf _) ?_⟩
          show V.int _ = V.int _
          rw [at0_get hz]
        · intro D4 H4 ys4 hD4 e4 hys4 m4
          rw [RV.list m4] at hys4
          have hD4' : H4 D4 = some (.lst ((G.map (· + wOf a b i)).map V.int)) := hys4.trans (congrArg (fun z => some (HO.lst z)) (range_ints (f := (· + wOf a b i)) (by simp)))
          refine ⟨gp, D4, _, _, rfl, rfl, e4 _ _ hG, hD4', (by simp only [List.length_map, gG.1]; exact Nat.le_trans (show 2 ^ i + 2 ^ i ≤ 100000 by omega) (by decide)), fun g4 hg4 => ?_⟩
          rw [← List.map_append]
          have hx4 := e4 _ _ hx'
          have xg4 : x ≠ g4 := ne_of_none hx4 hg4
          refine ⟨_, rfl, x, _, dx, fs, rfl, (by rw [upd_ne xg4]; exact hx4), T.cl_Joints, T.a_Joints_gaps, by omega, ?_⟩
          have Lx : L ≠ x := xL.symm
          refine ⟨g4, _, _, _, rfl, upd_same, ?_, ?_, ?_, ?_, ?_, (by rw [upd_ne xg4.symm, upd_same]), gG.step, (by rw [upd_ne Lx, upd_ne (ne_of_none (e4 _ _ hL') hg4)]; exact e4 _ _ hL'), fun c o hc nc => ?_⟩
          · rw [lookup_putF, if_neg ne_mg]; exact r1
          · rw [lookup_putF, if_neg ne_Eg]; exact r2
          · rw [lookup_putF, if_pos rfl]
          · intro y y1 y2 y3 y4
            rw [lookup_putF, if_neg y3]
            exact r4 y y1 y2 y3 y4
          · have := length_putF "gaps" (V.ref g4) fs
            omega
          · rw [upd_ne nc, upd_ne (ne_of_none (e4 _ _ (kp c o hc nc)) hg4)]
            exact e4 _ _ (kp c o hc nc)
      · rintro σ H' ⟨gp, fs, G, yo, rfl, hx', r1, r2, r3, r4, r5, hG, gG, hL', kp⟩
        have hlen : (((List.range (a.length + b.length)).map (wOf a b)).map V.int).length = a.length + b.length := by simp
        rw [hlen] at gG r5
        -- self.everybody = len(self.gaps) - 1
        refine ⟨_, rfl, x, _, dx, fs, _, rfl, hx', T.cl_Joints, T.a_Joints_gaps, r3, gp, _, rfl, .inl (SqL.of hG), _, _, rfl, rfl, _, rfl, x, _, dx, fs, rfl, hx', T.cl_Joints, T.a_Joints_everybody, by omega, ?_⟩
        have gx : gp ≠ x := ne_of hG hx' (by intro z; cases z)
        have pw := Nat.two_pow_pos (a.length + b.length)
        refine k _ (fun c o hc nc => by rw [upd_ne nc]; exact kp c o hc nc) ⟨dx, gp, _, G, upd_same, ?_, ?_, ?_, ?_, ?_, by rw [upd_ne gx]; exact hG, gG⟩
        · rw [lookup_putF, if_neg ne_mb]; exact r1
        · rw [lookup_putF, if_neg ne_Eb]; exact r2
        · rw [lookup_putF, if_neg ne_gb]; exact r3
        · rw [lookup_putF, if_pos rfl, List.length_map, gG.1]
          exact congrArg (fun z => some (V.int z)) (by rw [Int.natCast_sub pw]; rfl)
        · intro y y1 y2 y3 y4
          rw [lookup_putF, if_neg y4]
          exact r4 y y1 y2 y3 y4
end
end K70
end
section
set_option Elab.async false
set_option linter.all false
set_option maxRecDepth 100000
set_option maxHeartbeats 4000000
namespace K70
open PySem PySem.Spec PyProof.Rows L2
open Evl (Ex ex_l ex_t fresh_back)
theorem NoM.meth {fs : List (Str × V)} (h : NoM fs) {x : Str} (h1 : x ≠ "many" := by decide +kernel) (h2 : x ≠ "everyone" := by decide +kernel) (h3 : x ≠ "gaps" := by decide +kernel) (h4 : x ≠ "everybody" := by decide +kernel) : fs.lookup x = none := h x h1 h2 h3 h4
/-- a list of numbers from 0 on -/
def natsV (l : List Nat) : List V := l.map fun (i : Nat) => V.int (i : Int)
theorem nexts_le {m n : Nat} {gap : Int} {lot : Nat} (h : gap ≤ 0) : natsV (nexts m n gap lot) = ((List.range m).filter fun i => !lot.testBit (0 + i)).map fun (i : Nat) => V.int ((0 : Nat) + (i : Int)) := by
  unfold natsV nexts
  rw [if_pos h]
  simp
theorem nexts_gt {m n : Nat} {gap : Int} {lot : Nat} (h : ¬ gap ≤ 0) : natsV (nexts m n gap lot) = ((List.range n).filter fun i => !lot.testBit (m + i)).map fun (i : Nat) => V.int ((m : Int) + (i : Int)) := by
  unfold natsV nexts
  rw [if_neg h, List.filter_map, List.map_map]
  congr 1
section
variable {P : Program} {w : World} {K : PySem.W.Frag} {mg : Str → Option Value} {base : Heap}
/-- a new list is handed back -/
def RetL (H : Hp) (Q : VK) (xs : List V) : Prop := ∀ p H', H p = none → Ex H H' → H' p = some (.lst xs) → Q (.ref p) H'
def spNext (C : Addr) : Sp := fun vs H Q _ => ∃ (j : Addr) (m n : Nat) (W : Nat → Int) (lot : Nat), vs = [.ref j, .int lot] ∧ JAt C H j m n W ∧ m + n ≤ 14 ∧ lot < 2 ^ (m + n) ∧ RetL H Q (natsV (nexts m n (ms W (m + n) lot) lot))
theorem ok_Jointsnextones (T : Tx K mg) : FnOk P w K mg base CX0 1 T.Jointsnextones.f T.Jointsnextones.fd ["self", "lot"] (spNext T.CJoints) := by
  refine T.Jointsnextones.F.ok sc_Jointsnextones (fun vs H Q E h => ?_) (fun cdv A outer s H vs Q E hr h => ?_)
  · obtain ⟨_, _, _, _, _, rfl, _⟩ := h
    rfl
  · obtain ⟨j, m, n, W, lot, rfl, ⟨dx, gp, fs, G, hj, r1, r2, r3, r4, r5, hG, gG⟩, hmn, hl, k⟩ := h
    refine ⟨_, (pss_cons (ps_asg (pe_ifExp (pt_cmpR op_le (pe_ix ix_list (pe_fld (pv 0) (by rfl)) (pv 1) (fun _ _ => rfl)) pe_int (nomark _)) (pe_tup (pa_cons pe_int (pa_cons (pe_fld (pv 0) (by rfl)) pa_nil))) (pe_tup (pa_cons (pe_fld (pv 0) (by rfl)) (pa_cons (pe_fld (pv 0) (by rfl)) pa_nil)))) (pg_tup (by rfl) (pgs_cons (pg_name (i := 2) sc_Jointsnextones.nd (by rfl) (Or.inl rfl)) (pgs_cons (pg_name (i := 3) sc_Jointsnextones.nd (by rfl) (Or.inl rfl)) pgs_nil))))
      (pss_one (ps_ret (pe_lc (own := [(("place" : Str), 4)]) (g := gName 4) (by rfl) sc_Jointsnextones.nd (pi_range2 (by rfl) T.n_range (pa_cons (pv 2) (pa_cons (pv 3) pa_nil))) (blkOk_by (own := [(("place" : Str), 4)]) (N := ["self", "lot", "first", "end", "place"]) (sc := defScope s_Jointsnextones) (by decide +kernel)) (fun _ _ _ _ _ => (pg_name (i := 4) sc_Jointsnextones.nd (by rfl) (Or.inl rfl))) (fun _ _ _ _ _ => (pts_one (pt_cmpR op_eq (pe_op op_and (pe_op op_shr (pv 1) (pv 4)) pe_int) pe_int (nomark _)))) (fun _ _ _ _ _ => (pv 4)))))), ?_⟩
    refine ⟨_, rfl, j, _, dx, fs, _, rfl, hj, T.cl_Joints, T.a_Joints_gaps, r3, _, rfl, gp, _, lot, _, rfl, rfl, SqL.of hG, atI_nat (gG.at hl), _, _, rfl, rfl, _, rfl, ?_⟩
    refine ite2 (fun hle => ?_) (fun hgt => ?_)
    · have hle' : ms W (m + n) lot ≤ 0 := of_decide_eq_true hle
      refine ⟨_, rfl, j, _, dx, fs, _, rfl, hj, T.cl_Joints, T.a_Joints_many, r1, by show 2 ≤ sizeLine; decide, fun c hc => ?_⟩
      refine ⟨c, _, rfl, tup_of, rfl, _, _, rfl, _, _, rfl, rfl, ?_⟩
      have ec : Ex H (upd H c (.tup [.int 0, .int m])) := Ex.nw hc
      dsimp only
      refine rt1 (comp_rangeF (fun i => !lot.testBit (0 + i)) (fun i => V.int ((0 : Nat) + (i : Int))) (lo := 0) (hi := m) (n := m) (fun R' k' => ⟨_, rfl, _, rfl, k'⟩) (by omega) (by omega) (by omega) (by omega) (fun x => rfl) ?_ ?_ ?_)
      · intro i H' hi Q' k'
        refine ⟨_, rfl, _, rfl, _, _, rfl, rfl, by omega, _, _, rfl, rfl, rfl, _, rfl, ?_⟩
        show Q' (decide (V.int (Builtin.bitAnd ((lot : Int) / 2 ^ ((0 : Int) + (i : Int)).toNat) 1) = V.int 0)) H'
        rw [show (0 : Int) + (i : Int) = ((0 + i : Nat) : Int) by omega, bit_test]
        exact k'
      · intro i H' hi Q' k'
        exact ⟨_, rfl, k'⟩
      · intro D H' hD e' hD'
        refine k D H' (fresh_back ec hD) (Ex.tr ec e') ?_
        rw [nexts_le hle']
        exact hD'
    · have hgt' : ¬ ms W (m + n) lot ≤ 0 := fun q => hgt (decide_eq_true q)
      refine ⟨_, rfl, j, _, dx, fs, _, rfl, hj, T.cl_Joints, T.a_Joints_many, r1, _, rfl, j, _, dx, fs, _, rfl, hj, T.cl_Joints, T.a_Joints_everyone, r2, by show 2 ≤ sizeLine; decide, fun c hc => ?_⟩
      refine ⟨c, _, rfl, tup_of, rfl, _, _, rfl, _, _, rfl, rfl, ?_⟩
      have ec : Ex H (upd H c (.tup [.int m, .int (m + n : Nat)])) := Ex.nw hc
      dsimp only
      refine rt1 (comp_rangeF (fun i => !lot.testBit (m + i)) (fun i => V.int ((m : Int) + (i : Int))) (lo := m) (hi := (m + n : Nat)) (n := n) (fun R' k' => ⟨_, rfl, _, rfl, k'⟩) (by omega) (by omega) (by omega) (by omega) (fun x => rfl) ?_ ?_ ?_)
      · intro i H' hi Q' k'
        refine ⟨_, rfl, _, rfl, _, _, rfl, rfl, by omega, _, _, rfl, rfl, rfl, _, rfl, ?_⟩
        show Q' (decide (V.int (Builtin.bitAnd ((lot : Int) / 2 ^ ((m : Int) + (i : Int)).toNat) 1) = V.int 0)) H'
        rw [show (m : Int) + (i : Int) = ((m + i : Nat) : Int) by omega, bit_test]
        exact k'
      · intro i H' hi Q' k'
        exact ⟨_, rfl, k'⟩
      · intro D H' hD e' hD'
        refine k D H' (fresh_back ec hD) (Ex.tr ec e') ?_
        rw [nexts_gt hgt']
        exact hD'
/-- the lots with one more -/
def laters (m n : Nat) (W : Nat → Int) (lot : Nat) : List Nat := (nexts m n (ms W (m + n) lot) lot).map fun i => lot ||| 2 ^ i
theorem natsV_get {l : List Nat} {i : Nat} {x : V} (h : (natsV l)[i]? = some x) : ∃ k, l[i]? = some k ∧ x = .int (k : Int) := by
  unfold natsV at h
  rw [List.getElem?_map] at h
  obtain ⟨z, hz, rfl⟩ := Option.map_eq_some_iff.mp h
  exact ⟨z, hz, rfl⟩
def natAt (l : List Nat) (i : Nat) : Nat := l.getD i 0
theorem natAt_of {l : List Nat} {i k : Nat} (h : l[i]? = some k) : natAt l i = k := by
  unfold natAt
  rw [List.getD_eq_getElem?_getD, h]; rfl
theorem map_natAt {α : Type} {l : List Nat} {n : Nat} {f : Nat → α} (hn : n = l.length) : (List.range n).map (fun i => f (natAt l i)) = l.map f := by
  subst hn
  apply List.ext_getElem
  · simp
  · intro i h1 h2
    simp only [List.getElem_map, List.getElem_range]
    rw [natAt_of (List.getElem?_eq_getElem (by simpa using h2))]
theorem nexts_len {m n : Nat} {gap : Int} {lot : Nat} : (nexts m n gap lot).length ≤ m + n := by
  unfold nexts
  split
  · have := List.length_filter_le (fun i => !lot.testBit i) (List.range m)
    rw [List.length_range] at this; omega
  · have := List.length_filter_le (fun i => !lot.testBit i) ((List.range n).map (m + ·))
    rw [List.length_map, List.length_range] at this; omega
def spLater (C : Addr) : Sp := fun vs H Q _ => ∃ (j : Addr) (m n : Nat) (W : Nat → Int) (lot : Nat), vs = [.ref j, .int lot] ∧ JAt C H j m n W ∧ m + n ≤ 14 ∧ lot < 2 ^ (m + n) ∧ RetL H Q (natsV (laters m n W lot))
theorem ok_Jointslaterlots (T : Tx K mg) : FnOk P w K mg base CX0 2 T.Jointslaterlots.f T.Jointslaterlots.fd ["self", "lot"] (spLater T.CJoints) := by
  refine T.Jointslaterlots.F.ok sc_Jointslaterlots (fun vs H Q E h => ?_) (fun cdv A outer s H vs Q E hr h => ?_)
  · obtain ⟨_, _, _, _, _, rfl, _⟩ := h
    rfl
  · obtain ⟨j, m, n, W, lot, rfl, hJ, hmn, hl, k⟩ := h
    refine ⟨_, (pss_one (ps_ret (pe_lc (own := [(("place" : Str), 2)]) (g := gName 2) (tt := tYes) (by rfl) sc_Jointslaterlots.nd (pi_list (pe_meth (pv 0) T.cl_Joints T.m_Jointsnextones (ok_Jointsnextones (P := P) (w := w) (base := base) T) (hr.mono (by decide)) T.Jointsnextones.b .nil pass0 (pa_cons (pv 1) pa_nil))) (blkOk_by (own := [(("place" : Str), 2)]) (N := ["self", "lot", "place"]) (sc := defScope s_Jointslaterlots) (by decide +kernel)) (fun _ _ _ _ _ => (pg_name (i := 2) sc_Jointslaterlots.nd (by rfl) (Or.inl rfl))) (fun _ _ _ _ _ => pts_nil) (fun _ _ _ _ _ => (pe_op op_or (pv 1) (pe_op op_shl pe_int (pv 2))))))), ?_⟩
    obtain ⟨dx, gp, fs, G, hj, r1, r2, r3, r4, r5, hG, gG⟩ := id hJ
    refine rt1 (comp_list (K := K) (xs := natsV (nexts m n (ms W (m + n) lot) lot)) (RV fun i => .int ((lot ||| 2 ^ natAt (nexts m n (ms W (m + n) lot) lot) i : Nat) : Int)) (RV.stays _)
      (fun R' k' => ⟨_, rfl, j, dx, fs, rfl, hj, r5.meth, _, rfl, j, m, n, W, lot, rfl, hJ, hmn, hl, fun p H' hp e' hp' => k' p H' e' (SqL.of hp')⟩) ?_ (fun x => rfl) ?_ ?_)
    · have := nexts_len (m := m) (n := n) (gap := ms W (m + n) lot) (lot := lot)
      unfold natsV; rw [List.length_map]; omega
    · intro i x H' hi e' Q' k'
      obtain ⟨pl, hpl, rfl⟩ := natsV_get hi
      have hlt := nexts_lt (List.mem_of_getElem? hpl)
      refine ⟨_, rfl, _, rfl, _, _, rfl, rfl, ⟨by omega, by omega, by decide⟩, _, _, rfl, rfl, k' _ _ (Ex.rf _) ?_⟩
      show V.int _ = V.int _
      rw [bit_set, natAt_of hpl]
    · intro D H' ys hD e' hD' m'
      rw [RV.list m'] at hD'
      refine k D H' hD e' ?_
      rw [hD']
      have := map_natAt (l := nexts m n (ms W (m + n) lot) lot) (n := (natsV (nexts m n (ms W (m + n) lot) lot)).length) (f := fun i => V.int ((lot ||| 2 ^ i : Nat) : Int)) (by unfold natsV; rw [List.length_map])
      rw [this]
      unfold natsV laters
      rw [List.map_map]; rfl
end
end K70
end
section
set_option Elab.async false
set_option linter.all false
set_option maxRecDepth 100000
set_option maxHeartbeats 4000000
namespace K70
open PySem PySem.Spec PyProof.Rows L2
open Evl (Ex ex_l ex_t fresh_back)
/-! ### follow, orders -/
/-- what follow has found behind i turns -/
def Part (few : Bool) (m n : Nat) (W : Nat → Int) (f : List Int) (i : Nat) : Prop := at0 f (2 ^ (m + n) - 1) = 0 ∧
  ∀ lot, lot < 2 ^ (m + n) - 1 → 2 ^ (m + n) - 1 ≤ lot + i → nexts m n (ms W (m + n) lot) lot ≠ [] →
    Opt few (at0 f lot) ((nexts m n (ms W (m + n) lot) lot).map fun k => gives (ms W (m + n)) (at0 f) (lot ||| 2 ^ k))
theorem at0_set {f : List Int} {k j : Nat} {z : Int} (hk : k < f.length) : at0 (f.set k z) j = if j = k then z else at0 f j := by
  unfold at0
  rw [List.getD_eq_getElem?_getD, List.getD_eq_getElem?_getD, List.getElem?_set]
  by_cases h : k = j
  · subst h; simp [hk]
  · rw [if_neg h, if_neg (Ne.symm h)]
theorem later_gt {m n : Nat} {gap : Int} {lot k : Nat} (h : k ∈ nexts m n gap lot) (hl : lot < 2 ^ (m + n)) : lot < lot ||| 2 ^ k ∧ lot ||| 2 ^ k < 2 ^ (m + n) := by
  obtain ⟨h1, h2⟩ := nexts_lt h
  exact ⟨lt_or h2, or_lt hl h1⟩
theorem Part.step {few : Bool} {m n : Nat} {W : Nat → Int} {f : List Int} {i lot : Nat} {z : Int} (h : Part few m n W f i) (hf : f.length = 2 ^ (m + n)) (hi : lot + i + 1 = 2 ^ (m + n) - 1)
    (ho : Opt few z ((nexts m n (ms W (m + n) lot) lot).map fun k => gives (ms W (m + n)) (at0 f) (lot ||| 2 ^ k))) : Part few m n W (f.set lot z) (i + 1) := by
  have hlt : lot < f.length := by omega
  obtain ⟨h0, h1⟩ := h
  have same : ∀ lot', lot ≤ lot' → lot' < 2 ^ (m + n) → ((nexts m n (ms W (m + n) lot') lot').map fun k => gives (ms W (m + n)) (at0 (f.set lot z)) (lot' ||| 2 ^ k)) = ((nexts m n (ms W (m + n) lot') lot').map fun k => gives (ms W (m + n)) (at0 f) (lot' ||| 2 ^ k)) := by
    intro lot' hl hl2
    apply List.map_congr_left
    intro k hk
    have := later_gt hk hl2
    unfold gives
    rw [at0_set hlt, if_neg (by omega)]
  refine ⟨?_, fun lot' hl hi' hne => ?_⟩
  · rw [at0_set hlt, if_neg (by omega)]; exact h0
  · rw [same lot' (by omega) (by omega), at0_set hlt]
    by_cases e : lot' = lot
    · subst e; rw [if_pos rfl]; exact ho
    · rw [if_neg e]
      exact h1 lot' hl (by omega) hne
theorem Part.skip {few : Bool} {m n : Nat} {W : Nat → Int} {f : List Int} {i lot : Nat} (h : Part few m n W f i) (hi : lot + i + 1 = 2 ^ (m + n) - 1)
    (hn : nexts m n (ms W (m + n) lot) lot = []) : Part few m n W f (i + 1) := by
  refine ⟨h.1, fun lot' hl hi' hne => ?_⟩
  by_cases e : lot' = lot
  · subst e; exact absurd hn hne
  · exact h.2 lot' hl (by omega) hne
theorem Part.fol {few : Bool} {m n : Nat} {W : Nat → Int} {f : List Int} (h : Part few m n W f (2 ^ (m + n) - 1)) : Fol few m n (ms W (m + n)) (at0 f) :=
  ⟨h.1, fun lot hl hne => h.2 lot hl (by omega) hne⟩
theorem intV_zero {g : Int} : (if decide (V.int g = V.int 0) = true then (1 : Int) else 0) = if g = 0 then 1 else 0 := by
  by_cases h : g = 0
  · subst h; rfl
  · rw [if_neg h, if_neg]
    intro e
    exact h (V.int.inj (of_decide_eq_true e))
theorem at0_getV {f : List Int} {k : Nat} (h : k < f.length) : (f.map V.int)[k]? = some (.int (at0 f k)) := by
  rw [List.getElem?_map, at0_of h]; rfl
section
variable {P : Program} {w : World} {K : PySem.W.Frag} {mg : Str → Option Value} {base : Heap}
def spFollow (C : Addr) : Sp := fun vs H Q _ => ∃ (j : Addr) (m n : Nat) (W : Nat → Int) (few : Bool), vs = [.ref j, .bl few] ∧ JAt C H j m n W ∧ m + n ≤ 14 ∧
  ∀ (p : Addr) (H' : Hp) (f : List Int), H p = none → Ex H H' → H' p = some (.lst (f.map V.int)) → f.length = 2 ^ (m + n) → Fol few m n (ms W (m + n)) (at0 f) → Q (.ref p) H'
theorem ok_Jointsfollow (T : Tx K mg) : FnOk P w K mg base CX0 3 T.Jointsfollow.f T.Jointsfollow.fd ["self", "wants_few"] (spFollow T.CJoints) := by
  refine T.Jointsfollow.F.ok sc_Jointsfollow (fun vs H Q E h => ?_) (fun cdv A outer s H vs Q E hr h => ?_)
  · obtain ⟨_, _, _, _, _, rfl, _⟩ := h
    rfl
  · obtain ⟨j, m, n, W, few, rfl, hJ, hmn, k⟩ := h
    refine ⟨_, (pss_cons (ps_set (i := 2) sc_Jointsfollow.nd (by rfl) (Or.inr rfl) (pe_lc (own := [(("gap" : Str), 5)]) (g := gName 5) (tt := tYes) (by rfl) sc_Jointsfollow.nd (pi_list (pe_fld (pv 0) (by rfl))) (blkOk_by (own := [(("gap" : Str), 5)]) (N := ["self", "wants_few", "found", "lot", "numbers", "gap", "later"]) (sc := defScope s_Jointsfollow) (by decide +kernel)) (fun _ _ _ _ _ => (pg_name (i := 5) sc_Jointsfollow.nd (by rfl) (Or.inl rfl))) (fun _ _ _ _ _ => pts_nil) (fun _ _ _ _ _ => pe_int)))
      (pss_cons (ps_for PassesOwn.never rfl (pi_range3 (by rfl) T.n_range (pa_cons (pe_op op_sub (pe_fld (pv 0) (by rfl)) pe_int) (pa_cons (pe_un un_neg pe_int) (pa_cons (pe_un un_neg pe_int) pa_nil)))) (pg_name (i := 3) sc_Jointsfollow.nd (by rfl) (Or.inl rfl)) (pss_cons (ps_setLc (i := 4) (own := [(("later" : Str), 6)]) (g := gName 6) (tt := tYes) (by rfl) sc_Jointsfollow.nd (by rfl) (by rfl) (sw_true (by rfl) (by rfl) (by rfl) (by decide +kernel)) (pi_list (pe_meth (pv 0) T.cl_Joints T.m_Jointslaterlots (ok_Jointslaterlots (P := P) (w := w) (base := base) T) (hr.mono (by decide)) T.Jointslaterlots.b .nil pass0 (pa_cons (pv 3) pa_nil))) (blkOk_by (own := [(("later" : Str), 6)]) (N := ["self", "wants_few", "found", "lot", "numbers", "gap", "later"]) (sc := defScope s_Jointsfollow) (by decide +kernel)) (fun _ _ _ _ _ => (pg_name (i := 6) sc_Jointsfollow.nd (by rfl) (Or.inl rfl))) (fun _ _ _ _ _ => pts_nil) (fun _ _ _ _ _ => (pe_op op_add (pe_ix (r := rIxL K) ix_list (pv 2) (pv 6) (fun _ _ => rfl)) (pe_callTy call_int1 (by rfl) T.n_int (by decide +kernel) (pa_cons (pe_cmpR op_eq (pe_ix (r := rIxL K) ix_list (pe_fldK (K := K) rfl (pv 0) (by rfl)) (pv 6) (fun _ _ => rfl)) pe_int (nomark _)) pa_nil)))))
      (pss_one (ps_if (pt_cmpR op_gt (pe_callB call_len_seq (by rfl) T.n_len (by decide +kernel) (pa_cons (pv 4) pa_nil)) pe_int (nomark _)) (pss_one (ps_asg (pe_ifExp (pt_val (pv 1)) (pe_callB (cr_min rfl) (by rfl) T.n_min (by decide +kernel) (pa_cons (pv 4) pa_nil)) (pe_callB (cr_max rfl) (by rfl) T.n_max (by decide +kernel) (pa_cons (pv 4) pa_nil))) (pg_sub (pv 2) (pv 3) set_list))) pss_nil))))
      (pss_one (ps_ret (pv 2))))), ?_⟩
    obtain ⟨dx, gp, fs, G, hj, r1, r2, r3, r4, r5, hG, gG⟩ := id hJ
    have p14 := pow14 hmn
    have pw := Nat.two_pow_pos (m + n)
    have glen : (G.map V.int).length = 2 ^ (m + n) := by rw [List.length_map, gG.1]
    generalize hN : 2 ^ (m + n) = N at *
    refine sq_asg (comp_list (K := K) (xs := G.map V.int) (RV fun _ => .int 0) (RV.stays _) (fun R' k' => ⟨_, rfl, j, _, dx, fs, _, rfl, hj, T.cl_Joints, T.a_Joints_gaps, r3, k' gp H (Ex.rf H) (SqL.of hG)⟩) (by omega) (fun y => rfl) ?_ ?_)
    · intro i x H' hi e' Q' k'
      exact k' _ _ (Ex.rf _) rfl
    · intro D H1 ys hD e1 hys mm
      rw [RV.list mm, glen] at hys
      have hys' : H1 D = some (.lst ((List.replicate N (0 : Int)).map V.int)) := hys.trans (congrArg (fun z => some (HO.lst z)) (by simp [List.map_const']))
      refine gn ?_
      try dsimp only
      -- for lot in range(everybody - 1, -1, -1)
      have RG : RgC (((N - 1 : Nat) : Int) - 1) (-1) (-1) (N - 1) := by
        have := RgC.neg (i := ((N - 1 : Nat) : Int) - 1) (j := -1) (by omega) (by omega) (by decide) (by decide)
        rw [show ((((N - 1 : Nat) : Int) - 1) - (-1)).toNat = N - 1 by omega] at this
        exact this
      refine ⟨_, rfl, j, _, dx, fs, _, rfl, e1 _ _ hj, T.cl_Joints, T.a_Joints_everybody, r4, _, _, rfl, rfl, 1, rfl, 1, rfl, _, _, _, _, rfl, RG, for_rangeC (lo := ((N - 1 : Nat) : Int) - 1) (c := -1) (n := N - 1)
        (fun i σ H' => ∃ (f : List Int) (y3 y4 : Option V), σ = [some (.ref j), some (.bl few), some (.ref D), y3, y4, none, none] ∧ Ex H H' ∧ H' D = some (.lst (f.map V.int)) ∧ f.length = 2 ^ (m + n) ∧ Part few m n W f i) ?_ ?_ ?_⟩
      · refine ⟨_, none, none, rfl, e1, hys', by rw [List.length_replicate, hN], ?_, fun lot h1 h2 => by omega⟩
        rw [hN]
        unfold at0
        rw [List.getD_eq_getElem?_getD, List.getElem?_replicate]
        split <;> rfl
      · rintro i σ H' hi ⟨f, y3, y4, rfl, e', hD', fl, pt⟩
        obtain ⟨lot, hlot⟩ : ∃ lot : Nat, lot + i + 1 = N - 1 := ⟨N - 1 - 1 - i, by omega⟩
        have el : (((N - 1 : Nat) : Int) - 1) + (i : Int) * -1 = (lot : Int) := by omega
        rw [el]
        refine gn ?_
        try dsimp only
        have hlN : lot < 2 ^ (m + n) := by omega
        have hJ' := hJ.mono e'
        have hj' := e' _ _ hj
        have hG' := e' _ _ hG
        have lenL : (laters m n W lot).length ≤ 14 := by
          unfold laters
          rw [List.length_map]
          exact Nat.le_trans nexts_len hmn
        have later_of : ∀ {i' l : Nat}, (laters m n W lot)[i']? = some l → l < 2 ^ (m + n) := fun {i' l} h => by
          unfold laters at h
          rw [List.getElem?_map] at h
          obtain ⟨pl, hp, rfl⟩ := Option.map_eq_some_iff.mp h
          exact (later_gt (List.mem_of_getElem? hp) hlN).2
        refine sq_asg (comp_list (K := K) (xs := natsV (laters m n W lot)) (RV fun i => .int (gives (ms W (m + n)) (at0 f) (natAt (laters m n W lot) i))) (RV.stays _)
          (fun R' k' => ⟨_, rfl, j, dx, fs, rfl, hj', r5.meth, _, rfl, j, m, n, W, lot, rfl, hJ', hmn, hlN, fun p H2 hp e2 hp2 => k' p H2 e2 (SqL.of hp2)⟩) (by unfold natsV; rw [List.length_map]; omega) (fun y => rfl) ?_ ?_)
        · intro i' x H2 hi' e2 Q' k'
          obtain ⟨l, hl, rfl⟩ := natsV_get hi'
          have ll := later_of hl
          refine ⟨_, rfl, _, rfl, D, _, l, _, rfl, rfl, SqL.of (e2 _ _ hD'), atI_nat (at0_getV (by omega)), _, rfl, j, _, dx, fs, _, rfl, e2 _ _ hj', T.cl_Joints, T.a_Joints_gaps, r3, _, rfl, gp, _, l, _, rfl, rfl, SqL.of (e2 _ _ hG'), atI_nat (gG.at (by rw [hN]; omega)), rfl, .inr ⟨_, rfl, _, _, rfl, rfl, k' _ _ (Ex.rf _) ?_⟩⟩
          show V.int _ = V.int _
          rw [intV_zero, natAt_of hl]
          rfl
        · intro D4 H4 ys4 hD4 e4 hys4 m4
          rw [RV.list m4] at hys4
          have hns : H4 D4 = some (.lst (((laters m n W lot).map fun l => gives (ms W (m + n)) (at0 f) l).map V.int)) := by
            rw [hys4, map_natAt (l := laters m n W lot) (f := fun l => V.int (gives (ms W (m + n)) (at0 f) l)) (by unfold natsV; rw [List.length_map]), List.map_map]; rfl
          have lts : (laters m n W lot).map (fun l => gives (ms W (m + n)) (at0 f) l) = (nexts m n (ms W (m + n) lot) lot).map fun k => gives (ms W (m + n)) (at0 f) (lot ||| 2 ^ k) := by
            unfold laters; rw [List.map_map]; rfl
          generalize hL : (laters m n W lot).map (fun l => gives (ms W (m + n)) (at0 f) l) = L at *
          have e14 := Ex.tr e' e4
          have hD4' := e4 _ _ hD'
          refine gn ?_
          try dsimp only
          refine ⟨_, rfl, D4, _, rfl, .inl (SqL.of hns), _, _, rfl, rfl, _, rfl, ?_⟩
          refine ite2 (fun hp => ?_) (fun hz => ?_)
          · have hp0 : 0 < L.length := by
              have : (0 : Int) < ((L.map V.int).length : Int) := of_decide_eq_true hp
              rw [List.length_map] at this
              omega
            have fin : ∀ z, Opt few z L → ∃ (f' : List Int) (y3 y4 : Option V), [some (.ref j), some (.bl few), some (.ref D), some (V.int (lot : Int)), some (V.ref D4), none, none] = [some (V.ref j), some (.bl few), some (.ref D), y3, y4, none, none] ∧ Ex H (upd H4 D (.lst ((f.map V.int).set lot (.int z)))) ∧
                (upd H4 D (.lst ((f.map V.int).set lot (.int z)))) D = some (.lst (f'.map V.int)) ∧ f'.length = 2 ^ (m + n) ∧ Part few m n W f' (i + 1) := fun z hz => by
              refine ⟨f.set lot z, _, _, rfl, Ex.mt e14 hD, ?_, ?_, ?_⟩
              · rw [upd_same, List.map_set]
              · rw [List.length_set, fl]
              · rw [lts] at hz
                exact pt.step fl (by omega) hz
            refine ⟨_, rfl, few, rfl, ?_⟩
            cases few with
            | true =>
              refine iteT ⟨_, rfl, D4, L, rfl, SqL.of hns, hp0, fun z hz hle => ⟨_, rfl, _, rfl, D, _, lot, lot, rfl, rfl, hD4', Evl.ixN_nat (by rw [List.length_map]; omega), ?_⟩⟩
              exact fin z ⟨hz, fun y hy => by rw [if_pos rfl]; exact hle y hy⟩
            | false =>
              refine iteF ⟨_, rfl, D4, L, rfl, SqL.of hns, hp0, fun z hz hle => ⟨_, rfl, _, rfl, D, _, lot, lot, rfl, rfl, hD4', Evl.ixN_nat (by rw [List.length_map]; omega), ?_⟩⟩
              exact fin z ⟨hz, fun y hy => by rw [if_neg (by decide)]; exact hle y hy⟩
          · have hz0 : L = [] := by
              have : ¬ (0 : Int) < ((L.map V.int).length : Int) := fun q => hz (decide_eq_true q)
              rw [List.length_map] at this
              exact List.length_eq_zero_iff.mp (by omega)
            refine ⟨f, _, _, rfl, e14, hD4', fl, pt.skip (lot := lot) (by omega) ?_⟩
            rw [hz0] at lts
            exact List.map_eq_nil_iff.mp lts.symm
      · rintro σ H' ⟨f, y3, y4, rfl, e', hD', fl, pt⟩
        refine ⟨_, rfl, k D H' f hD e' hD' (by rw [fl, hN]) (Part.fol (by rw [hN]; exact pt))⟩
end
end K70
end
section
set_option Elab.async false
set_option linter.all false
set_option maxRecDepth 100000
set_option maxHeartbeats 4000000
set_option pp.maxSteps 400
namespace K70
open PySem PySem.Spec PyProof.Rows L2
open Evl (Ex ex_l ex_t fresh_back)
/-! ### orders, unlike_queues, queues_alike -/
theorem eq_ints {x y : Int} : decide (V.int x = V.int y) = decide (x = y) := by
  by_cases h : x = y
  · subst h; simp
  · rw [decide_eq_false h, decide_eq_false (fun e => h (V.int.inj e))]
section
variable {P : Program} {w : World} {K : PySem.W.Frag} {mg : Str → Option Value} {base : Heap}
def spOrders (C : Addr) : Sp := fun vs H Q _ => ∃ (j : Addr) (m n : Nat) (W : Nat → Int) (few : Bool), vs = [.ref j, .bl few] ∧ JAt C H j m n W ∧ m + n ≤ 14 ∧ (∀ lot, lot < 2 ^ (m + n) - 1 → nexts m n (ms W (m + n) lot) lot ≠ []) ∧
  ∀ (c : Addr) (H' : Hp), Ex H H' → Q (.ref c) H'
theorem ok_Jointsorders (T : Tx K mg) : FnOk P w K mg base CX0 4 T.Jointsorders.f T.Jointsorders.fd ["self", "wants_few"] (spOrders T.CJoints) := by
  refine T.Jointsorders.F.ok sc_Jointsorders (fun vs H Q E h => ?_) (fun cdv A outer s H vs Q E hr h => ?_)
  · obtain ⟨_, _, _, _, _, rfl, _⟩ := h
    rfl
  · obtain ⟨j, m, n, W, few, rfl, hJ, hmn, hne, k⟩ := h
    refine ⟨_, (pss_cons (ps_set (i := 2) sc_Jointsorders.nd (by rfl) (Or.inl rfl) (pe_meth (pv 0) T.cl_Joints T.m_Jointsfollow (ok_Jointsfollow (P := P) (w := w) (base := base) T) (hr.mono (by decide)) T.Jointsfollow.b .nil pass0 (pa_cons (pv 1) pa_nil)))
      (pss_cons (ps_set (i := 3) sc_Jointsorders.nd (by rfl) (Or.inl rfl) pe_int)
      (pss_cons (ps_set (i := 4) sc_Jointsorders.nd (by rfl) (Or.inl rfl) (pe_lst pa_nil))
      (pss_cons (ps_set (i := 5) sc_Jointsorders.nd (by rfl) (Or.inl rfl) (pe_lst pa_nil))
      (pss_cons (ps_while PassesOwn.never (pt_cmpR op_ne (pv 3) (pe_fld (pv 0) (by rfl)) (nomark _)) (pss_one (ps_for PassesOwn.never rfl (pi_list (pe_meth (pv 0) T.cl_Joints T.m_Jointsnextones (ok_Jointsnextones (P := P) (w := w) (base := base) T) (hr.mono (by decide)) T.Jointsnextones.b .nil pass0 (pa_cons (pv 3) pa_nil))) (pg_name (i := 6) sc_Jointsorders.nd (by rfl) (Or.inl rfl)) (pss_cons (ps_set (i := 7) sc_Jointsorders.nd (by rfl) (Or.inl rfl) (pe_op op_or (pv 3) (pe_op op_shl pe_int (pv 6))))
      (pss_one (ps_if (pt_cmpR op_eq (pe_op op_add (pe_ix ix_list (pv 2) (pv 7) (fun _ _ => rfl)) (pe_callTy call_int1 (by rfl) T.n_int (by decide +kernel) (pa_cons (pe_cmpR op_eq (pe_ix ix_list (pe_fld (pv 0) (by rfl)) (pv 7) (fun _ _ => rfl)) pe_int (nomark _)) pa_nil))) (pe_ix ix_list (pv 2) (pv 3) (fun _ _ => rfl)) (nomark _)) (pss_cons (ps_if (pt_cmpR op_lt (pv 6) (pe_fld (pv 0) (by rfl)) (nomark _)) (pss_one (ps_expr (pe_bm PySem.F.plainAttrs_list PySem.F.slot_list_append PySem.F.type_list_append mt_append (pv 4) (pa_cons (pv 6) pa_nil)))) (pss_one (ps_expr (pe_bm PySem.F.plainAttrs_list PySem.F.slot_list_append PySem.F.type_list_append mt_append (pv 5) (pa_cons (pe_op op_sub (pv 6) (pe_fld (pv 0) (by rfl))) pa_nil)))))
      (pss_cons (ps_set (i := 3) sc_Jointsorders.nd (by rfl) (Or.inl rfl) (pv 7))
      (pss_one ps_break))) pss_nil))))))
      (pss_one (ps_ret (pe_tup (pa_cons (pe_callTy call_tuple_of (by rfl) T.n_tuple (by decide +kernel) (pa_cons (pv 4) pa_nil)) (pa_cons (pe_callTy call_tuple_of (by rfl) T.n_tuple (by decide +kernel) (pa_cons (pv 5) pa_nil)) pa_nil)))))))))), ?_⟩
    obtain ⟨dx, gp, fs, G, hj, r1, r2, r3, r4, r5, hG, gG⟩ := id hJ
    have p14 := pow14 hmn
    have pw := Nat.two_pow_pos (m + n)
    refine ⟨_, rfl, j, dx, fs, rfl, hj, r5.meth, _, rfl, j, m, n, W, few, rfl, hJ, hmn, fun fp H1 f hfp e1 hf fl fol => ?_⟩
    -- lot = 0; owers = []; takers = []
    refine ⟨Nat.zero_le _, fun o ho => ⟨Nat.zero_le _, fun t ht => ?_⟩⟩
    have ot : o ≠ t := fun z => by rw [z, upd_same] at ht; cases ht
    have ht1 : H1 t = Option.none := by rw [upd_ne ot.symm] at ht; exact ht
    refine ⟨fun mm σ H' => ∃ (lot : Nat) (xs ys : List V) (y6 y7 : Option V), σ = [some (.ref j), some (.bl few), some (.ref fp), some (.int lot), some (.ref o), some (.ref t), y6, y7] ∧ mm = 2 ^ (m + n) - lot ∧ lot ≤ 2 ^ (m + n) - 1 ∧ Ex H1 H' ∧
      H' o = some (.lst xs) ∧ H' t = some (.lst ys) ∧ xs.length ≤ lot ∧ ys.length ≤ lot, ⟨_, 0, [], [], none, none, rfl, rfl, Nat.zero_le _, Ex.tr (Ex.nw ho) (Ex.nw ht), by rw [upd_ne ot, upd_same], upd_same, Nat.le_refl _, Nat.le_refl _⟩, ?_⟩
    rintro mm σ H' ⟨lot, xs, ys, y6, y7, rfl, rfl, hlot, e', hxo, hyt, lx, ly⟩
    have e0' := Ex.tr e1 e'
    have hj' := e0' _ _ hj
    have hG' := e0' _ _ hG
    have hf' := e' _ _ hf
    refine ⟨_, rfl, _, rfl, j, _, dx, fs, _, rfl, hj', T.cl_Joints, T.a_Joints_everybody, r4, rfl, _, rfl, ?_⟩
    rw [eq_ints]
    refine ite2 (fun hneq => ?_) (fun heq => ?_)
    · have hlt : lot < 2 ^ (m + n) - 1 := by
        have : ¬ (lot : Int) = ((2 ^ (m + n) - 1 : Nat) : Int) := fun q => by rw [decide_eq_true q] at hneq; cases hneq
        omega
      refine ⟨fun σ2 H2 => ∃ m', m' < 2 ^ (m + n) - lot ∧ ∃ (lot : Nat) (xs ys : List V) (y6 y7 : Option V), σ2 = [some (.ref j), some (.bl few), some (.ref fp), some (.int lot), some (.ref o), some (.ref t), y6, y7] ∧ m' = 2 ^ (m + n) - lot ∧ lot ≤ 2 ^ (m + n) - 1 ∧ Ex H1 H2 ∧
        H2 o = some (.lst xs) ∧ H2 t = some (.lst ys) ∧ xs.length ≤ lot ∧ ys.length ≤ lot, fun _ _ h => h, ?_⟩
      have hlN : lot < 2 ^ (m + n) := by omega
      have hJ' := hJ.mono e0'
      refine ⟨_, rfl, j, dx, fs, rfl, hj', r5.meth, _, rfl, j, m, n, W, lot, rfl, hJ', hmn, hlN, fun p H2 hp e2 hp2 => ?_⟩
      have e12 := Ex.tr e' e2
      have e02 := Ex.tr e1 e12
      have hxo2 := e2 _ _ hxo
      have hyt2 := e2 _ _ hyt
      refine ⟨p, rfl, ⟨_, SqL.of hp2⟩, for_list (K := K) (a := p) (xs := natsV (nexts m n (ms W (m + n) lot) lot))
        (fun i σ3 H3 => H3 = H2 ∧ ∃ y6 y7 : Option V, σ3 = [some (.ref j), some (.bl few), some (.ref fp), some (.int lot), some (.ref o), some (.ref t), y6, y7] ∧
          ∀ (i' pl : Nat), i' < i → (nexts m n (ms W (m + n) lot) lot)[i']? = some pl → gives (ms W (m + n)) (at0 f) (lot ||| 2 ^ pl) ≠ at0 f lot) ?_ ?_ ?_ ?_⟩
      · exact ⟨rfl, _, _, rfl, fun i' pl h => absurd h (Nat.not_lt_zero _)⟩
      · rintro i σ3 H3 _ ⟨rfl, _⟩
        exact SqL.of hp2
      · rintro i x σ3 H3 hi ⟨rfl, y6, y7, rfl, hno⟩
        obtain ⟨pl, hpl, rfl⟩ := natsV_get hi
        obtain ⟨lg, ll⟩ := later_gt (List.mem_of_getElem? hpl) hlN
        obtain ⟨plt, plb⟩ := nexts_lt (List.mem_of_getElem? hpl)
        -- later = lot | (1 << place)
        refine ⟨_, rfl, _, rfl, _, _, rfl, rfl, ⟨by omega, by omega, by decide⟩, _, _, rfl, rfl, ?_⟩
        dsimp only
        rw [bit_set]
        refine ⟨_, rfl, _, rfl, fp, _, _, _, rfl, rfl, SqL.of (e2 _ _ hf'), atI_nat (at0_getV (by omega)), _, rfl, j, _, dx, fs, _, rfl, e02 _ _ hj, T.cl_Joints, T.a_Joints_gaps, r3, _, rfl, gp, _, _, _, rfl, rfl, SqL.of (e02 _ _ hG), atI_nat (gG.at ll), rfl, .inr ⟨_, rfl, _, _, rfl, rfl, ?_⟩⟩
        refine ⟨_, rfl, _, rfl, fp, _, _, _, rfl, rfl, SqL.of (e2 _ _ hf'), atI_nat (at0_getV (by omega)), rfl, _, rfl, ?_⟩
        rw [intV_zero, eq_ints]
        refine ite2 (fun hyes => ?_) (fun hnot => ?_)
        · -- found: append, go on behind
          have lxs : xs.length < sizeLine := Evl.sz_lt (by omega)
          have lys : ys.length < sizeLine := Evl.sz_lt (by omega)
          refine ⟨_, rfl, _, rfl, j, _, dx, fs, _, rfl, e02 _ _ hj, T.cl_Joints, T.a_Joints_many, r1, _, _, rfl, rfl, _, rfl, ?_⟩
          refine ite2 (fun _ => ?_) (fun _ => ?_)
          · refine ⟨_, rfl, .inl ⟨rfl, _, SqL.of hxo2⟩, _, rfl, o, _, _, rfl, rfl, hxo2, lxs, ?_⟩
            refine ⟨_, rfl, ?_⟩
            refine ⟨_, ?_, (lot ||| 2 ^ pl), _, ys, _, _, rfl, rfl, by omega, Ex.mt e12 ho, upd_same, by rw [upd_ne ot.symm]; exact hyt2, ?_, by omega⟩
            · omega
            · rw [List.length_append]; simp; omega
          · refine ⟨_, rfl, .inl ⟨rfl, _, SqL.of hyt2⟩, _, rfl, _, rfl, j, _, dx, fs, _, rfl, e02 _ _ hj, T.cl_Joints, T.a_Joints_many, r1, _, _, rfl, rfl, t, _, _, rfl, rfl, hyt2, lys, ?_⟩
            refine ⟨_, rfl, ?_⟩
            refine ⟨_, ?_, (lot ||| 2 ^ pl), xs, _, _, _, rfl, rfl, by omega, Ex.mt e12 ht1, by rw [upd_ne ot]; exact hxo2, upd_same, by omega, ?_⟩
            · omega
            · rw [List.length_append]; simp; omega
        · refine ⟨rfl, _, _, rfl, fun i' pl' hi' hpl' => ?_⟩
          by_cases e : i' = i
          · subst e
            rw [hpl] at hpl'
            cases Option.some.inj hpl'
            intro q
            apply hnot
            unfold gives at q
            exact decide_eq_true q
          · exact hno i' pl' (by omega) hpl'
      · rintro σ3 H3 ⟨rfl, y6, y7, rfl, hno⟩
        exfalso
        obtain ⟨hm, _⟩ := fol.2 lot hlt (hne lot hlt)
        obtain ⟨pl, hp, hg⟩ := List.mem_map.mp hm
        obtain ⟨i', hi', e⟩ := List.getElem_of_mem hp
        refine hno i' pl ?_ (by rw [List.getElem?_eq_getElem hi', e]) hg
        unfold natsV
        rw [List.length_map]
        exact hi'
    · refine ⟨_, rfl, o, _, rfl, .inl ⟨SqL.of hxo, fun a1 ha1 => ?_⟩⟩
      have ea1 : Ex H' (upd H' a1 (.tup xs)) := Ex.nw ha1
      refine ⟨_, rfl, t, _, rfl, .inl ⟨SqL.of (ea1 _ _ hyt), fun a2 ha2 => ⟨by show 2 ≤ sizeLine; decide, fun c hc => ?_⟩⟩⟩
      exact k c _ (Ex.tr e0' (Ex.tr ea1 (Ex.tr (Ex.nw ha2) (Ex.nw hc))))
/-- what unlike_queues gives -/
def UQ (a b : List Int) (v : V) : Prop := (unitOf a b ≠ none → v = .non) ∧ (unitOf a b = none → ∃ fmin fmax : Nat → Int, Fol true a.length b.length (ms (wOf a b) (a.length + b.length)) fmin ∧ Fol false a.length b.length (ms (wOf a b) (a.length + b.length)) fmax ∧
  (fmin 0 = fmax 0 → v = .non) ∧ (fmin 0 ≠ fmax 0 → v ≠ .non))
theorem UnV.non {K : PySem.W.Frag} {H : Hp} {p q : Int} {v : V} {o : Option (Str × Int)} (h : UnV K H p q v o) : decide (v = .non) = decide (o = none) := by
  cases o with
  | none => rw [show v = .non from h]; rfl
  | some z =>
    obtain ⟨c, f, rfl, _⟩ := h
    rfl
theorem ok_unlikequeues (T : Tx K mg) : FnOk P w K mg base CX0 8 T.unlikequeues.f T.unlikequeues.fd ["evening"] (spEv K T.CEvening fun H Q p q a b => (unitOf a b ≠ none ∨ a.length + b.length ≤ 14) ∧ ∀ v H', Ex H H' → UQ a b v → Q v H') := by
  refine T.unlikequeues.F.ok sc_unlikequeues (fun vs H Q E h => ?_) (fun cdv A outer s H vs Q E hr h => ?_)
  · obtain ⟨_, _, _, _, _, rfl, _⟩ := h
    rfl
  · obtain ⟨e, p, q, a, b, rfl, hE, hU, sa, sb, es, hn, k⟩ := h
    refine ⟨_, (pss_cons (ps_if (pt_cmpR op_notN (pe_call (ok_queueunit (P := P) (w := w) (base := base) T) (hr.mono (by decide)) (by rfl) T.g_queueunit T.queueunit.F.kp T.queueunit.b .nil pass0 (pa_cons (pv 0) pa_nil)) pe_non (nomark _)) (pss_one (ps_ret pe_non)) pss_nil)
      (pss_cons (ps_expr (pe_call (ok_checkmost (P := P) (w := w) (base := base) T) (hr.mono (by decide)) (by rfl) T.g_checkmost T.checkmost.F.kp T.checkmost.b .nil pass0 (pa_cons (pe_call (ok_people (P := P) (w := w) (base := base) T) (hr.mono (by decide)) (by rfl) T.g_people T.people.F.kp T.people.b .nil pass0 (pa_cons (pv 0) pa_nil)) (pa_cons (pe_glob (v := .int 14) (by rfl) T.v_MOST_JOINED ⟨_, rfl⟩) pa_nil))))
      (pss_cons (ps_set (i := 1) sc_unlikequeues.nd (by rfl) (Or.inl rfl) (pe_make T.mk_Joints (ok_Jointsinit (P := P) (w := w) (base := base) T) (hr.mono (by decide)) (by rfl) T.c_Joints T.Jointsinit.b .nil pass0 (pa_cons (pv 0) pa_nil)))
      (pss_cons (ps_if (pt_cmpR op_eq (pe_ix ix_list (pe_meth (pv 1) T.cl_Joints T.m_Jointsfollow (ok_Jointsfollow (P := P) (w := w) (base := base) T) (hr.mono (by decide)) T.Jointsfollow.b .nil pass0 (pa_cons pe_bl pa_nil)) pe_int (fun _ _ => rfl)) (pe_ix ix_list (pe_meth (pv 1) T.cl_Joints T.m_Jointsfollow (ok_Jointsfollow (P := P) (w := w) (base := base) T) (hr.mono (by decide)) T.Jointsfollow.b .nil pass0 (pa_cons pe_bl pa_nil)) pe_int (fun _ _ => rfl)) (nomark _)) (pss_one (ps_ret pe_non)) pss_nil)
      (pss_one (ps_ret (pe_tup (pa_cons (pe_meth (pv 1) T.cl_Joints T.m_Jointsorders (ok_Jointsorders (P := P) (w := w) (base := base) T) (hr.mono (by decide)) T.Jointsorders.b .nil pass0 (pa_cons pe_bl pa_nil)) (pa_cons (pe_meth (pv 1) T.cl_Joints T.m_Jointsorders (ok_Jointsorders (P := P) (w := w) (base := base) T) (hr.mono (by decide)) T.Jointsorders.b .nil pass0 (pa_cons pe_bl pa_nil)) pa_nil))))))))), ?_⟩
    refine ⟨_, rfl, e, p, q, a, b, rfl, hE, hU, sa, sb, es, fun v H1 e1 hv => ⟨rfl, _, rfl, ?_⟩⟩
    rw [hv.non]
    refine ite2 (fun hsome => ?_) (fun hnone => ?_)
    · have hs : unitOf a b ≠ none := fun z => by rw [decide_eq_true z] at hsome; cases hsome
      exact k _ _ e1 ⟨fun _ => rfl, fun z => absurd z hs⟩
    · have hs : unitOf a b = none := Classical.byContradiction fun z => hnone (by rw [decide_eq_false z]; rfl)
      have hn' : a.length + b.length ≤ 14 := by
        rcases hn with h | h
        · exact absurd hs h
        · exact h
      have hE1 := hE.mono e1
      refine ⟨_, rfl, e, p, q, a, b, rfl, hE1, hU, sa, sb, es, _, _, rfl, by omega, ?_⟩
      -- joints = Joints(evening)
      refine ⟨_, rfl, fun x dx nx ndx ne => ?_⟩
      have en : Ex H1 (upd (upd H1 dx (.own x)) x (.ins T.CJoints dx [])) := Ex.tr (Ex.nw ndx) (Ex.nw (by rw [upd_ne ne.symm]; exact nx))
      refine ⟨x, dx, e, p, q, a, b, rfl, upd_same, hE1.mono en, hU, sa, sb, es, hn', fun H2 kp hJ => ⟨rfl, ?_⟩⟩
      have e12 : Ex H1 H2 := fun c o hc => kp c o (en c o hc) (ne_of_none hc nx)
      have pe := people_of sa sb es
      have hne : ∀ lot, lot < 2 ^ (a.length + b.length) - 1 → nexts a.length b.length (ms (wOf a b) (a.length + b.length) lot) lot ≠ [] := fun lot hl => nexts_some pe hl
      have pw := Nat.two_pow_pos (a.length + b.length)
      have meth : ∀ {H' : Hp}, JAt T.CJoints H' x a.length b.length (wOf a b) → ∃ dx fs, H' x = some (.ins T.CJoints dx fs) ∧ NoM fs := fun h => by
        obtain ⟨dx, gp, fs, G, h1, _, _, _, _, h6, _⟩ := h
        exact ⟨dx, fs, h1, h6⟩
      obtain ⟨d2, f2, hx2, no2⟩ := meth hJ
      refine ⟨_, rfl, x, d2, f2, rfl, hx2, no2.meth, x, _, _, _, true, rfl, hJ, hn', fun p1 H3 fmin hp1 e3 hf1 l1 fol1 => ?_⟩
      have hJ3 := hJ.mono e3
      obtain ⟨d3, f3, hx3, no3⟩ := meth hJ3
      refine ⟨p1, _, 0, _, rfl, rfl, SqL.of hf1, atI_nat (j := 0) (at0_getV (by omega)), ?_⟩
      refine ⟨_, rfl, x, d3, f3, rfl, hx3, no3.meth, x, _, _, _, false, rfl, hJ3, hn', fun p2 H4 fmax hp2 e4 hf2 l2 fol2 => ?_⟩
      have hJ4 := hJ3.mono e4
      have e14 := Ex.tr e1 (Ex.tr e12 (Ex.tr e3 e4))
      refine ⟨p2, _, 0, _, rfl, rfl, SqL.of hf2, atI_nat (j := 0) (at0_getV (by omega)), rfl, _, rfl, ?_⟩
      rw [eq_ints]
      refine ite2 (fun heq => ?_) (fun hneq => ?_)
      · exact k _ _ e14 ⟨fun _ => rfl, fun _ => ⟨_, _, fol1, fol2, fun _ => rfl, fun z => absurd (of_decide_eq_true heq) z⟩⟩
      · obtain ⟨d4, f4, hx4, no4⟩ := meth hJ4
        refine ⟨_, rfl, x, d4, f4, rfl, hx4, no4.meth, x, _, _, _, false, rfl, hJ4, hn', hne, fun c1 H5 e5 => ?_⟩
        have hJ5 := hJ4.mono e5
        obtain ⟨d5, f5, hx5, no5⟩ := meth hJ5
        refine ⟨_, rfl, x, d5, f5, rfl, hx5, no5.meth, x, _, _, _, true, rfl, hJ5, hn', hne, fun c2 H6 e6 => ⟨by show 2 ≤ sizeLine; decide, fun c hc => ?_⟩⟩
        refine k _ _ (Ex.tr e14 (Ex.tr e5 (Ex.tr e6 (Ex.nw hc)))) ⟨fun z => absurd hs z, fun _ => ⟨_, _, fol1, fol2, fun z => absurd (decide_eq_true z) hneq, fun _ z => by cases z⟩⟩
theorem ok_queuesalike (T : Tx K mg) : FnOk P w K mg base CX0 9 T.queuesalike.f T.queuesalike.fd ["evening"] (spEv K T.CEvening fun H Q p q a b => (unitOf a b ≠ none ∨ a.length + b.length ≤ 14) ∧ ∀ v H', Ex H H' → UQ a b v → Q (.bl (decide (v = .non))) H') := by
  refine T.queuesalike.F.ok sc_queuesalike (fun vs H Q E h => ?_) (fun cdv A outer s H vs Q E hr h => ?_)
  · obtain ⟨_, _, _, _, _, rfl, _⟩ := h
    rfl
  · obtain ⟨e, p, q, a, b, rfl, hE, hU, sa, sb, es, hn, k⟩ := h
    refine ⟨_, (pss_one (ps_ret (pe_cmpR op_isN (pe_call (ok_unlikequeues (P := P) (w := w) (base := base) T) (hr.mono (by decide)) (by rfl) T.g_unlikequeues T.unlikequeues.F.kp T.unlikequeues.b .nil pass0 (pa_cons (pv 0) pa_nil)) pe_non (nomark _)))), ?_⟩
    exact ⟨_, rfl, e, p, q, a, b, rfl, hE, hU, sa, sb, es, hn, fun v H1 e1 hv => ⟨rfl, k v H1 e1 hv⟩⟩
end
end K70
end
section
set_option Elab.async false
set_option linter.all false
set_option maxRecDepth 100000
set_option maxHeartbeats 4000000
set_option pp.maxSteps 400
namespace K70
open PySem PySem.Spec PyProof.Rows L2
open Evl (Ex ex_l ex_t fresh_back)
/-! ### parts.py -/
theorem bit_in {mask i : Nat} : (!decide (V.int (Builtin.bitAnd (mask : Int) ((2 ^ i : Nat) : Int)) = V.int 0)) = mask.testBit i := by
  rw [bitAnd_pp (Int.natCast_nonneg _) (Int.natCast_nonneg _), Int.toNat_natCast, Int.toNat_natCast, eq_ints]
  by_cases h : mask.testBit i = true
  · rw [h]
    have : mask &&& 2 ^ i ≠ 0 := fun e => by
      have h2 : (mask &&& 2 ^ i).testBit i = true := by rw [Nat.testBit_and, h, Nat.testBit_two_pow_self]; rfl
      rw [e, Nat.zero_testBit] at h2; cases h2
    rw [decide_eq_false (by omega)]; rfl
  · have hf : mask.testBit i = false := by cases q : mask.testBit i with | true => exact absurd q h | false => rfl
    rw [hf]
    have : mask &&& 2 ^ i = 0 := by
      apply Nat.eq_of_testBit_eq
      intro j
      rw [Nat.testBit_and, Nat.zero_testBit]
      by_cases e : i = j
      · subst e; rw [hf]; rfl
      · rw [Nat.testBit_two_pow_of_ne e, Bool.and_false]
    rw [this]; rfl
theorem bit_clr {mask i : Nat} : Builtin.bitXor (mask : Int) ((2 ^ i : Nat) : Int) = ((mask ^^^ 2 ^ i : Nat) : Int) := by
  rw [Bits.bitXor_pp (Int.natCast_nonneg _) (Int.natCast_nonneg _), Int.toNat_natCast, Int.toNat_natCast]
theorem bit_one {i : Nat} : (1 : Int) * 2 ^ (i : Int).toNat = ((2 ^ i : Nat) : Int) := by
  rw [Int.toNat_natCast]; simp
theorem atI_end {xs : List V} {n : Nat} {v : V} (hl : xs.length = n + 1) (h : xs[n]? = some v) : atI xs (-1) = some v := by
  have hne : xs ≠ [] := fun z => by rw [z] at hl; cases hl
  have e := List.dropLast_concat_getLast hne
  have : xs.getLast hne = v := by
    rw [List.getLast_eq_getElem]
    have := List.getElem?_eq_getElem (l := xs) (i := xs.length - 1) (by omega)
    have e2 : xs.length - 1 = n := by omega
    simp only [e2] at this ⊢
    rw [h] at this
    exact (Option.some.inj this).symm
  rw [← e, this]
  exact atI_last _ _
theorem at0_app {f : List Int} {z : Int} {j : Nat} : at0 (f ++ [z]) j = if j = f.length then z else at0 f j := by
  unfold at0
  rw [List.getD_eq_getElem?_getD, List.getD_eq_getElem?_getD]
  by_cases h : j = f.length
  · subst h; simp
  · rw [if_neg h]
    by_cases h2 : j < f.length
    · rw [List.getElem?_append_left h2]
    · rw [List.getElem?_eq_none (by simp; omega), List.getElem?_eq_none (by omega)]
/-- what best_of has found below the mask k -/
def BPart (n : Nat) (G f : Nat → Int) (c : Nat) : Prop := f 0 = 0 ∧ ∀ k, 0 < k → k < c → ∃ v : Int, 0 ≤ v ∧ (∀ i, i < n → k.testBit i = true → f (k ^^^ 2 ^ i) ≤ v) ∧ (v = 0 ∨ ∃ i, i < n ∧ k.testBit i = true ∧ v = f (k ^^^ 2 ^ i)) ∧
  f k = v + (if G k = 0 then 1 else 0)
theorem BPart.step {n : Nat} {G : Nat → Int} {f : List Int} {c : Nat} {v : Int} (hl : f.length = c) (c0 : 0 < c) (h : BPart n G (at0 f) c) (v0 : 0 ≤ v) (h1 : ∀ i, i < n → c.testBit i = true → at0 f (c ^^^ 2 ^ i) ≤ v)
    (h2 : v = 0 ∨ ∃ i, i < n ∧ c.testBit i = true ∧ v = at0 f (c ^^^ 2 ^ i)) : BPart n G (at0 (f ++ [v + (if G c = 0 then 1 else 0)])) (c + 1) := by
  obtain ⟨h0, hk⟩ := h
  have low : ∀ k i, k ≤ c → k.testBit i = true → at0 (f ++ [v + (if G c = 0 then 1 else 0)]) (k ^^^ 2 ^ i) = at0 f (k ^^^ 2 ^ i) := fun k i hk hb => by
    have := xor_clr hb
    rw [at0_app, if_neg (by omega)]
  refine ⟨by rw [at0_app, if_neg (by omega)]; exact h0, fun k k0 kc => ?_⟩
  by_cases e : k = c
  · subst e
    refine ⟨v, v0, fun i hi hb => by rw [low k i (Nat.le_refl _) hb]; exact h1 i hi hb, ?_, by rw [at0_app, if_pos hl.symm]⟩
    rcases h2 with h2 | ⟨i, hi, hb, e⟩
    · exact .inl h2
    · exact .inr ⟨i, hi, hb, by rw [low k i (Nat.le_refl _) hb]; exact e⟩
  · have kc2 : k ≤ c := by omega
    have kc3 : ¬ k = f.length := by omega
    obtain ⟨v', q0, q1, q2, q3⟩ := hk k k0 (by omega)
    refine ⟨v', q0, fun i hi hb => by rw [low k i kc2 hb]; exact q1 i hi hb, ?_, by rw [at0_app, if_neg kc3]; exact q3⟩
    rcases q2 with q2 | ⟨i, hi, hb, e⟩
    · exact .inl q2
    · exact .inr ⟨i, hi, hb, by rw [low k i kc2 hb]; exact e⟩
section
variable {P : Program} {w : World} {K : PySem.W.Frag} {mg : Str → Option Value} {base : Heap}
theorem ok_sumsbymask (T : Tx K mg) : FnOk P w K mg base CX0 5 T.sumsbymask.f T.sumsbymask.fd ["evening"] (spEv K T.CEvening fun H Q p q a b => a.length + b.length ≤ 14 ∧ ∀ (c : Addr) (H' : Hp) (G : List Int), Ex H H' → H' c = some (.lst (G.map V.int)) → Gaps (wOf a b) (a.length + b.length) G → Q (.ref c) H') := by
  refine T.sumsbymask.F.ok sc_sumsbymask (fun vs H Q E h => ?_) (fun cdv A outer s H vs Q E hr h => ?_)
  · obtain ⟨_, _, _, _, _, rfl, _⟩ := h
    rfl
  · obtain ⟨e, p, q, a, b, rfl, hE, hU, sa, sb, es, hn, k⟩ := h
    refine ⟨_, (pss_cons (ps_asg (pe_call (ok_unitsof (P := P) (w := w) (base := base) T) (hr.mono (by decide)) (by rfl) T.g_unitsof T.unitsof.F.kp T.unitsof.b .nil pass0 (pa_cons (pv 0) pa_nil)) (pg_tup (by rfl) (pgs_cons (pg_name (i := 1) sc_sumsbymask.nd (by rfl) (Or.inl rfl)) (pgs_cons (pg_name (i := 2) sc_sumsbymask.nd (by rfl) (Or.inl rfl)) pgs_nil))))
      (pss_cons (ps_set (i := 3) sc_sumsbymask.nd (by rfl) (Or.inl rfl) (pe_lst (pa_cons pe_int pa_nil)))
      (pss_cons (ps_for PassesOwn.never rfl (pi_list (pv 1)) (pg_name (i := 4) sc_sumsbymask.nd (by rfl) (Or.inr rfl)) (pss_one (ps_set (i := 3) sc_sumsbymask.nd (by rfl) (Or.inl rfl) (pe_op op_cat (pv 3) (pe_lc (own := [(("before" : Str), 5)]) (g := gName 5) (tt := tYes) (by rfl) sc_sumsbymask.nd (pi_list (pv 3)) (blkOk_by (own := [(("before" : Str), 5)]) (N := ["evening", "owed", "due", "found", "item", "before"]) (sc := defScope s_sumsbymask) (by decide +kernel)) (fun _ _ _ _ _ => (pg_name (i := 5) sc_sumsbymask.nd (by rfl) (Or.inl rfl))) (fun _ _ _ _ _ => pts_nil) (fun _ _ _ _ _ => (pe_op op_add (pv 5) (pv 4))))))))
      (pss_cons (ps_for PassesOwn.never rfl (pi_list (pv 2)) (pg_name (i := 4) sc_sumsbymask.nd (by rfl) (Or.inr rfl)) (pss_one (ps_set (i := 3) sc_sumsbymask.nd (by rfl) (Or.inl rfl) (pe_op op_cat (pv 3) (pe_lc (own := [(("before" : Str), 5)]) (g := gName 5) (tt := tYes) (by rfl) sc_sumsbymask.nd (pi_list (pv 3)) (blkOk_by (own := [(("before" : Str), 5)]) (N := ["evening", "owed", "due", "found", "item", "before"]) (sc := defScope s_sumsbymask) (by decide +kernel)) (fun _ _ _ _ _ => (pg_name (i := 5) sc_sumsbymask.nd (by rfl) (Or.inl rfl))) (fun _ _ _ _ _ => pts_nil) (fun _ _ _ _ _ => (pe_op op_sub (pv 5) (pv 4))))))))
      (pss_one (ps_ret (pv 3))))))), ?_⟩
    refine ⟨_, rfl, e, p, q, a, b, rfl, hE, hU, sa, sb, es, fun c l1 l2 H1 e1 hc n1 n2 n12 h1 h2 => ?_⟩
    refine ⟨c, _, rfl, hc, rfl, _, _, rfl, _, _, rfl, rfl, ?_⟩
    -- found = [0]
    refine ⟨Nat.le_trans (show 1 ≤ 1000 by decide) (by decide), fun g0 hg0 => ?_⟩
    have eg : Ex H1 (upd H1 g0 (.lst [.int 0])) := Ex.nw hg0
    -- for item in owed
    refine ⟨_, rfl, l1, rfl, ⟨_, SqL.of (eg _ _ h1)⟩, for_list (K := K) (a := l1) (xs := (a.map (· / gAll (a ++ b))).map V.int)
      (fun i σ H' => ∃ (gp : Addr) (G : List Int) (y : Option V), σ = [some (.ref e), some (.ref l1), some (.ref l2), some (.ref gp), y, none] ∧ Ex H1 H' ∧ H' gp = some (.lst (G.map V.int)) ∧ Gaps (wOf a b) i G) ?_ ?_ ?_ ?_⟩
    · exact ⟨g0, [0], none, rfl, eg, upd_same, Gaps.zero⟩
    · rintro i σ H' _ ⟨_, _, _, _, e', _⟩
      exact SqL.of (e' _ _ h1)
    · rintro i y σ H' hi ⟨gp, G, yo, rfl, e', hG, gG⟩
      rw [List.getElem?_map, List.getElem?_map] at hi
      obtain ⟨z, hz, rfl⟩ := Option.map_eq_some_iff.mp hi
      obtain ⟨x, hx, rfl⟩ := Option.map_eq_some_iff.mp hz
      have hil := (List.getElem?_eq_some_iff.mp hx).1
      have ew : x / gAll (a ++ b) = wOf a b i := by unfold wOf; rw [if_pos hil, at0_get hx]
      rw [ew]
      have p14 := pow14 (n := i) (by omega)
      refine ⟨_, rfl, ?_⟩
      refine comp_list (K := K) (xs := G.map V.int) (RV fun k => .int (at0 G k + wOf a b i)) (RV.stays _) (fun R' k' => ⟨_, rfl, k' gp H' (Ex.rf H') (SqL.of hG)⟩) (by rw [List.length_map, gG.1]; omega) (fun y => rfl) ?_ ?_
      · intro k y H4 hk e4 Q' k'
        rw [List.getElem?_map] at hk
        obtain ⟨z, hz, rfl⟩ := Option.map_eq_some_iff.mp hk
        refine ⟨_, rfl, _, rfl, _, _, rfl, rfl, k' _ _ (Ex.rf _) ?_⟩
        show V.int _ = V.int _
        rw [at0_get hz]
      · intro D4 H4 ys4 hD4 e4 hys4 m4
        rw [RV.list m4] at hys4
        have hD4' : H4 D4 = some (.lst ((G.map (· + wOf a b i)).map V.int)) := hys4.trans (congrArg (fun z => some (HO.lst z)) (range_ints (f := (· + wOf a b i)) (by simp)))
        refine ⟨gp, D4, _, _, rfl, rfl, e4 _ _ hG, hD4', (by simp only [List.length_map, gG.1]; exact Nat.le_trans (show 2 ^ i + 2 ^ i ≤ 100000 by omega) (by decide)), fun g4 hg4 => ?_⟩
        rw [← List.map_append]
        exact ⟨g4, _, _, rfl, Ex.tr e' (Ex.tr e4 (Ex.nw hg4)), upd_same, gG.step⟩
    · rintro σ H2 ⟨gp, G, yo, rfl, e', hG, gG⟩
      rw [show ((a.map (· / gAll (a ++ b))).map V.int).length = a.length by simp] at gG
      -- for item in due
      refine ⟨_, rfl, l2, rfl, ⟨_, SqL.of (e' _ _ h2)⟩, for_list (K := K) (a := l2) (xs := (b.map (· / gAll (a ++ b))).map V.int)
        (fun i σ H' => ∃ (gp : Addr) (G : List Int) (y : Option V), σ = [some (.ref e), some (.ref l1), some (.ref l2), some (.ref gp), y, none] ∧ Ex H1 H' ∧ H' gp = some (.lst (G.map V.int)) ∧ Gaps (wOf a b) (a.length + i) G) ?_ ?_ ?_ ?_⟩
      · exact ⟨gp, G, _, rfl, e', hG, gG⟩
      · rintro i σ H' _ ⟨_, _, _, _, e', _⟩
        exact SqL.of (e' _ _ h2)
      · rintro i y σ H' hi ⟨gp, G, yo, rfl, e', hG, gG⟩
        rw [List.getElem?_map, List.getElem?_map] at hi
        obtain ⟨z, hz, rfl⟩ := Option.map_eq_some_iff.mp hi
        obtain ⟨x, hx, rfl⟩ := Option.map_eq_some_iff.mp hz
        have hil := (List.getElem?_eq_some_iff.mp hx).1
        have ew : ∀ u : Int, u - x / gAll (a ++ b) = u + wOf a b (a.length + i) := fun u => by unfold wOf; rw [if_neg (by omega), show a.length + i - a.length = i by omega, at0_get hx]; rfl
        have p14 := pow14 (n := a.length + i) (by omega)
        refine ⟨_, rfl, ?_⟩
        refine comp_list (K := K) (xs := G.map V.int) (RV fun k => .int (at0 G k + wOf a b (a.length + i))) (RV.stays _) (fun R' k' => ⟨_, rfl, k' gp H' (Ex.rf H') (SqL.of hG)⟩) (by rw [List.length_map, gG.1]; omega) (fun y => rfl) ?_ ?_
        · intro k y H4 hk e4 Q' k'
          rw [List.getElem?_map] at hk
          obtain ⟨z, hz, rfl⟩ := Option.map_eq_some_iff.mp hk
          refine ⟨_, rfl, _, rfl, _, _, rfl, rfl, k' _ _ (Ex.rf _) ?_⟩
          show V.int _ = V.int _
          rw [at0_get hz, ew]
        · intro D4 H4 ys4 hD4 e4 hys4 m4
          rw [RV.list m4] at hys4
          have hD4' : H4 D4 = some (.lst ((G.map (· + wOf a b (a.length + i))).map V.int)) := hys4.trans (congrArg (fun z => some (HO.lst z)) (range_ints (f := (· + wOf a b (a.length + i))) (by simp)))
          refine ⟨gp, D4, _, _, rfl, rfl, e4 _ _ hG, hD4', (by simp only [List.length_map, gG.1]; exact Nat.le_trans (show 2 ^ (a.length + i) + 2 ^ (a.length + i) ≤ 100000 by omega) (by decide)), fun g4 hg4 => ?_⟩
          rw [← List.map_append]
          exact ⟨g4, _, _, rfl, Ex.tr e' (Ex.tr e4 (Ex.nw hg4)), upd_same, gG.step⟩
      · rintro σ H3 ⟨gp, G, yo, rfl, e', hG, gG⟩
        rw [show ((b.map (· / gAll (a ++ b))).map V.int).length = b.length by simp] at gG
        exact ⟨_, rfl, k gp H3 G (Ex.tr e1 e') hG gG⟩
def spBestOf (K : PySem.W.Frag) : Sp := fun vs H Q _ => ∃ (c : Addr) (n : Nat) (W : Nat → Int) (G : List Int), vs = [.ref c, .int n] ∧ H c = some (.lst (G.map V.int)) ∧ Gaps W n G ∧ n ≤ 14 ∧
  ∀ (p : Addr) (H' : Hp) (f : List Int), Ex H H' → H' p = some (.lst (f.map V.int)) → f.length = 2 ^ n → Best n (ms W n) (at0 f) → Q (.ref p) H'
theorem ok_bestof (T : Tx K mg) : FnOk P w K mg base CX0 1 T.bestof.f T.bestof.fd ["sums", "many"] (spBestOf K) := by
  refine T.bestof.F.ok sc_bestof (fun vs H Q E h => ?_) (fun cdv A outer s H vs Q E hr h => ?_)
  · obtain ⟨_, _, _, _, rfl, _⟩ := h
    rfl
  · obtain ⟨c, n, W, G, rfl, hc, gG, hn, k⟩ := h
    refine ⟨_, (pss_cons (ps_setLc (i := 2) (own := [(("person" : Str), 7)]) (g := gName 7) (tt := tYes) (by rfl) sc_bestof.nd (by rfl) (by rfl) (sw_true (by rfl) (by rfl) (by rfl) (by decide +kernel)) (pi_range1 (by rfl) T.n_range (pa_cons (pv 1) pa_nil)) (blkOk_by (own := [(("person" : Str), 7)]) (N := ["sums", "many", "bits", "found", "mask", "best", "bit", "person"]) (sc := defScope s_bestof) (by decide +kernel)) (fun _ _ _ _ _ => (pg_name (i := 7) sc_bestof.nd (by rfl) (Or.inl rfl))) (fun _ _ _ _ _ => pts_nil) (fun _ _ _ _ _ => (pe_op op_shl pe_int (pv 7))))
      (pss_cons (ps_set (i := 3) sc_bestof.nd (by rfl) (Or.inl rfl) (pe_lst (pa_cons pe_int pa_nil)))
      (pss_cons (ps_for PassesOwn.never rfl (pi_range2 (by rfl) T.n_range (pa_cons pe_int (pa_cons (pe_callB call_len_seq (by rfl) T.n_len (by decide +kernel) (pa_cons (pv 0) pa_nil)) pa_nil))) (pg_name (i := 4) sc_bestof.nd (by rfl) (Or.inl rfl)) (pss_cons (ps_set (i := 5) sc_bestof.nd (by rfl) (Or.inl rfl) pe_int)
      (pss_cons (ps_for PassesOwn.never rfl (pi_list (pv 2)) (pg_name (i := 6) sc_bestof.nd (by rfl) (Or.inl rfl)) (pss_one (ps_if (PW.pt (pw_and (pt_cmpR op_ne (pe_op op_and (pv 4) (pv 6)) pe_int (nomark _)) (pw_and1 (pt_cmpR op_gt (pe_ix ix_list (pv 3) (pe_op op_xor (pv 4) (pv 6)) (fun _ _ => rfl)) (pv 5) (nomark _))))) (pss_one (ps_set (i := 5) sc_bestof.nd (by rfl) (Or.inl rfl) (pe_ix ix_list (pv 3) (pe_op op_xor (pv 4) (pv 6)) (fun _ _ => rfl)))) pss_nil)))
      (pss_one (ps_expr (pe_bm PySem.F.plainAttrs_list PySem.F.slot_list_append PySem.F.type_list_append mt_append (pv 3) (pa_cons (pe_op op_add (pv 5) (pe_callTy call_int1 (by rfl) T.n_int (by decide +kernel) (pa_cons (pe_cmpR op_eq (pe_ix ix_list (pv 0) (pv 4) (fun _ _ => rfl)) pe_int (nomark _)) pa_nil))) pa_nil)))))))
      (pss_one (ps_ret (pv 3)))))), ?_⟩
    have p14 := pow14 hn
    have pw := Nat.two_pow_pos n
    -- bits
    refine sq_asg (comp_range (RV fun i => .int ((2 ^ i : Nat) : Int)) (RV.stays _) (n := (n : Int)) (fun R' k' => ⟨_, rfl, k' H (Ex.rf H)⟩) (by omega) (fun x => rfl) ?_ ?_)
    · intro i H' hi e' Q' k'
      refine ⟨_, rfl, _, _, rfl, rfl, ⟨by omega, by omega, by decide⟩, k' _ _ (Ex.rf _) ?_⟩
      show V.int _ = V.int _
      rw [bit_one]
    · intro D H1 ys hD e1 hys mm
      rw [RV.list mm, Int.toNat_natCast] at hys
      refine gn ?_
      try dsimp only
      -- found = [0]
      refine ⟨Nat.le_trans (show 1 ≤ 1000 by decide) (by decide), fun g hg => ?_⟩
      have eg : Ex H1 (upd H1 g (.lst [.int 0])) := Ex.nw hg
      -- for mask in range(1, len(sums))
      refine ⟨_, rfl, c, _, rfl, .inl (SqL.of (eg _ _ (e1 _ _ hc))), 1, _, rfl, ⟨by decide, by decide, by omega, by rw [List.length_map, gG.1]; omega⟩, ?_⟩
      rw [List.length_map, gG.1, show (((2 ^ n : Nat) : Int) - 1).toNat = 2 ^ n - 1 by omega]
      refine for_range (lo := 1) (n := 2 ^ n - 1) (fun i σ H' => ∃ (f : List Int) (y4 y5 y6 : Option V), σ = [some (.ref c), some (.int n), some (.ref D), some (.ref g), y4, y5, y6, none] ∧ Ex H1 H' ∧ H' g = some (.lst (f.map V.int)) ∧ f.length = 1 + i ∧ BPart n (ms W n) (at0 f) (1 + i)) ?_ ?_ ?_
      · exact ⟨[0], none, none, none, rfl, eg, upd_same, rfl, rfl, fun k h1 h2 => by omega⟩
      · rintro i σ H' hi ⟨f, y4, y5, y6, rfl, e', hf, fl, bp⟩
        rw [show (1 : Int) + (i : Int) = ((1 + i : Nat) : Int) by omega]
        generalize hM : 1 + i = M at *
        have hMn : M < 2 ^ n := by omega
        refine gn ?_
        try dsimp only
        -- best = 0
        refine ⟨_, rfl, D, rfl, ⟨_, SqL.of (e' _ _ hys)⟩, for_list (K := K) (a := D) (xs := (List.range n).map fun i => V.int ((2 ^ i : Nat) : Int))
          (fun j σ H2 => H2 = H' ∧ ∃ (v : Int) (y6 : Option V), σ = [some (.ref c), some (.int n), some (.ref D), some (.ref g), some (.int (M : Nat)), some (.int v), y6, none] ∧ 0 ≤ v ∧ (∀ i, i < j → M.testBit i = true → at0 f (M ^^^ 2 ^ i) ≤ v) ∧
            (v = 0 ∨ ∃ i, i < j ∧ M.testBit i = true ∧ v = at0 f (M ^^^ 2 ^ i))) ?_ ?_ ?_ ?_⟩
        · exact ⟨rfl, 0, _, rfl, Int.le_refl _, fun i h => absurd h (Nat.not_lt_zero _), .inl rfl⟩
        · rintro j σ H2 _ ⟨rfl, _⟩
          exact SqL.of (e' _ _ hys)
        · rintro j x σ H2 hj ⟨rfl, v, y6, rfl, v0, hv, hv2⟩
          rw [List.getElem?_map] at hj
          obtain ⟨z, hz, rfl⟩ := Option.map_eq_some_iff.mp hj
          have hjn : j < n := by have := (List.getElem?_eq_some_iff.mp hz).1; simpa using this
          rw [List.getElem?_range hjn] at hz
          cases Option.some.inj hz
          refine ⟨_, rfl, _, rfl, _, _, rfl, rfl, rfl, _, rfl, ?_⟩
          rw [bit_in]
          cases hb : M.testBit j with
          | false =>
            refine iteF (iteF ?_)
            refine ⟨rfl, v, _, rfl, v0, fun i hi hbi => ?_, ?_⟩
            · by_cases e : i = j
              · subst e; rw [hb] at hbi; cases hbi
              · exact hv i (by omega) hbi
            · rcases hv2 with h | ⟨i, hi, hbi, h⟩
              · exact .inl h
              · exact .inr ⟨i, by omega, hbi, h⟩
          | true =>
            refine iteT ?_
            have lt := xor_clr hb
            have hidx : (f.map V.int)[M ^^^ 2 ^ j]? = some (.int (at0 f (M ^^^ 2 ^ j))) := at0_getV (by omega)
            have ix : ∀ z, z = Builtin.bitXor ((M : Nat) : Int) ((2 ^ j : Nat) : Int) → atI (f.map V.int) z = some (.int (at0 f (M ^^^ 2 ^ j))) := fun z hz => by
              rw [hz, bit_clr]; exact atI_nat hidx
            refine ⟨_, rfl, _, rfl, _, rfl, _, _, rfl, rfl, g, _, _, _, rfl, rfl, SqL.of hf, ix _ rfl, _, rfl, _, _, rfl, rfl, _, rfl, ?_⟩
            refine ite2 (fun hgt => ?_) (fun hng => ?_)
            · have hgt' : v < at0 f (M ^^^ 2 ^ j) := of_decide_eq_true hgt
              refine ⟨_, rfl, _, rfl, _, rfl, _, _, rfl, rfl, g, _, _, _, rfl, rfl, SqL.of hf, ix _ rfl, ?_⟩
              refine ⟨rfl, _, _, rfl, by omega, fun i hi hbi => ?_, .inr ⟨j, by omega, hb, rfl⟩⟩
              by_cases e : i = j
              · subst e; exact Int.le_refl _
              · have := hv i (by omega) hbi
                omega
            · have hng' : ¬ v < at0 f (M ^^^ 2 ^ j) := fun q => hng (decide_eq_true q)
              refine ⟨rfl, v, _, rfl, v0, fun i hi hbi => ?_, ?_⟩
              · by_cases e : i = j
                · subst e; omega
                · exact hv i (by omega) hbi
              · rcases hv2 with h | ⟨i, hi, hbi, h⟩
                · exact .inl h
                · exact .inr ⟨i, by omega, hbi, h⟩
        · rintro σ H2 ⟨rfl, v, y6, rfl, v0, hv, hv2⟩
          rw [show ((List.range n).map fun i => V.int ((2 ^ i : Nat) : Int)).length = n by simp] at hv hv2
          -- found.append(best + int(sums[mask] == 0))
          have hcs := e' _ _ (e1 _ _ hc)
          refine ⟨_, rfl, .inl ⟨rfl, _, SqL.of hf⟩, _, rfl, _, rfl, _, rfl, c, _, _, _, rfl, rfl, SqL.of hcs, atI_nat (gG.at hMn), rfl, .inr ⟨_, rfl, _, _, rfl, rfl, g, _, _, rfl, rfl, hf, Evl.sz_lt (by rw [List.length_map]; omega), ?_⟩⟩
          refine ⟨f ++ [v + (if ms W n M = 0 then 1 else 0)], _, _, _, rfl, Ex.mt e' hg, ?_, by rw [List.length_append]; simp; omega, ?_⟩
          · rw [upd_same, List.map_append]
            exact congrArg (fun z => some (HO.lst (f.map V.int ++ [V.int (v + z)]))) intV_zero
          · have := BPart.step fl (by omega) bp v0 hv hv2
            rw [show 1 + (i + 1) = M + 1 by omega]
            exact this
      · rintro σ H' ⟨f, y4, y5, y6, rfl, e', hf, fl, bp⟩
        refine ⟨_, rfl, k g H' f (Ex.tr e1 e') hf (by omega) ⟨bp.1, fun k' h1 h2 => bp.2 k' h1 (by omega)⟩⟩
/-- the list of the most even masks -/
theorem ok_bestbymask (T : Tx K mg) : FnOk P w K mg base CX0 6 T.bestbymask.f T.bestbymask.fd ["evening"] (spEv K T.CEvening fun H Q p q a b => a.length + b.length ≤ 14 ∧ ∀ (c : Addr) (H' : Hp) (f : List Int), Ex H H' → H' c = some (.lst (f.map V.int)) → f.length = 2 ^ (a.length + b.length) →
    Best (a.length + b.length) (ms (wOf a b) (a.length + b.length)) (at0 f) → Q (.ref c) H') := by
  refine T.bestbymask.F.ok sc_bestbymask (fun vs H Q E h => ?_) (fun cdv A outer s H vs Q E hr h => ?_)
  · obtain ⟨_, _, _, _, _, rfl, _⟩ := h
    rfl
  · obtain ⟨e, p, q, a, b, rfl, hE, hU, sa, sb, es, hn, k⟩ := h
    refine ⟨_, (pss_one (ps_ret (pe_call (ok_bestof (P := P) (w := w) (base := base) T) (hr.mono (by decide)) (by rfl) T.g_bestof T.bestof.F.kp T.bestof.b .nil pass0 (pa_cons (pe_call (ok_sumsbymask (P := P) (w := w) (base := base) T) (hr.mono (by decide)) (by rfl) T.g_sumsbymask T.sumsbymask.F.kp T.sumsbymask.b .nil pass0 (pa_cons (pv 0) pa_nil)) (pa_cons (pe_call (ok_people (P := P) (w := w) (base := base) T) (hr.mono (by decide)) (by rfl) T.g_people T.people.F.kp T.people.b .nil pass0 (pa_cons (pv 0) pa_nil)) pa_nil))))), ?_⟩
    refine ⟨_, rfl, e, p, q, a, b, rfl, hE, hU, sa, sb, es, hn, fun c H1 G e1 hc gG => ?_⟩
    refine ⟨_, rfl, e, p, q, a, b, rfl, hE.mono e1, hU, sa, sb, es, ?_⟩
    exact ⟨c, _, _, G, rfl, hc, gG, hn, fun p2 H2 f e2 hf fl bf => k p2 H2 f (Ex.tr e1 e2) hf fl bf⟩
theorem ok_mostparts (T : Tx K mg) : FnOk P w K mg base CX0 7 T.mostparts.f T.mostparts.fd ["evening"] (spEv K T.CEvening fun H Q p q a b => a.length + b.length ≤ 14 ∧ ∀ (f : Nat → Int) (H' : Hp), Ex H H' → Best (a.length + b.length) (ms (wOf a b) (a.length + b.length)) f →
    Q (.int (f (2 ^ (a.length + b.length) - 1))) H') := by
  refine T.mostparts.F.ok sc_mostparts (fun vs H Q E h => ?_) (fun cdv A outer s H vs Q E hr h => ?_)
  · obtain ⟨_, _, _, _, _, rfl, _⟩ := h
    rfl
  · obtain ⟨e, p, q, a, b, rfl, hE, hU, sa, sb, es, hn, k⟩ := h
    refine ⟨_, (pss_cons (ps_expr (pe_call (ok_checkpeople (P := P) (w := w) (base := base) T) (hr.mono (by decide)) (by rfl) T.g_checkpeople T.checkpeople.F.kp T.checkpeople.b .nil pass0 (pa_cons (pv 0) (pa_cons (pe_glob (v := .int 14) (by rfl) T.v_MOST_PEOPLE ⟨_, rfl⟩) pa_nil))))
      (pss_one (ps_ret (pe_ix ix_list (pe_call (ok_bestbymask (P := P) (w := w) (base := base) T) (hr.mono (by decide)) (by rfl) T.g_bestbymask T.bestbymask.F.kp T.bestbymask.b .nil pass0 (pa_cons (pv 0) pa_nil)) (pe_un un_neg pe_int) (fun _ _ => rfl))))), ?_⟩
    refine ⟨_, rfl, e, p, q, a, b, _, rfl, hE, hU, sa, sb, es, by omega, ?_⟩
    refine ⟨_, rfl, e, p, q, a, b, rfl, hE, hU, sa, sb, es, hn, fun c H1 f e1 hf fl bf => ?_⟩
    have pw := Nat.two_pow_pos (a.length + b.length)
    refine ⟨1, rfl, c, _, _, _, rfl, rfl, SqL.of hf, atI_end (n := 2 ^ (a.length + b.length) - 1) (by rw [List.length_map]; omega) (at0_getV (by omega)), k _ _ e1 bf⟩
end
end K70
end
section
set_option Elab.async false
set_option linter.all false
set_option maxRecDepth 100000
set_option maxHeartbeats 4000000
set_option pp.maxSteps 400
namespace K70
open PySem PySem.Spec PyProof.Rows L2
open Evl (Ex ex_l ex_t fresh_back)
/-! ### min, max of a tuple; list(d.keys()) -/
section
variable {X : Cx}
theorem dpAll_ints {K : PySem.W.Frag} {H : Hp} : ∀ ns : List Int, DpAll K H (ns.map V.int) (ns.map PyData.int)
  | [] => .nil
  | n :: ns => .cons (.int n) (dpAll_ints ns)
def rMinT (K : PySem.W.Frag) : List V → Hp → VK → Prop := fun vs H Q => ∃ (a : Addr) (n : Int) (ns : List Int), vs = [V.ref a] ∧ SqT K H a ((n :: ns).map V.int) ∧ Q (.int (PySem.W.minOf n ns)) H
def rMaxT (K : PySem.W.Frag) : List V → Hp → VK → Prop := fun vs H Q => ∃ (a : Addr) (n : Int) (ns : List Int), vs = [V.ref a] ∧ SqT K H a ((n :: ns).map V.int) ∧ Q (.int (PySem.W.maxOf n ns)) H
theorem reads_int {h : Heap} {v : Value} {i : Int} {as : List Addr} (r : Reads h v (.int i) as) : ∃ t, v = .int i t := by
  cases r
  exact ⟨_, rfl⟩
theorem cr_minT (hc : X.calm = true) (hu : X.A.units + 64 < cLine) : CallR X (.builtin "min") (rMinT X.K) := by
  intro pins s σ H vs us Q I r h
  obtain ⟨a, n, ns, rfl, hs, q⟩ := h
  obtain ⟨its, rv, hl, _⟩ := I.tuple hs
  rw [Vals.ref1 r]
  obtain ⟨as, hr⟩ := Dp.readsAll I _ _ _ (dpAll_ints (n :: ns)) rv
  refine PySem.W.min_tuple_datum (α := Int) (x := n) (xs := ns) (I.ok.hd hc) hl ⟨as, hr⟩ (by show X.A.units + 1 + 0 < cLine; omega) fun i v h' tk hi ⟨bs, rd⟩ hk => ?_
  obtain ⟨t, rfl⟩ := reads_int rd
  exact ⟨.int _, H, I.kept hk, ⟨_, rfl⟩, q⟩
theorem cr_maxT (hc : X.calm = true) (hu : X.A.units + 64 < cLine) : CallR X (.builtin "max") (rMaxT X.K) := by
  intro pins s σ H vs us Q I r h
  obtain ⟨a, n, ns, rfl, hs, q⟩ := h
  obtain ⟨its, rv, hl, _⟩ := I.tuple hs
  rw [Vals.ref1 r]
  obtain ⟨as, hr⟩ := Dp.readsAll I _ _ _ (dpAll_ints (n :: ns)) rv
  refine PySem.W.max_tuple_datum (α := Int) (x := n) (xs := ns) (I.ok.hd hc) hl ⟨as, hr⟩ (by show X.A.units + 1 + 0 < cLine; omega) fun i v h' tk hi ⟨bs, rd⟩ hk => ?_
  obtain ⟨t, rfl⟩ := reads_int rd
  exact ⟨.int _, H, I.kept hk, ⟨_, rfl⟩, q⟩
theorem minOf_le {n : Int} {ns : List Int} : PySem.W.minOf n ns ≤ n ∧ (∀ x ∈ ns, PySem.W.minOf n ns ≤ x) ∧ PySem.W.minOf n ns ∈ n :: ns := by
  induction ns generalizing n with
  | nil => exact ⟨Int.le_refl _, by simp, by simp [PySem.W.minOf]⟩
  | cons y ys ih =>
    have e : PySem.W.minOf n (y :: ys) = PySem.W.minOf (if y < n then y else n) ys := by
      unfold PySem.W.minOf
      rw [List.foldl_cons]
      congr 1
      show (if decide (y < n) = true then y else n) = if y < n then y else n
      by_cases h : y < n
      · rw [if_pos (decide_eq_true h), if_pos h]
      · rw [if_neg (by simpa using h), if_neg h]
    rw [e]
    obtain ⟨h1, h2, h3⟩ := ih (n := if y < n then y else n)
    refine ⟨?_, fun x hx => ?_, ?_⟩
    · split at h1 <;> split <;> omega
    · rcases List.mem_cons.mp hx with rfl | hx
      · split at h1 <;> split <;> omega
      · exact h2 x hx
    · rcases List.mem_cons.mp h3 with h | h
      · rw [h]; split <;> simp
      · exact List.mem_cons_of_mem _ (List.mem_cons_of_mem _ h)
theorem maxOf_ge {n : Int} {ns : List Int} : n ≤ PySem.W.maxOf n ns ∧ (∀ x ∈ ns, x ≤ PySem.W.maxOf n ns) ∧ PySem.W.maxOf n ns ∈ n :: ns := by
  induction ns generalizing n with
  | nil => exact ⟨Int.le_refl _, by simp, by simp [PySem.W.maxOf]⟩
  | cons y ys ih =>
    have e : PySem.W.maxOf n (y :: ys) = PySem.W.maxOf (if n < y then y else n) ys := by
      unfold PySem.W.maxOf
      rw [List.foldl_cons]
      congr 1
      show (if decide (n < y) = true then y else n) = if n < y then y else n
      by_cases h : n < y
      · rw [if_pos (decide_eq_true h), if_pos h]
      · rw [if_neg (by simpa using h), if_neg h]
    rw [e]
    obtain ⟨h1, h2, h3⟩ := ih (n := if n < y then y else n)
    refine ⟨?_, fun x hx => ?_, ?_⟩
    · split at h1 <;> split <;> omega
    · rcases List.mem_cons.mp hx with rfl | hx
      · split at h1 <;> split <;> omega
      · exact h2 x hx
    · rcases List.mem_cons.mp h3 with h | h
      · rw [h]; split <;> simp
      · exact List.mem_cons_of_mem _ (List.mem_cons_of_mem _ h)
/-- list(e.keys()) -/
def tListKeys (te : TE) : TE := fun σ H Q => te σ H fun x H1 => ∃ (d : Addr) (kvs : List (Key × V)), x = .ref d ∧ H1 d = some (.dK kvs) ∧ ∀ p, H1 p = none → Q (.ref p) (upd H1 p (.lst (kvs.map fun kv => kV kv.1)))
theorem pe_listKeys {e : Expr} {te : TE} {p apos cpos pos : PySem.Pos} (hc : X.calm = true) (he : PE X e te) (hg : Gl X "list") (hm : X.mg "list" = none) (hv : bootBuiltins "list" = some (.type "list")) (hbase : attributeBase e "keys" X.env (eval e X.env) = eval e X.env := by rfl) (hline : (apos.endLine == cpos.line) = true := by rfl)
    (hs : starEach [.Call (.Attribute e "keys" apos) [] [] cpos] X.env = (false, eval (.Call (.Attribute e "keys" apos) [] [] cpos) X.env) :: starEach [] X.env := by rfl) :
    PE X (.Call (.Name "list" p) [.Call (.Attribute e "keys" apos) [] [] cpos] [] pos) (tListKeys te) := by
  refine ⟨fun pins s σ H Q I hq => ?_⟩
  refine wpAny_Call_Name_kw (ld_blt I hg hm hv ?_)
  refine PyProof.Rows.callWith_type1 ?_ hs rfl
  rw [hs]
  show wpAny _ _ (spliced ((false, eval (.Call (.Attribute e "keys" apos) [] [] cpos) X.env) :: backTo pos (starEach [] X.env))) _ _ s
  refine Calls.spliced_cons ?_
  refine wpAny_Call_method (T := "dict") (id := "dict.keys") hbase rfl hline PySem.F.plainAttrs_dict PySem.F.slot_dict_keys PySem.F.type_dict_keys (thn (he.run pins s σ H _ I hq) fun u s1 ⟨x, H1, I1, rx, d, kvs, ex, hd, q⟩ => ?_)
  subst ex
  obtain rfl : u = Value.ref d := rx
  obtain ⟨hz, hs0, vs, kv, hdo⟩ := I1.hok d _ hd
  obtain ⟨ep, hat⟩ := hdo.dictAt
  have lk : kvs.length = vs.length := Paired.length kv
  have I2 : Inv X pins σ H1 { s1 with heap := s1.heap.push { cls := .type "dict_keys", data := .fields #[.ref d] } } := I1.kept (t' := s1.toks) fun b ob q => Heap.get?_push_of_some _ q
  refine ⟨hdo.typeIs, hdo.mapOf.noDict, ?_⟩
  show wpAny _ _ (callWith cpos (.builtin "dict.keys") [.ref d] [] []) _ X.xe s1
  refine method_meetsIn PySem.F.slot_dict_keys PySem.F.entry_dict_keys rfl (PySem.evalArgs_none ⟨rfl, hdo.typeIs, PySem.F.args_dict_keys_1 _, _, PySem.W.kdl_meets_keys (mixKind X.prog X.w) d hs0, ⟨vs, hdo⟩, ?_⟩)
  refine Calls.spliced_nil ?_
  refine PySem.W.kdl_call (PySem.W.kdl_keys (knd := mixKind X.prog X.w) (kvs := vs) (ep := ep) (d := d)) (I1.ok.hd hc) ⟨⟨_, Heap.get?_push_size _ rfl, rfl, rfl⟩, hat.push _⟩ (by omega) fun h' tk acc' c' hkeep hS hacc => ?_
  refine ⟨.ref _, upd H1 _ (.lst (kvs.map fun kv => kV kv.1)), I2.laid hkeep (Nat.le_refl _) (show ObjOk X.prog X.w _ _ _ (.lst (kvs.map fun kv => kV kv.1)) from ⟨?_, acc'.toList, c', ?_, ?_⟩), rfl, q _ (I2.hok.fresh (Nat.le_refl _))⟩
  · rw [List.length_map]; exact hz
  · have el : acc'.toList.length = acc'.size := by simp
    refine vals_of_at (by rw [List.length_map, el, hacc.1, lk]) fun j x w h1 h2 => ?_
    obtain ⟨k, y, hky, hi⟩ := hacc.2 j w (by rw [← Array.getElem?_toList]; exact h2)
    have e1 : (kvs.map (·.1))[j]? = some k := by
      rw [KV.keys kv, List.getElem?_map, hky] <;> rfl
    have e2 : (kvs.map fun kv => kV kv.1)[j]? = some (kV k) := by
      have e3 : (kvs.map fun kv => kV kv.1) = (kvs.map (·.1)).map kV := by rw [List.map_map] <;> rfl
      rw [e3, List.getElem?_map, e1] <;> rfl
    rw [e2] at h1
    cases h1
    exact keyIs_rel hi
  · rw [Array.toArray_toList]; exact hS
end
end K70
end
section
set_option Elab.async false
set_option linter.all false
set_option maxRecDepth 100000
set_option maxHeartbeats 4000000
set_option pp.maxSteps 400
namespace K70
open PySem PySem.Spec PyProof.Rows L2
open Evl (Ex ex_l ex_t fresh_back)
/-! ### the law's draws: a source list that changes -/
/-- at S stands a source: a list of five ints -/
def Src (H : Hp) (S : Addr) : Prop := ∃ a b c d e : Int, H S = some (.lst [.int a, .int b, .int c, .int d, .int e])
/-- all but the source stays, which remains a source -/
structure Xs (S : Addr) (H H' : Hp) : Prop where
  keep : ∀ a o, a ≠ S → H a = some o → H' a = some o
  src : Src H' S
theorem Xs.rf {S : Addr} {H : Hp} (h : Src H S) : Xs S H H := ⟨fun _ _ _ h => h, h⟩
theorem Xs.tr {S : Addr} {H H1 H2 : Hp} (a : Xs S H H1) (b : Xs S H1 H2) : Xs S H H2 := ⟨fun c o n h => b.keep c o n (a.keep c o n h), b.src⟩
theorem Src.ex {S : Addr} {H H' : Hp} (h : Src H S) (e : Ex H H') : Src H' S := by
  obtain ⟨a, b, c, d, f, h⟩ := h
  exact ⟨a, b, c, d, f, e _ _ h⟩
theorem Xs.of {S : Addr} {H H' : Hp} (h : Src H S) (e : Ex H H') : Xs S H H' := ⟨fun a o _ q => e a o q, h.ex e⟩
theorem Xs.ex {S : Addr} {H H' H2 : Hp} (x : Xs S H H') (e : Ex H' H2) : Xs S H H2 := x.tr (.of x.src e)
theorem Src.ne {S : Addr} {H : Hp} (h : Src H S) {p : Addr} (hp : H p = none) : S ≠ p := fun z => by
  obtain ⟨a, b, c, d, f, h⟩ := h
  rw [z, hp] at h; cases h
theorem Xs.fresh {S : Addr} {H H' : Hp} (h : Src H S) (x : Xs S H H') {p : Addr} (hp : H' p = none) : H p = none := by
  cases q : H p with
  | none => rfl
  | some o =>
    have := x.keep p o (Ne.symm (x.src.ne hp)) q
    rw [hp] at this; cases this
theorem Xs.t {S : Addr} {H H' : Hp} (h : Src H S) (x : Xs S H H') : ExT H H' := fun a o q n => x.keep a o (fun z => by
  obtain ⟨_, _, _, _, _, h⟩ := h
  rw [z, h] at q
  exact n _ (Option.some.inj q).symm) q
/-- a list that the source is not -/
theorem Xs.lst {S : Addr} {H H' : Hp} (x : Xs S H H') {p : Addr} {o : HO} (n : p ≠ S) (h : H p = some o) : H' p = some o := x.keep p o n h
/-- an own list changes -/
theorem Xs.mt {S : Addr} {H H' : Hp} (x : Xs S H H') (hS : Src H S) {p : Addr} {o : HO} (hp : H p = none) : Xs S H (upd H' p o) := by
  refine ⟨fun a u n q => ?_, ?_⟩
  · rw [upd_ne (ne_of_none q hp)]
    exact x.keep a u n q
  · obtain ⟨a, b, c, d, f, h⟩ := x.src
    exact ⟨a, b, c, d, f, by rw [upd_ne (hS.ne hp)]; exact h⟩
/-- a comprehension's word where the element draws -/
def Cx' (R : Nat → V → Hp → Prop) (S : Addr) (H1 : Hp) (D : Addr) (i : Nat) (H : Hp) : Prop := H1 D = none ∧ Xs S H1 H ∧ ∃ ys, H D = some (.lst ys) ∧ Made R i ys H
theorem comp_rangeX (S : Addr) (R : Nat → V → Hp → Prop) (St : Stays R) {n : Int} {j : Nat} {ta : TA} {te : TE} {vs : List Nat} {σ : L2.St} {H : Hp} {Q : VK} (hS : Src H S)
    (hta : ∀ R' : List V → Hp → Prop, R' [.int n] H → ta σ H R') (hl : 0 ≤ n ∧ n < 100000)
    (hw : ∀ x, wipe ((wipe σ vs).set j (some x)) vs = wipe σ vs)
    (he : ∀ (i : Nat) H', (i : Int) < n → Xs S H H' → ∀ Q' : VK, (∀ v H2, Xs S H' H2 → R i v H2 → Q' v H2) → te ((wipe σ vs).set j (some (.int i))) H' Q')
    (hd : ∀ D H' ys, H D = none → Xs S H H' → H' D = some (.lst ys) → Made R n.toNat ys H' → Q (.ref D) H') :
    tLc (iRng1 ta) (gName j) tYes te vs σ H Q := hta _ ⟨n, rfl, by omega, by omega, fun D hD =>
  lc_range (lo := 0) (n := n.toNat) (Cx' R S H D) ⟨hD, Xs.of hS (Ex.nw hD), [], upd_same, rfl, fun i v hv => by simp at hv⟩ (fun i H' hi c => ⟨hw _, by
      show (if true = true then te ((wipe σ vs).set j (some (.int (0 + (i : Int))))) H' (fun y H4 => ∃ acc, H4 D = some (.lst acc) ∧ acc.length < sizeLine ∧ Cx' R S H D (i + 1) (upd H4 D (.lst (acc ++ [y])))) else Cx' R S H D (i + 1) H')
      rw [if_pos rfl, Int.zero_add]
      obtain ⟨h, x1, ys, hy, m⟩ := c
      refine he i H' (by omega) x1 _ fun v H2 x2 r => ?_
      have hy2 := x2.lst (Ne.symm (hS.ne h)) hy
      have t : ExT H2 (upd H2 D (.lst (ys ++ [v]))) := ExT.put hy2
      refine ⟨ys, hy2, Evl.sz_lt (by rw [m.1]; omega), h, (x1.tr x2).mt hS h, ys ++ [v], upd_same, ?_⟩
      exact Made.stay St t (Made.push (Made.stay St (x2.t x1.src) m) r)⟩)
    fun H' c => by
      obtain ⟨h, x1, ys, h2, m⟩ := c
      exact hd D H' ys h x1 h2 m⟩
section
variable {P : Program} {w : World} {K : PySem.W.Frag} {mg : Str → Option Value} {base : Heap}
def spDraw : Sp := fun vs H Q _ => ∃ (S : Addr) (n : Int), vs = [.ref S, .int n] ∧ Src H S ∧ 0 < n ∧ n < 1000000 ∧ ∀ v H', 0 ≤ v → v < n → Xs S H H' → Q (.int v) H'
theorem ok_Ldraw (T : Tx K mg) : FnOk P w K mg base CX0 1 T.Ldraw.f T.Ldraw.fd ["_law_source_here", "_law_many"] spDraw := by
  refine T.Ldraw.F.ok sc_Ldraw (fun vs H Q E h => ?_) (fun cdv A outer s H vs Q E hr h => ?_)
  · obtain ⟨_, _, rfl, _⟩ := h
    rfl
  · obtain ⟨S, n, rfl, ⟨a, b, c, d, e, hS⟩, n0, n1, k⟩ := h
    refine ⟨_, (pss_cons (ps_if (pt_cmpR op_gt (pe_ix ix_list (pv 0) pe_int (fun _ _ => rfl)) pe_int (nomark _)) (pss_cons (ps_set (i := 2) sc_Ldraw.nd (by rfl) (Or.inl rfl) (pe_op op_mod (pe_callTy call_int1 (by rfl) T.n_int (by decide +kernel) (pa_cons (pe_ix ix_list (pv 0) pe_int (fun _ _ => rfl)) pa_nil)) (pv 1)))
      (pss_cons (ps_asg (pe_op op_fdiv (pe_ix ix_list (pv 0) pe_int (fun _ _ => rfl)) (pv 1)) (pg_sub (pv 0) pe_int set_list))
      (pss_one (ps_ret (pv 2))))) pss_nil)
      (pss_cons (ps_asg (pe_op op_add (pe_ix ix_list (pv 0) pe_int (fun _ _ => rfl)) pe_int) (pg_sub (pv 0) pe_int set_list))
      (pss_cons (ps_set (i := 3) sc_Ldraw.nd (by rfl) (Or.inl rfl) (pe_op op_mod (pe_callTy call_int1 (by rfl) T.n_int (by decide +kernel) (pa_cons (pe_op op_mul (pe_op op_add (pe_op op_add (pe_op op_add (pe_ix ix_list (pv 0) pe_int (fun _ _ => rfl)) (pe_ix ix_list (pv 0) pe_int (fun _ _ => rfl))) (pe_op op_mul pe_int (pe_ix ix_list (pv 0) pe_int (fun _ _ => rfl)))) (pe_op op_mul pe_int (pe_ix ix_list (pv 0) pe_int (fun _ _ => rfl)))) pe_int) pa_nil)) pe_int))
      (pss_cons (ps_set (i := 3) sc_Ldraw.nd (by rfl) (Or.inl rfl) (pe_op op_mod (pe_callTy call_int1 (by rfl) T.n_int (by decide +kernel) (pa_cons (pe_op op_mul (pv 3) (pe_op op_add (pe_op op_fdiv (pv 3) pe_int) pe_int)) pa_nil)) pe_int))
      (pss_cons (ps_set (i := 3) sc_Ldraw.nd (by rfl) (Or.inl rfl) (pe_op op_mod (pe_callTy call_int1 (by rfl) T.n_int (by decide +kernel) (pa_cons (pe_op op_mul (pv 3) (pe_op op_add (pe_op op_fdiv (pv 3) pe_int) pe_int)) pa_nil)) pe_int))
      (pss_one (ps_ret (pe_op op_mod (pe_callTy call_int1 (by rfl) T.n_int (by decide +kernel) (pa_cons (pe_op op_fdiv (pv 3) pe_int) pa_nil)) (pv 1))))))))), ?_⟩
    have src : ∀ xs : List V, (∃ a b c d e : Int, xs = [.int a, .int b, .int c, .int d, .int e]) → Xs S H (upd H S (.lst xs)) := fun xs ⟨a, b, c, d, e, h⟩ => ⟨fun p o np h => by rw [upd_ne np]; exact h, a, b, c, d, e, by rw [upd_same, h]⟩
    have m0 : ∀ z : Int, 0 ≤ z % n ∧ z % n < n := fun z => ⟨Int.emod_nonneg z (by omega), Int.emod_lt_of_pos z n0⟩
    refine ⟨_, rfl, S, _, 0, _, rfl, rfl, SqL.of hS, rfl, _, _, rfl, rfl, _, rfl, ?_⟩
    refine ite2 (fun hpos => ?_) (fun hneg => ?_)
    · -- the script's own number
      refine ⟨_, rfl, S, _, 0, _, rfl, rfl, SqL.of hS, rfl, .inl ⟨_, rfl, _, rfl, _, _, rfl, rfl, n0, ?_⟩⟩
      refine ⟨_, rfl, S, _, 0, _, rfl, rfl, SqL.of hS, rfl, _, rfl, _, _, rfl, rfl, ⟨n0, by omega⟩, _, rfl, S, _, 0, 0, rfl, rfl, hS, rfl, ?_⟩
      exact ⟨_, rfl, k _ _ (m0 a).1 (m0 a).2 (src _ ⟨_, _, _, _, _, rfl⟩)⟩
    · refine ⟨_, rfl, S, _, 4, _, rfl, rfl, SqL.of hS, rfl, _, _, rfl, rfl, _, rfl, S, _, 4, 4, rfl, rfl, hS, rfl, ?_⟩
      have x1 := src [.int a, .int b, .int c, .int d, .int (e + 1)] ⟨_, _, _, _, _, rfl⟩
      have h1 : upd H S (.lst [.int a, .int b, .int c, .int d, .int (e + 1)]) S = some (.lst [.int a, .int b, .int c, .int d, .int (e + 1)]) := upd_same
      refine ⟨_, rfl, S, _, 1, _, rfl, rfl, SqL.of h1, rfl, _, rfl, S, _, 2, _, rfl, rfl, SqL.of h1, rfl, _, _, rfl, rfl, ?_⟩
      refine ⟨_, rfl, S, _, 3, _, rfl, rfl, SqL.of h1, rfl, _, _, rfl, rfl, .inl ⟨by decide, by decide⟩, _, _, rfl, rfl, ?_⟩
      refine ⟨_, rfl, S, _, 4, _, rfl, rfl, SqL.of h1, rfl, _, _, rfl, rfl, .inl ⟨by decide, by decide⟩, _, _, rfl, rfl, ?_⟩
      refine ⟨_, _, rfl, rfl, .inr ⟨by decide, by decide⟩, .inl ⟨_, rfl, _, _, rfl, rfl, (by decide : (0 : Int) < 2147483647), ?_⟩⟩
      generalize hN : (b + c + 7919 * d + 104729 * (e + 1)) * 48271 % 2147483647 = N
      have N0 : 0 ≤ N ∧ N < 2147483647 := by
        rw [← hN]; exact ⟨Int.emod_nonneg _ (by decide), Int.emod_lt_of_pos _ (by decide)⟩
      refine ⟨_, rfl, _, rfl, _, _, rfl, rfl, ⟨by decide, by decide⟩, _, _, rfl, rfl, _, _, rfl, rfl, .inl ⟨by omega, by omega⟩, .inl ⟨_, rfl, _, _, rfl, rfl, (by decide : (0 : Int) < 2147483647), ?_⟩⟩
      generalize hM : N * (N / 1009 + 69621) % 2147483647 = M
      have M0 : 0 ≤ M ∧ M < 2147483647 := by
        rw [← hM]; exact ⟨Int.emod_nonneg _ (by decide), Int.emod_lt_of_pos _ (by decide)⟩
      refine ⟨_, rfl, _, rfl, _, _, rfl, rfl, ⟨by decide, by decide⟩, _, _, rfl, rfl, _, _, rfl, rfl, .inl ⟨by omega, by omega⟩, .inl ⟨_, rfl, _, _, rfl, rfl, (by decide : (0 : Int) < 2147483399), ?_⟩⟩
      refine ⟨_, rfl, _, _, rfl, rfl, ⟨by decide, by decide⟩, .inl ⟨_, rfl, _, rfl, _, _, rfl, rfl, n0, ?_⟩⟩
      exact k _ _ (m0 _).1 (m0 _).2 x1
/-- the source that the script's place k gives -/
def spSource (K : PySem.W.Frag) : Sp := fun vs H Q _ => ∃ (a : Addr) (ns : List Int) (k : Nat), vs = [.ref a, .int k] ∧ SqL K H a (ns.map V.int) ∧ ns.length ≤ 63 ∧ ∀ p H', H p = none → Ex H H' → Src H' p → Q (.ref p) H'
theorem cutV_ints (ns : List Int) (lo hi : Option Int) : ∃ ms : List Int, cutV (ns.map V.int) lo hi = ms.map V.int := by
  unfold cutV
  exact ⟨_, by rw [← List.map_drop, ← List.map_take]⟩
theorem ok_Lsource (T : Tx K mg) : FnOk P w K mg base CX0 1 T.Lsource.f T.Lsource.fd ["_law_script", "_law_k"] (spSource K) := by
  refine T.Lsource.F.ok sc_Lsource (fun vs H Q E h => ?_) (fun cdv A outer s H vs Q E hr h => ?_)
  · obtain ⟨_, _, _, rfl, _⟩ := h
    rfl
  · obtain ⟨a, ns, k, rfl, hA, hn, q⟩ := h
    refine ⟨_, (pss_cons (ps_set (i := 2) sc_Lsource.nd (by rfl) (Or.inl rfl) pe_int)
      (pss_cons (ps_for PassesOwn.never rfl (pi_list (pe_slice sl_list (pv 0) po_none (po_some pe_int))) (pg_name (i := 3) sc_Lsource.nd (by rfl) (Or.inl rfl)) (pss_one (ps_set (i := 2) sc_Lsource.nd (by rfl) (Or.inl rfl) (pe_op op_mod (pe_callTy call_int1 (by rfl) T.n_int (by decide +kernel) (pa_cons (pe_op op_add (pe_op op_add (pe_op op_mul (pv 2) pe_int) (pe_op op_mod (pe_callTy call_int1 (by rfl) T.n_int (by decide +kernel) (pa_cons (pv 3) pa_nil)) pe_int)) pe_int) pa_nil)) pe_int))))
      (pss_cons (ps_set (i := 4) sc_Lsource.nd (by rfl) (Or.inl rfl) (pe_ifExp (pt_cmpR op_lt (pv 1) (pe_callB call_len_seq (by rfl) T.n_len (by decide +kernel) (pa_cons (pv 0) pa_nil)) (nomark _)) (pe_callTy call_int1 (by rfl) T.n_int (by decide +kernel) (pa_cons (pe_ix ix_list (pv 0) (pv 1) (fun _ _ => rfl)) pa_nil)) pe_int))
      (pss_one (ps_ret (pe_lst (pa_cons (pe_ifExp (pt_cmpR op_ge (pv 4) (pe_op op_pow pe_int pe_int) (nomark _)) (pv 4) pe_int) (pa_cons (pe_op op_mod (pe_callTy call_int1 (by rfl) T.n_int (by decide +kernel) (pa_cons (pv 4) pa_nil)) pe_int) (pa_cons (pv 2) (pa_cons (pe_op op_add (pv 1) pe_int) (pa_cons pe_int pa_nil))))))))))), ?_⟩
    -- for item in script[:63]
    refine ⟨_, rfl, 63, rfl, a, _, rfl, hA, fun c hc => ?_⟩
    obtain ⟨ms', hms⟩ := cutV_ints ns none (some 63)
    rw [hms]
    have ec : Ex H (upd H c (.lst (ms'.map V.int))) := Ex.nw hc
    refine ⟨c, rfl, ⟨_, SqL.of upd_same⟩, for_list (K := K) (a := c) (xs := ms'.map V.int) (fun i σ H' => H' = upd H c (.lst (ms'.map V.int)) ∧ ∃ (f : Int) (y : Option V), σ = [some (.ref a), some (.int k), some (.int f), y, none]) ?_ ?_ ?_ ?_⟩
    · exact ⟨rfl, 23, none, rfl⟩
    · rintro i σ H' _ ⟨rfl, _⟩
      exact SqL.of upd_same
    · rintro i x σ H' hi ⟨rfl, f, y, rfl⟩
      rw [List.getElem?_map] at hi
      obtain ⟨z, hz, rfl⟩ := Option.map_eq_some_iff.mp hi
      refine ⟨_, rfl, _, _, rfl, rfl, .inr ⟨by decide, by decide⟩, _, rfl, .inl ⟨_, rfl, _, _, rfl, rfl, (by decide : (0 : Int) < 2147483629), _, _, rfl, rfl, _, _, rfl, rfl, .inl ⟨_, rfl, _, _, rfl, rfl, (by decide : (0 : Int) < 2147483647), rfl, _, _, rfl⟩⟩⟩
    · rintro σ H' ⟨rfl, f, y, rfl⟩
      have hA1 := ex_l ec hA
      -- cell
      refine ⟨_, rfl, _, rfl, a, _, rfl, .inl hA1, _, _, rfl, rfl, _, rfl, ?_⟩
      refine ite2 (fun hlt => ?_) (fun hge => ?_)
      · have hk : (k : Int) < ((ns.map V.int).length : Int) := of_decide_eq_true hlt
        have hk' : k < ns.length := by rw [List.length_map] at hk; omega
        have hg : (ns.map V.int)[k]? = some (.int ns[k]) := by rw [List.getElem?_map, List.getElem?_eq_getElem hk']; rfl
        refine ⟨_, rfl, _, rfl, a, _, _, _, rfl, rfl, hA1, atI_nat hg, .inl ⟨_, rfl, ?_⟩⟩
        refine ⟨_, rfl, _, _, rfl, rfl, ⟨by decide, by decide, by decide⟩, _, _, rfl, rfl, _, rfl, ?_⟩
        refine ite2 (fun hbig => ?_) (fun hsm => ?_)
        · refine ⟨_, rfl, _, rfl, .inl ⟨_, rfl, _, _, rfl, rfl, (by decide : (0 : Int) < 2147483629), _, rfl, _, rfl, _, _, rfl, rfl, by show 5 ≤ sizeLine; decide, fun p hp => ?_⟩⟩
          exact q p _ (fresh_back ec hp) (Ex.tr ec (Ex.nw hp)) ⟨_, _, _, _, _, upd_same⟩
        · refine ⟨_, rfl, .inl ⟨_, rfl, _, _, rfl, rfl, (by decide : (0 : Int) < 2147483629), _, rfl, _, rfl, _, _, rfl, rfl, by show 5 ≤ sizeLine; decide, fun p hp => ?_⟩⟩
          exact q p _ (fresh_back ec hp) (Ex.tr ec (Ex.nw hp)) ⟨_, _, _, _, _, upd_same⟩
      · refine ⟨_, rfl, _, _, rfl, rfl, ⟨by decide, by decide, by decide⟩, _, _, rfl, rfl, _, rfl, ?_⟩
        refine ite2 (fun hbig => ?_) (fun hsm => ?_)
        · refine ⟨_, rfl, _, rfl, .inl ⟨_, rfl, _, _, rfl, rfl, (by decide : (0 : Int) < 2147483629), _, rfl, _, rfl, _, _, rfl, rfl, by show 5 ≤ sizeLine; decide, fun p hp => ?_⟩⟩
          exact q p _ (fresh_back ec hp) (Ex.tr ec (Ex.nw hp)) ⟨_, _, _, _, _, upd_same⟩
        · refine ⟨_, rfl, .inl ⟨_, rfl, _, _, rfl, rfl, (by decide : (0 : Int) < 2147483629), _, rfl, _, rfl, _, _, rfl, rfl, by show 5 ≤ sizeLine; decide, fun p hp => ?_⟩⟩
          exact q p _ (fresh_back ec hp) (Ex.tr ec (Ex.nw hp)) ⟨_, _, _, _, _, upd_same⟩
end
end K70
end
section
set_option Elab.async false
set_option linter.all false
set_option maxRecDepth 100000
set_option maxHeartbeats 4000000
set_option pp.maxSteps 400
namespace K70
open PySem PySem.Spec PyProof.Rows L2
open Evl (Ex ex_l ex_t fresh_back)
/-! ### the law's fractions, units, orders -/
theorem nxt {D : Ends} {σ : L2.St} {H : Hp} (h : D.nx σ H) : tNext D σ H := h
section
variable {P : Program} {w : World} {K : PySem.W.Frag} {mg : Str → Option Value} {base : Heap}
theorem ok_Lmade (T : Tx K mg) : FnOk P w K mg base CX0 1 T.Lmade.f T.Lmade.fd ["_law_top", "_law_bottom"] (spMade K) := by
  refine T.Lmade.F.ok sc_Lmade (fun vs H Q E h => ?_) (fun cdv A outer s H vs Q E hr h => ?_)
  · obtain ⟨a, b, rfl, _⟩ := h
    rfl
  · obtain ⟨a, b, rfl, hb, hs, k⟩ := h
    refine ⟨_, (pss_cons (ps_set (i := 2) sc_Lmade.nd (by rfl) (Or.inl rfl) (pe_callB call_abs (by rfl) T.n_abs (by decide +kernel) (pa_cons (pv 0) pa_nil)))
      (pss_cons (ps_set (i := 3) sc_Lmade.nd (by rfl) (Or.inl rfl) (pv 1))
      (pss_cons (ps_while PassesOwn.never (pt_cmpR op_gt (pv 3) pe_int (nomark _)) (pss_one (ps_par (i := 2) (j := 3) rfl sc_Lmade.nd (by rfl) (by rfl) (by decide) (by rfl) (by rfl) (pa_cons (pv 3) (pa_cons (pe_op op_mod (pe_callTy call_int1 (by rfl) T.n_int (by decide +kernel) (pa_cons (pv 2) pa_nil)) (pv 3)) pa_nil)) (by rfl))))
      (pss_one (ps_ret (pe_tup (pa_cons (pe_op op_fdivW (pv 0) (pv 2)) (pa_cons (pe_op op_fdivW (pv 1) (pv 2)) pa_nil)))))))), ?_⟩
    have g0 := gcdI_pos (t := a) hb
    have gs : (gcdI a b).natAbs < 2 ^ 8000 := Nat.lt_of_le_of_lt (by
      have : gcdI a b ∣ b := Int.gcd_dvd_right a b
      have := Int.le_of_dvd hb this
      omega) hs
    have gd := fun x : Int => wide_div (i := x) g0 gs (by decide) (by decide)
    refine ⟨_, rfl, _, rfl, _, rfl, ?_⟩
    refine while_by (fun σ H' => ∃ x y : Int, σ = [some (.int a), some (.int b), some (.int x), some (.int y)] ∧ 0 ≤ x ∧ 0 ≤ y ∧ gcdI x y = gcdI a b ∧ H' = H) (fun σ _ => match σ with | [_, _, _, some (.int y)] => y.toNat | _ => 0) ?_ ?_ ?_
    · refine ⟨_, _, rfl, ?_, by omega, ?_, rfl⟩
      · split <;> omega
      · unfold gcdI
        have : ∀ z : Int, (if z < 0 then -z else z).natAbs = z.natAbs := fun z => by split <;> omega
        unfold Int.gcd
        rw [this]
    · rintro σ H' ⟨x, y, rfl, hx, hy, hg, rfl⟩
      refine ⟨_, rfl, _, _, rfl, rfl, _, rfl, ?_⟩
      refine ite2 (fun h => ?_) (fun h => ?_)
      · have y0 : 0 < y := of_decide_eq_true h
        refine ⟨_, rfl, _, rfl, .inl ⟨_, rfl, _, rfl, _, _, rfl, rfl, y0, _, _, rfl, ?_⟩⟩
        refine ⟨⟨_, _, rfl, hy, Int.emod_nonneg x (by omega), by rw [gcd_step y0 hx, hg], rfl⟩, ?_⟩
        have h1 := Int.emod_lt_of_pos x y0
        have h2 := Int.emod_nonneg x (show y ≠ 0 by omega)
        show (x % y).toNat < y.toNat
        omega
      · have y0 : y = 0 := by
          have : ¬ 0 < y := fun q => h (decide_eq_true q)
          omega
        have e : gcdI a b = x := by
          rw [← hg, y0]; unfold gcdI; rw [Int.gcd_zero_right]; omega
        rw [← e]
        refine ⟨_, rfl, _, rfl, _, _, rfl, rfl, gd a, _, rfl, _, rfl, _, _, rfl, rfl, gd b, (by show 2 ≤ sizeLine; decide), fun p hp => ?_⟩
        exact k _ _ (Ex.nw hp) Fr.new
    · rintro σ H' Q1 Q2 hq ⟨v, e, i, j, h1, h2, c, h3, h4⟩
      exact ⟨v, e, i, j, h1, h2, c, h3, hq _ _ h4⟩
def spTimes (K : PySem.W.Frag) : Sp := fun vs H Q _ => ∃ (n p q : Int) (v : V), vs = [.int n, v] ∧ Fr K H v (p, q) ∧ Pq p q ∧ Sm 100 n ∧ RetF K H Q (F p q n)
theorem ok_Ltimes (T : Tx K mg) : FnOk P w K mg base CX0 2 T.Ltimes.f T.Ltimes.fd ["_law_number", "_law_unit_here"] (spTimes K) := by
  refine T.Ltimes.F.ok sc_Ltimes (fun vs H Q E h => ?_) (fun cdv A outer s H vs Q E hr h => ?_)
  · obtain ⟨_, _, _, _, rfl, _⟩ := h
    rfl
  · obtain ⟨n, p, q, v, rfl, ⟨c, rfl, hc⟩, hU, hn, k⟩ := h
    refine ⟨_, (pss_one (ps_ret (pe_call (ok_Lmade (P := P) (w := w) (base := base) T) (hr.mono (by decide)) (by rfl) T.g_Lmade T.Lmade.F.kp T.Lmade.b .nil pass0 (pa_cons (pe_op op_mulW (pv 0) (pe_ix ix_tup (pv 1) pe_int (fun _ _ => rfl))) (pa_cons (pe_ix ix_tup (pv 1) pe_int (fun _ _ => rfl)) pa_nil))))), ?_⟩
    refine ⟨_, rfl, _, rfl, c, _, 0, _, rfl, rfl, hc, rfl, _, _, rfl, rfl, hn.wide hU.ps, ?_⟩
    exact ⟨_, rfl, c, _, 1, _, rfl, rfl, hc, rfl, _, _, rfl, hU.q0, hU.qs.mono (by decide), k⟩
def spUnit (K : PySem.W.Frag) : Sp := fun vs H Q _ => ∃ S : Addr, vs = [.ref S] ∧ Src H S ∧ ∀ v p q H', Pq p q → Fr K H' v (p, q) → Xs S H H' → Q v H'
theorem pq_mk {p q : Int} (h1 : 0 < p) (h2 : 0 < q) (h3 : p.natAbs < 2 ^ 200) (h4 : q.natAbs < 2 ^ 200) : Pq p q := ⟨h1, h2, h3, h4⟩
theorem ok_Lunit (T : Tx K mg) : FnOk P w K mg base CX0 2 T.Lunit.f T.Lunit.fd ["_law_source_here"] (spUnit K) := by
  refine T.Lunit.F.ok sc_Lunit (fun vs H Q E h => ?_) (fun cdv A outer s H vs Q E hr h => ?_)
  · obtain ⟨_, rfl, _⟩ := h
    rfl
  · obtain ⟨S, rfl, hS, k⟩ := h
    refine ⟨_, (pss_one (ps_ret (pe_ix ix_tup (pe_tup (pa_cons (pe_tup (pa_cons pe_int (pa_cons pe_int pa_nil))) (pa_cons (pe_tup (pa_cons pe_int (pa_cons pe_int pa_nil))) (pa_cons (pe_tup (pa_cons pe_int (pa_cons pe_int pa_nil))) (pa_cons (pe_tup (pa_cons pe_int (pa_cons pe_int pa_nil))) (pa_cons (pe_tup (pa_cons pe_int (pa_cons pe_int pa_nil))) (pa_cons (pe_tup (pa_cons pe_int (pa_cons pe_int pa_nil))) (pa_cons (pe_tup (pa_cons (pe_op op_pow pe_int pe_int) (pa_cons pe_int pa_nil))) (pa_cons (pe_tup (pa_cons pe_int (pa_cons (pe_op op_pow pe_int pe_int) pa_nil))) pa_nil))))))))) (pe_call (ok_Ldraw (P := P) (w := w) (base := base) T) (hr.mono (by decide)) (by rfl) T.g_Ldraw T.Ldraw.F.kp T.Ldraw.b .nil pass0 (pa_cons (pv 0) (pa_cons pe_int pa_nil))) (fun _ _ => rfl)))), ?_⟩
    have two : 2 ≤ sizeLine := by decide
    refine ⟨two, fun p1 h1 => ⟨two, fun p2 h2 => ⟨two, fun p3 h3 => ⟨two, fun p4 h4 => ⟨two, fun p5 h5 => ⟨two, fun p6 h6 => ?_⟩⟩⟩⟩⟩⟩
    refine ⟨_, _, rfl, rfl, ⟨by decide, by decide, by decide⟩, two, fun p7 h7 => ⟨_, _, rfl, rfl, ⟨by decide, by decide, by decide⟩, two, fun p8 h8 => ⟨by show 8 ≤ sizeLine; decide, fun m hm => ?_⟩⟩⟩
    have e1 : Ex H (upd H p1 (.tup [.int 1, .int 1])) := Ex.nw h1
    have e2 := Ex.nw (o := .tup [.int 1, .int 1]) h2
    have e3 := Ex.nw (o := .tup [.int 1, .int 2]) h3
    have e4 := Ex.nw (o := .tup [.int 3, .int 1]) h4
    have e5 := Ex.nw (o := .tup [.int 2, .int 3]) h5
    have e6 := Ex.nw (o := .tup [.int 7, .int 10]) h6
    have e7 := Ex.nw (o := .tup [.int (10 ^ (12 : Int).toNat), .int 7]) h7
    have e8 := Ex.nw (o := .tup [.int 1, .int (10 ^ (30 : Int).toNat)]) h8
    have e9 := Ex.nw (o := .tup [.ref p1, .ref p2, .ref p3, .ref p4, .ref p5, .ref p6, .ref p7, .ref p8]) hm
    have e79 := Ex.tr e8 e9
    have e69 := Ex.tr e7 e79
    have e59 := Ex.tr e6 e69
    have e49 := Ex.tr e5 e59
    have e39 := Ex.tr e4 e49
    have e29 := Ex.tr e3 e39
    have e19 := Ex.tr e2 e29
    have e09 := Ex.tr e1 e19
    have f1 := e19 _ _ (upd_same (H := H) (a := p1) (o := .tup [.int 1, .int 1]))
    have f2 := e29 _ _ (upd_same (a := p2) (o := .tup [.int 1, .int 1]))
    have f3 := e39 _ _ (upd_same (a := p3) (o := .tup [.int 1, .int 2]))
    have f4 := e49 _ _ (upd_same (a := p4) (o := .tup [.int 3, .int 1]))
    have f5 := e59 _ _ (upd_same (a := p5) (o := .tup [.int 2, .int 3]))
    have f6 := e69 _ _ (upd_same (a := p6) (o := .tup [.int 7, .int 10]))
    have f7 := e79 _ _ (upd_same (a := p7) (o := .tup [.int (10 ^ (12 : Int).toNat), .int 7]))
    have f8 := e9 _ _ (upd_same (a := p8) (o := .tup [.int 1, .int (10 ^ (30 : Int).toNat)]))
    refine ⟨_, rfl, S, 8, rfl, hS.ex e09, by decide, by decide, fun v H2 v0 v8 x => ?_⟩
    have xx := (Xs.of hS e09).tr x
    have t := x.t (hS.ex e09)
    have fm : SqT K H2 m [.ref p1, .ref p2, .ref p3, .ref p4, .ref p5, .ref p6, .ref p7, .ref p8] := t.t (SqT.of upd_same)
    have fin : ∀ (c : Addr) (p q : Int), SqT K H2 c [.int p, .int q] → Pq p q → Q (.ref c) H2 := fun c p q h hu => k _ p q H2 hu ⟨c, rfl, h⟩ xx
    have cases8 : v = 0 ∨ v = 1 ∨ v = 2 ∨ v = 3 ∨ v = 4 ∨ v = 5 ∨ v = 6 ∨ v = 7 := by omega
    rcases cases8 with rfl | rfl | rfl | rfl | rfl | rfl | rfl | rfl
    · exact ⟨m, _, _, _, rfl, rfl, fm, rfl, fin _ _ _ (t.t (SqT.of f1)) (pq_mk (by decide) (by decide) (by decide) (by decide))⟩
    · exact ⟨m, _, _, _, rfl, rfl, fm, rfl, fin _ _ _ (t.t (SqT.of f2)) (pq_mk (by decide) (by decide) (by decide) (by decide))⟩
    · exact ⟨m, _, _, _, rfl, rfl, fm, rfl, fin _ _ _ (t.t (SqT.of f3)) (pq_mk (by decide) (by decide) (by decide) (by decide))⟩
    · exact ⟨m, _, _, _, rfl, rfl, fm, rfl, fin _ _ _ (t.t (SqT.of f4)) (pq_mk (by decide) (by decide) (by decide) (by decide))⟩
    · exact ⟨m, _, _, _, rfl, rfl, fm, rfl, fin _ _ _ (t.t (SqT.of f5)) (pq_mk (by decide) (by decide) (by decide) (by decide))⟩
    · exact ⟨m, _, _, _, rfl, rfl, fm, rfl, fin _ _ _ (t.t (SqT.of f6)) (pq_mk (by decide) (by decide) (by decide) (by decide))⟩
    · exact ⟨m, _, _, _, rfl, rfl, fm, rfl, fin _ _ _ (t.t (SqT.of f7)) (pq_mk (by decide) (by decide) (by decide) (by decide))⟩
    · exact ⟨m, _, _, _, rfl, rfl, fm, rfl, fin _ _ _ (t.t (SqT.of f8)) (pq_mk (by decide) (by decide) (by decide) (by decide))⟩
theorem rgV_nats (n : Nat) : rgV 0 (n : Int) = natsV (List.range n) := by
  unfold rgV natsV
  rw [show ((n : Int) - 0).toNat = n by omega]
  congr 1
  funext i
  rw [Int.zero_add]
theorem natsV_at {l : List Nat} {i : Nat} (h : i < l.length) : (natsV l)[i]? = some (.int (l[i] : Int)) := by
  unfold natsV
  rw [List.getElem?_map, List.getElem?_eq_getElem h]; rfl
theorem natsV_len {l : List Nat} : (natsV l).length = l.length := by unfold natsV; rw [List.length_map]
theorem natsV_erase {l : List Nat} {i : Nat} : (natsV l).eraseIdx i = natsV (l.eraseIdx i) := by
  unfold natsV
  induction l generalizing i with
  | nil => rfl
  | cons a l ih =>
    cases i with
    | zero => rfl
    | succ i => simp only [List.map_cons, List.eraseIdx_cons_succ, ih]
theorem natsV_push {l : List Nat} {i : Nat} : natsV l ++ [.int (i : Int)] = natsV (l ++ [i]) := by unfold natsV; rw [List.map_append]; rfl
theorem perm_erase {l : List Nat} {i : Nat} (h : i < l.length) : l.Perm (l[i] :: l.eraseIdx i) := by
  induction l generalizing i with
  | nil => cases h
  | cons a l ih =>
    cases i with
    | zero => exact List.Perm.refl _
    | succ i =>
      have := ih (i := i) (by simpa using h)
      exact (this.cons a).trans (List.Perm.swap _ _ _)
def spPerm (K : PySem.W.Frag) : Sp := fun vs H Q _ => ∃ (S : Addr) (n : Nat), vs = [.ref S, .int n] ∧ Src H S ∧ n ≤ 100 ∧ ∀ (p : Addr) (H' : Hp) (σ : List Nat), Xs S H H' → σ.Perm (List.range n) → SqT K H' p (natsV σ) → Q (.ref p) H'
theorem ok_Lperm (T : Tx K mg) : FnOk P w K mg base CX0 2 T.Lperm.f T.Lperm.fd ["_law_source_here", "_law_many"] (spPerm K) := by
  refine T.Lperm.F.ok sc_Lperm (fun vs H Q E h => ?_) (fun cdv A outer s H vs Q E hr h => ?_)
  · obtain ⟨_, _, rfl, _⟩ := h
    rfl
  · obtain ⟨S, n, rfl, hS, hn, k⟩ := h
    refine ⟨_, (pss_cons (ps_set (i := 2) sc_Lperm.nd (by rfl) (Or.inl rfl) (pe_listRg rfl (by rfl) T.n_list (prg_1 (by rfl) T.n_range (pv 1))))
      (pss_cons (ps_set (i := 3) sc_Lperm.nd (by rfl) (Or.inl rfl) (pe_lst pa_nil))
      (pss_cons (ps_for PassesOwn.never rfl (pi_range1 (by rfl) T.n_range (pa_cons (pv 1) pa_nil)) (pg_name (i := 4) sc_Lperm.nd (by rfl) (Or.inl rfl)) (pss_one (ps_expr (pe_bm PySem.F.plainAttrs_list PySem.F.slot_list_append PySem.F.type_list_append mt_append (pv 3) (pa_cons (pe_bm PySem.F.plainAttrs_list PySem.F.slot_list_pop PySem.F.type_list_pop mt_popAt (pv 2) (pa_cons (pe_call (ok_Ldraw (P := P) (w := w) (base := base) T) (hr.mono (by decide)) (by rfl) T.g_Ldraw T.Ldraw.F.kp T.Ldraw.b .nil pass0 (pa_cons (pv 0) (pa_cons (pe_callB call_len_seq (by rfl) T.n_len (by decide +kernel) (pa_cons (pv 2) pa_nil)) pa_nil))) pa_nil)) pa_nil)))))
      (pss_one (ps_ret (pe_callTy call_tuple_of (by rfl) T.n_tuple (by decide +kernel) (pa_cons (pv 3) pa_nil))))))), ?_⟩
    refine ⟨_, rfl, _, rfl, RgOk.of_le (by decide) (by omega) (by decide) (by omega), fun l hl => ?_⟩
    rw [rgV_nats]
    have el : Ex H (upd H l (.lst (natsV (List.range n)))) := Ex.nw hl
    refine ⟨Nat.zero_le _, fun f hf => ?_⟩
    have lf : l ≠ f := fun z => by rw [z, upd_same] at hf; cases hf
    have hf0 : H f = Option.none := fresh_back el hf
    have ef := Ex.nw (o := .lst []) hf
    refine ⟨_, rfl, _, rfl, by omega, by omega, ?_⟩
    rw [Int.toNat_natCast]
    refine for_range (lo := 0) (n := n) (fun i σ H' => ∃ (fo le : List Nat) (y : Option V), σ = [some (.ref S), some (.int n), some (.ref l), some (.ref f), y] ∧ Xs S H H' ∧ H' l = some (.lst (natsV le)) ∧ H' f = some (.lst (natsV fo)) ∧ (fo ++ le).Perm (List.range n) ∧ le.length + i = n ∧ fo.length = i) ?_ ?_ ?_
    · exact ⟨[], List.range n, none, rfl, Xs.of hS (Ex.tr el ef), by rw [upd_ne lf, upd_same], upd_same, List.Perm.refl _, by simp, rfl⟩
    · rintro i σ H' hi ⟨fo, le, y, rfl, x, hl', hf', hp, hle, hfo⟩
      have Sl : l ≠ S := Ne.symm (hS.ne hl)
      have Sf : f ≠ S := Ne.symm (hS.ne hf0)
      refine ⟨_, rfl, .inl ⟨rfl, _, SqL.of hf'⟩, _, rfl, .inl ⟨rfl, _, SqL.of hl'⟩, _, rfl, _, rfl, l, _, rfl, .inl (SqL.of hl'), S, _, rfl, x.src, ?_, ?_, fun v H2 v0 v1 x2 => ?_⟩
      · rw [natsV_len]; omega
      · rw [natsV_len]; omega
      · rw [natsV_len] at v1
        obtain ⟨j, rfl⟩ : ∃ j : Nat, v = j := ⟨v.toNat, by omega⟩
        have hj : j < le.length := by omega
        have hl2 := x2.lst Sl hl'
        have hf2 := x2.lst Sf hf'
        refine ⟨l, _, _, j, _, rfl, rfl, hl2, by omega, by omega, (ixN_seq (Evl.ixN_nat (by rw [natsV_len]; exact hj))).1, natsV_at hj, ?_⟩
        refine ⟨f, _, _, rfl, rfl, by rw [upd_ne lf.symm]; exact hf2, Evl.sz_lt (by rw [natsV_len]; omega), ?_⟩
        rw [natsV_erase, natsV_push]
        refine ⟨fo ++ [le[j]], le.eraseIdx j, _, rfl, ((x.tr x2).mt hS hl).mt hS hf0, by rw [upd_ne lf, upd_same], upd_same, ?_, ?_, ?_⟩
        · rw [List.append_assoc]
          exact ((List.Perm.append_left fo (perm_erase hj).symm).trans hp)
        · rw [List.length_eraseIdx, if_pos hj]; omega
        · rw [List.length_append]; simp; omega
    · rintro σ H' ⟨fo, le, y, rfl, x, hl', hf', hp, hle, hfo⟩
      have : le = [] := List.length_eq_zero_iff.mp (by omega)
      subst this
      rw [List.append_nil] at hp
      refine ⟨_, rfl, f, _, rfl, .inl ⟨SqL.of hf', fun c hc => ?_⟩⟩
      exact k c _ fo (x.ex (Ex.nw hc)) hp tup_of
/-- a side's sums -/
def spSide : Sp := fun vs H Q _ => ∃ (S : Addr) (n : Nat), vs = [.ref S, .int n] ∧ Src H S ∧ n ≤ 100 ∧ ∀ (p : Addr) (H' : Hp) (xs : List Int), H p = none → Xs S H H' → H' p = some (.lst (xs.map V.int)) → xs.length = n → (∀ x ∈ xs, 1 ≤ x ∧ x ≤ 7) → Q (.ref p) H'
theorem made_ints {R : Nat → V → Hp → Prop} {C : Int → Prop} {n : Nat} {ys : List V} {H : Hp} (m : Made R n ys H) (h : ∀ i v, R i v H → ∃ z, v = .int z ∧ C z) : ∃ xs : List Int, ys = xs.map V.int ∧ xs.length = n ∧ ∀ x ∈ xs, C x := by
  obtain ⟨hl, hr⟩ := id m
  have key : ∀ ys : List V, (∀ v ∈ ys, ∃ z, v = .int z ∧ C z) → ∃ xs : List Int, ys = xs.map V.int ∧ ∀ x ∈ xs, C x := by
    intro ys
    induction ys with
    | nil => intro _; exact ⟨[], rfl, by simp⟩
    | cons y ys ih =>
      intro h
      obtain ⟨z, rfl, hz⟩ := h y List.mem_cons_self
      obtain ⟨xs, rfl, hx⟩ := ih fun v hv => h v (List.mem_cons_of_mem _ hv)
      exact ⟨z :: xs, rfl, fun x hx' => by rcases List.mem_cons.mp hx' with rfl | h1; exact hz; exact hx x h1⟩
  obtain ⟨xs, e, hx⟩ := key ys fun v hv => by
    obtain ⟨i, hi, rfl⟩ := List.getElem_of_mem hv
    exact h i _ (hr i _ (List.getElem?_eq_getElem hi))
  refine ⟨xs, e, ?_, hx⟩
  have := m.1
  rw [e, List.length_map] at this
  exact this
theorem flat_rep (n : Nat) (z : Int) : (List.replicate n [V.int z]).flatten = (List.replicate n z).map V.int := by
  induction n with
  | zero => rfl
  | succ n ih => rw [List.replicate_succ, List.flatten_cons, ih, List.replicate_succ]; rfl
theorem ok_Lside (T : Tx K mg) : FnOk P w K mg base CX0 2 T.Lside.f T.Lside.fd ["_law_source_here", "_law_many"] spSide := by
  refine T.Lside.F.ok sc_Lside (fun vs H Q E h => ?_) (fun cdv A outer s H vs Q E hr h => ?_)
  · obtain ⟨_, _, rfl, _⟩ := h
    rfl
  · obtain ⟨S, n, rfl, hS, hn, k⟩ := h
    refine ⟨_, (pss_cons (ps_set (i := 2) sc_Lside.nd (by rfl) (Or.inr rfl) (pe_call (ok_Ldraw (P := P) (w := w) (base := base) T) (hr.mono (by decide)) (by rfl) T.g_Ldraw T.Ldraw.F.kp T.Ldraw.b .nil pass0 (pa_cons (pv 0) (pa_cons pe_int pa_nil))))
      (pss_cons (ps_if (pt_cmpR op_eq (pv 2) pe_int (nomark _)) (pss_one (ps_ret (pe_op op_rep (pe_lst (pa_cons (pe_op op_add pe_int (pe_call (ok_Ldraw (P := P) (w := w) (base := base) T) (hr.mono (by decide)) (by rfl) T.g_Ldraw T.Ldraw.F.kp T.Ldraw.b .nil pass0 (pa_cons (pv 0) (pa_cons pe_int pa_nil)))) pa_nil)) (pv 1)))) pss_nil)
      (pss_one (ps_ret (pe_lc (own := [(("_law_k" : Str), 3)]) (g := gName 3) (tt := tYes) (by rfl) sc_Lside.nd (pi_range1 (by rfl) T.n_range (pa_cons (pv 1) pa_nil)) (blkOk_by (own := [(("_law_k" : Str), 3)]) (N := ["_law_source_here", "_law_many", "_law_style", "_law_k"]) (sc := defScope s_Lside) (by decide +kernel)) (fun _ _ _ _ _ => (pg_name (i := 3) sc_Lside.nd (by rfl) (Or.inl rfl))) (fun _ _ _ _ _ => pts_nil) (fun _ _ _ _ _ => (pe_op op_add pe_int (pe_call (ok_Ldraw (P := P) (w := w) (base := base) T) (hr.mono (by decide)) (by rfl) T.g_Ldraw T.Ldraw.F.kp T.Ldraw.b .nil pass0 (pa_cons (pv 0) (pa_cons (pe_ix (r := rIxT K) ix_tup (pe_tup (pa_cons pe_int (pa_cons pe_int (pa_cons pe_int pa_nil)))) (pe_op op_sub (pv 2) pe_int) (fun _ _ => rfl)) pa_nil)))))))))), ?_⟩
    refine ⟨_, rfl, S, 4, rfl, hS, by decide, by decide, fun st H1 s0 s4 x1 => ?_⟩
    have hS1 := x1.src
    refine ⟨_, rfl, rfl, _, rfl, ?_⟩
    rw [eq_ints]
    refine ite2 (fun hz => ?_) (fun hnz => ?_)
    · refine ⟨_, rfl, S, 3, rfl, hS1, by decide, by decide, fun v H2 v0 v3 x2 => ⟨_, _, rfl, rfl, Nat.le_trans (show 1 ≤ 1000 by decide) (by decide), fun c hc => ?_⟩⟩
      refine ⟨_, rfl, c, n, _, rfl, rfl, upd_same, by omega, by omega, ?_, fun p hp => ?_⟩
      · show 1 * (n : Int).toNat ≤ sizeLine
        exact Nat.le_trans (show 1 * (n : Int).toNat ≤ 1000 by omega) (by decide)
      · have ec := Ex.nw (o := .lst [.int (1 + v)]) hc
        have xx := ((x1.tr x2).ex ec).ex (Ex.nw (o := .lst (List.replicate (n : Int).toNat [V.int (1 + v)]).flatten) hp)
        refine k p _ (List.replicate n (1 + v)) (Xs.fresh hS ((x1.tr x2).ex ec) hp) xx ?_ (by simp) (fun z hz => by
          rw [(List.mem_replicate.mp hz).2]; omega)
        rw [upd_same, Int.toNat_natCast]
        congr 2
        exact flat_rep n (1 + v)
    · have st0 : st ≠ 0 := fun z => hnz (decide_eq_true z)
      refine nxt ?_
      try dsimp only
      refine rt1 (comp_rangeX S (fun i v _ => ∃ z : Int, v = .int z ∧ 1 ≤ z ∧ z ≤ 7) (fun i v H H' e h => h) (n := (n : Int)) hS1 (fun R' k' => ⟨_, rfl, k'⟩) (by omega) (fun x => rfl) ?_ ?_)
      · intro i H' hi x' Q' k'
        have three : 3 ≤ sizeLine := by decide
        refine ⟨_, rfl, three, fun c hc => ⟨_, rfl, _, _, rfl, rfl, ?_⟩⟩
        have ec := Ex.nw (o := .tup [.int 2, .int 4, .int 7]) hc
        have hSc := x'.src.ex ec
        have go : ∀ (m v : Int) (H2 : Hp), 2 ≤ m → m ≤ 7 → 0 ≤ v → v < m → Xs S (upd H' c (.tup [.int 2, .int 4, .int 7])) H2 → Q' (.int (1 + v)) H2 := fun m v H2 a b v0 vm x2 => k' _ H2 ((Xs.of x'.src ec).tr x2) ⟨_, rfl, by omega, by omega⟩
        have c3 : st = 1 ∨ st = 2 ∨ st = 3 := by omega
        rcases c3 with rfl | rfl | rfl
        · exact ⟨c, _, _, .int 2, rfl, rfl, tup_of, rfl, S, 2, rfl, hSc, by decide, by decide, fun v H2 v0 vm x2 => ⟨_, _, rfl, rfl, go 2 v H2 (by decide) (by decide) v0 vm x2⟩⟩
        · exact ⟨c, _, _, .int 4, rfl, rfl, tup_of, rfl, S, 4, rfl, hSc, by decide, by decide, fun v H2 v0 vm x2 => ⟨_, _, rfl, rfl, go 4 v H2 (by decide) (by decide) v0 vm x2⟩⟩
        · exact ⟨c, _, _, .int 7, rfl, rfl, tup_of, rfl, S, 7, rfl, hSc, by decide, by decide, fun v H2 v0 vm x2 => ⟨_, _, rfl, rfl, go 7 v H2 (by decide) (by decide) v0 vm x2⟩⟩
      · intro D H' ys hD x' hys m
        obtain ⟨xs, rfl, hl, hx⟩ := made_ints m fun i v h => h
        exact k D H' xs (Xs.fresh hS x1 hD) (x1.tr x') hys (by rw [hl]; omega) hx
theorem flat_ones (n : Nat) : (List.replicate n [V.int 1]).flatten = (List.replicate n (1 : Int)).map V.int := flat_rep n 1
def spSplit (K : PySem.W.Frag) : Sp := fun vs H Q _ => ∃ (S : Addr) (W : Int) (n : Nat), vs = [.ref S, .int W, .int n] ∧ Src H S ∧ 1 ≤ n ∧ n ≤ 50 ∧ (n : Int) ≤ W ∧ W ≤ 100000 ∧ ∀ (p : Addr) (H' : Hp) (ds : List Int), H p = none → Xs S H H' → H' p = some (.lst (ds.map V.int)) → ds.length = n → ds.sum = W → (∀ d ∈ ds, 1 ≤ d) → Q (.ref p) H'
theorem ok_Lsplit (T : Tx K mg) : FnOk P w K mg base CX0 3 T.Lsplit.f T.Lsplit.fd ["_law_source_here", "_law_whole", "_law_many"] (spSplit K) := by
  refine T.Lsplit.F.ok sc_Lsplit (fun vs H Q E h => ?_) (fun cdv A outer s H vs Q E hr h => ?_)
  · obtain ⟨_, _, _, rfl, _⟩ := h
    rfl
  · obtain ⟨S, W, n, rfl, hS, n1, n2, nW, Wb, k⟩ := h
    refine ⟨_, (pss_cons (ps_set (i := 3) sc_Lsplit.nd (by rfl) (Or.inr rfl) (pe_op op_rep (pe_lst (pa_cons pe_int pa_nil)) (pv 2)))
      (pss_cons (ps_set (i := 4) sc_Lsplit.nd (by rfl) (Or.inl rfl) (pe_op op_sub (pv 1) (pv 2)))
      (pss_cons (ps_for PassesOwn.never rfl (pi_range1 (by rfl) T.n_range (pa_cons (pe_op op_sub (pv 2) pe_int) pa_nil)) (pg_name (i := 5) sc_Lsplit.nd (by rfl) (Or.inl rfl)) (pss_cons (ps_set (i := 6) sc_Lsplit.nd (by rfl) (Or.inl rfl) (pe_call (ok_Ldraw (P := P) (w := w) (base := base) T) (hr.mono (by decide)) (by rfl) T.g_Ldraw T.Ldraw.F.kp T.Ldraw.b .nil pass0 (pa_cons (pv 0) (pa_cons (pe_op op_add (pe_callB (call_min2 rfl) (by rfl) T.n_min (by decide +kernel) (pa_cons (pv 4) (pa_cons pe_int pa_nil))) pe_int) pa_nil))))
      (pss_cons (ps_asg (pe_op op_add (pe_ix ix_list (pv 3) (pv 5) (fun _ _ => rfl)) (pv 6)) (pg_sub (pv 3) (pv 5) set_list))
      (pss_one (ps_set (i := 4) sc_Lsplit.nd (by rfl) (Or.inl rfl) (pe_op op_sub (pv 4) (pv 6)))))))
      (pss_cons (ps_asg (pe_op op_add (pe_ix ix_list (pv 3) (pe_op op_sub (pv 2) pe_int) (fun _ _ => rfl)) (pv 4)) (pg_sub (pv 3) (pe_op op_sub (pv 2) pe_int) set_list))
      (pss_cons (ps_set (i := 7) sc_Lsplit.nd (by rfl) (Or.inl rfl) (pe_call (ok_Lperm (P := P) (w := w) (base := base) T) (hr.mono (by decide)) (by rfl) T.g_Lperm T.Lperm.F.kp T.Lperm.b .nil pass0 (pa_cons (pv 0) (pa_cons (pv 2) pa_nil))))
      (pss_one (ps_ret (pe_lc (own := [(("_law_k" : Str), 5)]) (g := gName 5) (tt := tYes) (by rfl) sc_Lsplit.nd (pi_tup (pv 7)) (blkOk_by (own := [(("_law_k" : Str), 5)]) (N := ["_law_source_here", "_law_whole", "_law_many", "_law_found", "_law_left", "_law_k", "_law_part", "_law_order"]) (sc := defScope s_Lsplit) (by decide +kernel)) (fun _ _ _ _ _ => (pg_name (i := 5) sc_Lsplit.nd (by rfl) (Or.inl rfl))) (fun _ _ _ _ _ => pts_nil) (fun _ _ _ _ _ => (pe_ix (r := rIxL K) ix_list (pv 3) (pv 5) (fun _ _ => rfl))))))))))), ?_⟩
    -- found = [1] * many
    refine ⟨Nat.le_trans (show 1 ≤ 1000 by decide) (by decide), fun c hc => ?_⟩
    refine ⟨_, rfl, c, n, _, rfl, rfl, upd_same, by omega, by omega, ?_, fun f hf => ?_⟩
    · show 1 * (n : Int).toNat ≤ sizeLine
      exact Nat.le_trans (show 1 * (n : Int).toNat ≤ 1000 by omega) (by decide)
    · rw [Int.toNat_natCast, flat_ones]
      have ec := Ex.nw (o := .lst [.int 1]) hc
      have ef := Ex.nw (o := .lst ((List.replicate n (1 : Int)).map V.int)) hf
      have hf0 := fresh_back ec hf
      have Sf : f ≠ S := Ne.symm (hS.ne hf0)
      -- left, the loop
      refine ⟨_, rfl, _, rfl, _, _, rfl, rfl, _, rfl, _, _, rfl, rfl, _, rfl, by omega, by omega, ?_⟩
      rw [show ((n : Int) - 1).toNat = n - 1 by omega]
      refine for_range (lo := 0) (n := n - 1) (fun i σ H' => ∃ (fo : List Int) (left : Int) (y5 y6 : Option V), σ = [some (.ref S), some (.int W), some (.int n), some (.ref f), some (.int left), y5, y6, none] ∧ Xs S H H' ∧ H' f = some (.lst (fo.map V.int)) ∧ fo.length = n ∧ fo.sum + left = W ∧ 0 ≤ left ∧ ∀ d ∈ fo, 1 ≤ d) ?_ ?_ ?_
      · refine ⟨List.replicate n 1, _, none, none, rfl, Xs.of hS (Ex.tr ec ef), upd_same, by simp, ?_, by omega, fun d hd => by rw [(List.mem_replicate.mp hd).2]; decide⟩
        rw [sum_repl]; omega
      · rintro i σ H' hi ⟨fo, left, y5, y6, rfl, x, hf', fl, fs, l0, f1⟩
        rw [Int.zero_add]
        have hin : i < fo.length := by omega
        -- part
        refine ⟨_, rfl, _, rfl, left, 4, rfl, _, _, rfl, rfl, S, _, rfl, x.src, ?_, ?_, fun v H2 v0 vm x2 => ?_⟩
        · show (0 : Int) < (if 4 < left then 4 else left) + 1
          split <;> omega
        · show (if 4 < left then 4 else left) + 1 < (1000000 : Int)
          split <;> omega
        · have vl : v ≤ left := by
            have : v < (if 4 < left then 4 else left) + 1 := vm
            split at this <;> omega
          have hf2 := x2.lst Sf hf'
          have hat : (fo.map V.int)[i]? = some (.int (at0 fo i)) := at0_getV hin
          refine ⟨_, rfl, _, rfl, f, _, _, _, rfl, rfl, SqL.of hf2, atI_nat hat, _, rfl, _, _, rfl, rfl, _, rfl, _, rfl, f, _, i, i, rfl, rfl, hf2, Evl.ixN_nat (by rw [List.length_map]; exact hin), ?_⟩
          refine ⟨_, rfl, _, rfl, _, _, rfl, rfl, ?_⟩
          have hget : fo[i]? = some (at0 fo i) := at0_of hin
          refine ⟨fo.set i (at0 fo i + v), _, _, _, rfl, (x.tr x2).mt hS hf0, ?_, by rw [List.length_set, fl], ?_, by omega, fun d hd => ?_⟩
          · rw [upd_same, List.map_set]
          · rw [sum_set hget]; omega
          · rcases List.mem_or_eq_of_mem_set hd with h | h
            · exact f1 d h
            · have := f1 (at0 fo i) (List.mem_of_getElem? hget)
              omega
      · rintro σ H' ⟨fo, left, y5, y6, rfl, x, hf', fl, fs, l0, f1⟩
        have hin : n - 1 < fo.length := by omega
        have hat : (fo.map V.int)[n - 1]? = some (.int (at0 fo (n - 1))) := at0_getV hin
        have hget : fo[n - 1]? = some (at0 fo (n - 1)) := at0_of hin
        have en : ((n : Int) - 1) = ((n - 1 : Nat) : Int) := by omega
        have ix : atI (fo.map V.int) ((n : Int) - 1) = some (.int (at0 fo (n - 1))) := by rw [en]; exact atI_nat hat
        have ixn : ixN (fo.map V.int).length ((n : Int) - 1) = some (n - 1) := by rw [en]; exact Evl.ixN_nat (by rw [List.length_map]; exact hin)
        refine ⟨_, rfl, _, rfl, _, _, rfl, rfl, f, _, _, _, rfl, rfl, SqL.of hf', ix, _, rfl, _, _, rfl, rfl, _, rfl, _, rfl, _, _, rfl, rfl, f, _, _, _, rfl, rfl, hf', ixn, ?_⟩
        generalize hfo2 : fo.set (n - 1) (at0 fo (n - 1) + left) = f2
        have hf2 : (upd H' f (.lst ((fo.map V.int).set (n - 1) (.int (at0 fo (n - 1) + left))))) f = some (.lst (f2.map V.int)) := by rw [upd_same, ← hfo2, List.map_set]
        have x2 : Xs S H (upd H' f (.lst ((fo.map V.int).set (n - 1) (.int (at0 fo (n - 1) + left))))) := x.mt hS hf0
        have f2l : f2.length = n := by rw [← hfo2, List.length_set, fl]
        have f2s : f2.sum = W := by rw [← hfo2, sum_set hget]; omega
        have f21 : ∀ d ∈ f2, 1 ≤ d := fun d hd => by
          rw [← hfo2] at hd
          rcases List.mem_or_eq_of_mem_set hd with h | h
          · exact f1 d h
          · have := f1 (at0 fo (n - 1)) (List.mem_of_getElem? hget)
            omega
        -- order
        refine ⟨_, rfl, _, rfl, S, n, rfl, x2.src, by omega, fun o H3 σ x3 hσ ho => ?_⟩
        have hf3 := x3.lst Sf hf2
        have x03 := x2.tr x3
        refine gn ?_
        try dsimp only
        refine rt1 (comp_tup (K := K) (xs := natsV σ) (RV fun i => .int (at0 f2 (natAt σ i))) (RV.stays _) (fun R' k' => ⟨_, rfl, k' o H3 (Ex.rf H3) ho⟩) (by rw [natsV_len, hσ.length_eq, List.length_range]; omega) (fun x => rfl) ?_ ?_)
        · intro i y H4 hi e4 Q' k'
          obtain ⟨z, hz, rfl⟩ := natsV_get hi
          have zl : z < n := by
            have := hσ.mem_iff.mp (List.mem_of_getElem? hz)
            simpa using this
          refine ⟨_, rfl, _, rfl, f, _, _, _, rfl, rfl, SqL.of (e4 _ _ hf3), atI_nat (at0_getV (by omega)), k' _ _ (Ex.rf _) ?_⟩
          show V.int _ = V.int _
          rw [natAt_of hz]
        · intro D H4 ys hD e4 hys m
          rw [RV.list m, natsV_len, map_natAt (l := σ) (f := fun z => V.int (at0 f2 z)) rfl] at hys
          have pv := perm_vals (a := f2) (σ := σ) (by rw [f2l]; exact hσ)
          refine k D H4 (σ.map (at0 f2)) (Xs.fresh hS x03 hD) (x03.ex e4) (by rw [hys, List.map_map]; rfl) (by rw [List.length_map, hσ.length_eq, List.length_range]) (by rw [perm_sum pv, f2s]) (fun d hd => f21 d (pv.mem_iff.mp hd))
end
end K70
end
section
set_option Elab.async false
set_option linter.all false
set_option maxRecDepth 100000
set_option maxHeartbeats 4000000
set_option pp.maxSteps 400
namespace K70
open PySem PySem.Spec PyProof.Rows L2
open Evl (Ex ex_l ex_t fresh_back)
/-! ### the law's sums and evenings -/
section
variable {K : PySem.W.Frag}
/-- a comprehension over a tuple that a call hands on -/
theorem comp_tupG (Hok : List V → Hp → Prop) (R : List V → Nat → V → Hp → Prop) (S : ∀ xs, Stays (R xs)) {j : Nat} {tl te : TE} {vs : List Nat} {σ : L2.St} {H : Hp} {Q : VK}
    (htl : ∀ R' : VK, (∀ a H1 xs, Hok xs H1 → SqT K H1 a xs → R' (.ref a) H1) → tl σ H R') (hl : ∀ xs H1, Hok xs H1 → xs.length < 100000)
    (hw : ∀ x, wipe ((wipe σ vs).set j (some x)) vs = wipe σ vs)
    (he : ∀ xs H1, Hok xs H1 → ∀ (i : Nat) (x : V) H', xs[i]? = some x → Ex H1 H' → ∀ Q' : VK, (∀ v H2, Ex H' H2 → R xs i v H2 → Q' v H2) → te ((wipe σ vs).set j (some x)) H' Q')
    (hd : ∀ xs H1, Hok xs H1 → ∀ D H' ys, H1 D = none → Ex H1 H' → H' D = some (.lst ys) → Made (R xs) xs.length ys H' → Q (.ref D) H') :
    tLc (iTup K tl) (gName j) tYes te vs σ H Q := htl _ fun a H1 xs ok hT => ⟨a, rfl, ⟨_, hT⟩, fun D hD =>
  lc_tup (K := K) (a := a) (xs := xs) (Cw (R xs) H1 D) (Cw.zero hD) (fun i H' _ c => ex_t c.2.1 hT) (fun i x H' hi c => ⟨hw x, by
      show (if true = true then te ((wipe σ vs).set j (some x)) H' (fun y H4 => ∃ acc, H4 D = some (.lst acc) ∧ acc.length < sizeLine ∧ Cw (R xs) H1 D (i + 1) (upd H4 D (.lst (acc ++ [y])))) else Cw (R xs) H1 D (i + 1) H')
      rw [if_pos rfl]
      exact he xs H1 ok i x H' hi c.2.1 _ fun v H2 e2 r => c.next (S xs) (by have := (List.getElem?_eq_some_iff.mp hi).1; have := hl xs H1 ok; omega) e2 r⟩)
    fun H' c => by
      obtain ⟨h, e1, ys, h2, m⟩ := c
      exact hd xs H1 ok D H' ys h e1 h2 m⟩
end
section
variable {σ : L2.St} {H : Hp} {D : Ends} {ta tb te : TE} {g : TG} {C : Addr} {sp : Sp} {E : XK}
theorem asg1 (h : te σ H fun x H1 => g x σ H1 D.nx) : tAsg te g D σ H := h
theorem rmk2 (h : ta σ H fun x H1 => tb σ H1 fun y H2 => tMake C sp [] E (fun _ H Q => Q [x, y] H) σ H2 D.rt) : tRet (tMake C sp [] E (tCons ta (tCons tb tNil))) D σ H := h
end
/-- the pair of both sides' sums -/
def SumsAt (K : PySem.W.Frag) (H : Hp) (c : Addr) (a b : List Int) : Prop := ∃ ca cb, SqT K H c [.ref ca, .ref cb] ∧ SqT K H ca (a.map V.int) ∧ SqT K H cb (b.map V.int)
theorem SumsAt.monoT {K : PySem.W.Frag} {H H' : Hp} {c : Addr} {a b : List Int} (e : ExT H H') (h : SumsAt K H c a b) : SumsAt K H' c a b := by
  obtain ⟨ca, cb, h1, h2, h3⟩ := h
  exact ⟨ca, cb, e.t h1, e.t h2, e.t h3⟩
theorem mem_le_sum {xs : List Int} (h : Pos xs) {x : Int} (hx : x ∈ xs) : x ≤ xs.sum := by
  obtain ⟨r, p, e⟩ := mem_perm hx
  have := (h.perm p).tail.sum_nonneg
  omega
theorem good_sums {xs : List Int} (h0 : 0 < xs.length) (h1 : xs.length ≤ 100) (hp : ∀ x ∈ xs, 1 ≤ x) (hs : xs.sum ≤ 1000000) : Sums xs := by
  have pp : Pos xs := fun x hx => by have := hp x hx; omega
  exact ⟨h1, List.length_pos_iff.mp h0, pp, fun x hx => by
    have := mem_le_sum pp hx
    have : (1000000 : Int) < 2 ^ 64 := by decide
    omega⟩
section
variable {P : Program} {w : World} {K : PySem.W.Frag} {mg : Str → Option Value} {base : Heap}
/-- sums are handed back -/
def RetS (K : PySem.W.Frag) (S : Addr) (H : Hp) (Q : VK) (C : List Int → List Int → Prop) : Prop := ∀ (c : Addr) (H' : Hp) (a b : List Int), Xs S H H' → SumsAt K H' c a b → Sums a → Sums b → a.sum = b.sum → C a b → Q (.ref c) H'
def spSums (K : PySem.W.Frag) : Sp := fun vs H Q _ => ∃ (S : Addr) (o t : Nat), vs = [.ref S, .int o, .int t] ∧ Src H S ∧ 1 ≤ o ∧ 1 ≤ t ∧ o + t ≤ 14 ∧ RetS K S H Q fun a b => a.length + b.length = o + t
theorem ok_Lsums (T : Tx K mg) : FnOk P w K mg base CX0 4 T.Lsums.f T.Lsums.fd ["_law_source_here", "_law_owers", "_law_takers"] (spSums K) := by
  refine T.Lsums.F.ok sc_Lsums (fun vs H Q E h => ?_) (fun cdv A outer s H vs Q E hr h => ?_)
  · obtain ⟨_, _, _, rfl, _⟩ := h
    rfl
  · obtain ⟨S, o, t, rfl, hS, o1, t1, ot, k⟩ := h
    refine ⟨_, (pss_cons (ps_set (i := 3) sc_Lsums.nd (by rfl) (Or.inr rfl) (pe_call (ok_Lside (P := P) (w := w) (base := base) T) (hr.mono (by decide)) (by rfl) T.g_Lside T.Lside.F.kp T.Lside.b .nil pass0 (pa_cons (pv 0) (pa_cons (pv 1) pa_nil))))
      (Evl.pss_cut (ps_if (pt_cmpR op_lt (pe_callB (cr_sum rfl) (by rfl) T.n_sum (by decide +kernel) (pa_cons (pv 3) pa_nil)) (pv 2) (nomark _)) (pss_one (ps_asg (pe_op op_sub (pe_op op_add (pe_ix ix_list (pv 3) pe_int (fun _ _ => rfl)) (pv 2)) (pe_callB (cr_sum rfl) (by rfl) T.n_sum (by decide +kernel) (pa_cons (pv 3) pa_nil))) (pg_sub (pv 3) pe_int set_list))) pss_nil)
      (pss_cons (ps_set (i := 4) sc_Lsums.nd (by rfl) (Or.inl rfl) (pe_call (ok_Lsplit (P := P) (w := w) (base := base) T) (hr.mono (by decide)) (by rfl) T.g_Lsplit T.Lsplit.F.kp T.Lsplit.b .nil pass0 (pa_cons (pv 0) (pa_cons (pe_callB (cr_sum rfl) (by rfl) T.n_sum (by decide +kernel) (pa_cons (pv 3) pa_nil)) (pa_cons (pv 2) pa_nil)))))
      (Evl.pss_cut (ps_if (PW.pt (pw_and (pt_cmpR op_eq (pe_call (ok_Ldraw (P := P) (w := w) (base := base) T) (hr.mono (by decide)) (by rfl) T.g_Ldraw T.Ldraw.F.kp T.Ldraw.b .nil pass0 (pa_cons (pv 0) (pa_cons pe_int pa_nil))) pe_int (nomark _)) (pw_and1 (pt_cmpR op_eq (pv 1) (pv 2) (nomark _))))) (pss_one (ps_setLc (i := 4) (own := [(("_law_k" : Str), 5)]) (g := gName 5) (tt := tYes) (by rfl) sc_Lsums.nd (by rfl) (by rfl) (sw_true (by rfl) (by rfl) (by rfl) (by decide +kernel)) (pi_tup (pe_call (ok_Lperm (P := P) (w := w) (base := base) T) (hr.mono (by decide)) (by rfl) T.g_Lperm T.Lperm.F.kp T.Lperm.b .nil pass0 (pa_cons (pv 0) (pa_cons (pv 1) pa_nil)))) (blkOk_by (own := [(("_law_k" : Str), 5)]) (N := ["_law_source_here", "_law_owers", "_law_takers", "_law_owed", "_law_due_here", "_law_k"]) (sc := defScope s_Lsums) (by decide +kernel)) (fun _ _ _ _ _ => (pg_name (i := 5) sc_Lsums.nd (by rfl) (Or.inl rfl))) (fun _ _ _ _ _ => pts_nil) (fun _ _ _ _ _ => (pe_ix (r := rIxL K) ix_list (pv 3) (pv 5) (fun _ _ => rfl))))) pss_nil)
      (pss_cons (ps_if (pt_cmpR op_eq (pe_call (ok_Ldraw (P := P) (w := w) (base := base) T) (hr.mono (by decide)) (by rfl) T.g_Ldraw T.Ldraw.F.kp T.Ldraw.b .nil pass0 (pa_cons (pv 0) (pa_cons pe_int pa_nil))) pe_int (nomark _)) (pss_one (ps_ret (pe_tup (pa_cons (pe_callTy call_tuple_of (by rfl) T.n_tuple (by decide +kernel) (pa_cons (pv 3) pa_nil)) (pa_cons (pe_callTy call_tuple_of (by rfl) T.n_tuple (by decide +kernel) (pa_cons (pv 4) pa_nil)) pa_nil))))) pss_nil)
      (pss_one (ps_ret (pe_tup (pa_cons (pe_callTy call_tuple_of (by rfl) T.n_tuple (by decide +kernel) (pa_cons (pv 4) pa_nil)) (pa_cons (pe_callTy call_tuple_of (by rfl) T.n_tuple (by decide +kernel) (pa_cons (pv 3) pa_nil)) pa_nil)))))))))), ?_⟩
    refine ⟨_, rfl, _, rfl, S, o, rfl, hS, by omega, fun p H1 xs hp x1 hxs xl x17 => ?_⟩
    have pS : p ≠ S := Ne.symm (hS.ne hp)
    have xs0 : 0 < xs.length := by omega
    have xsum := sum_lt (M := 7) fun x hx => (x17 x hx).2
    have pos1 : Pos xs := fun x hx => by have := (x17 x hx).1; omega
    have xn := pos1.sum_nonneg
    -- if sum(owed) < takers
    refine ⟨fun σ' H' => ∃ ys : List Int, σ' = [some (.ref S), some (.int o), some (.int t), some (.ref p), none, none] ∧ Xs S H H' ∧ H' p = some (.lst (ys.map V.int)) ∧ ys.length = o ∧ (∀ y ∈ ys, 1 ≤ y) ∧ (t : Int) ≤ ys.sum ∧ ys.sum ≤ 200, ?_, ?_⟩
    · refine ⟨_, rfl, p, xs, rfl, SqL.of hxs, _, rfl, _, _, rfl, rfl, _, rfl, ?_⟩
      refine ite2 (fun hlt => ?_) (fun hge => ?_)
      · have lt : xs.sum < (t : Int) := of_decide_eq_true hlt
        have hat : (xs.map V.int)[0]? = some (.int (at0 xs 0)) := at0_getV xs0
        have hget : xs[0]? = some (at0 xs 0) := at0_of xs0
        have f1 := x17 (at0 xs 0) (List.mem_of_getElem? hget)
        refine ⟨_, rfl, p, _, 0, _, rfl, rfl, SqL.of hxs, atI_nat (j := 0) hat, _, rfl, _, _, rfl, rfl, _, rfl, p, xs, rfl, SqL.of hxs, _, _, rfl, rfl, _, rfl, p, _, 0, 0, rfl, rfl, hxs, Evl.ixN_nat (j := 0) (by rw [List.length_map]; exact xs0), ?_⟩
        refine ⟨xs.set 0 (at0 xs 0 + t - xs.sum), rfl, x1.mt hS hp, by rw [upd_same, List.map_set], by rw [List.length_set, xl], fun y hy => ?_, ?_, ?_⟩
        · rcases List.mem_or_eq_of_mem_set hy with h | h
          · exact (x17 y h).1
          · omega
        · rw [sum_set hget]; omega
        · rw [sum_set hget]; omega
      · have ge : ¬ xs.sum < (t : Int) := fun q => hge (decide_eq_true q)
        exact ⟨xs, rfl, x1, hxs, xl, fun y hy => (x17 y hy).1, by omega, by omega⟩
    · rintro σ' H2 ⟨ys, rfl, x2, hys, yl, y1, yt, yb⟩
      refine ⟨_, rfl, _, rfl, p, ys, rfl, SqL.of hys, _, rfl, S, _, t, rfl, x2.src, t1, by omega, yt, by omega, fun pd H3 ds hpd x3 hds dl dsum d1 => ?_⟩
      have x03 := x2.tr x3
      have hys3 := x3.lst pS hys
      have dS : pd ≠ S := Ne.symm (x2.src.ne hpd)
      refine ⟨fun σ' H' => ∃ (pe : Addr) (es : List Int), σ' = [some (.ref S), some (.int o), some (.int t), some (.ref p), some (.ref pe), none] ∧ Xs S H H' ∧ pe ≠ S ∧ H' p = some (.lst (ys.map V.int)) ∧ H' pe = some (.lst (es.map V.int)) ∧ es.length = t ∧ es.sum = ys.sum ∧ ∀ e ∈ es, 1 ≤ e, ?_, ?_⟩
      · refine ⟨_, rfl, S, 3, rfl, x3.src, by decide, by decide, fun v H4 v0 v3 x4 => ⟨rfl, _, rfl, ?_⟩⟩
        have keep : ∃ (pe : Addr) (es : List Int), [some (V.ref S), some (V.int o), some (V.int t), some (V.ref p), some (V.ref pd), none] = [some (V.ref S), some (.int o), some (.int t), some (.ref p), some (.ref pe), none] ∧ Xs S H H4 ∧ pe ≠ S ∧ H4 p = some (.lst (ys.map V.int)) ∧ H4 pe = some (.lst (es.map V.int)) ∧ es.length = t ∧ es.sum = ys.sum ∧ ∀ e ∈ es, 1 ≤ e :=
          ⟨pd, ds, rfl, x03.tr x4, dS, x4.lst pS hys3, x4.lst dS hds, dl, dsum, d1⟩
        refine ite2 (fun _ => ?_) (fun _ => iteF keep)
        refine ⟨_, rfl, _, rfl, rfl, _, rfl, ?_⟩
        rw [eq_ints]
        refine ite2 (fun heq => ?_) (fun _ => keep)
        have eot : o = t := by have : (o : Int) = t := of_decide_eq_true heq
                               omega
        have x04 := x03.tr x4
        have hys4 := x4.lst pS hys3
        refine asg1 (comp_tupG (K := K) (fun vs H5 => ∃ σ : List Nat, vs = natsV σ ∧ Xs S H4 H5 ∧ σ.Perm (List.range o)) (fun vs i v _ => ∃ n : Int, vs[i]? = some (.int n) ∧ v = .int (at0 ys n.toNat)) (fun vs i v H H' e h => h)
          (fun R' k' => ⟨_, rfl, _, rfl, S, o, rfl, x4.src, by omega, fun po H5 σp x5 hσ hpo => k' po H5 _ ⟨σp, rfl, x5, hσ⟩ hpo⟩) ?_ (fun x => rfl) ?_ ?_)
        · rintro vs H5 ⟨σp, rfl, x5, hσ⟩
          rw [natsV_len, hσ.length_eq, List.length_range]; omega
        · rintro vs H5 ⟨σp, rfl, x5, hσ⟩ i x H6 hi e6 Q' k'
          obtain ⟨z, hz, rfl⟩ := natsV_get hi
          have zl : z < o := by
            have := hσ.mem_iff.mp (List.mem_of_getElem? hz)
            simpa using this
          have hys6 := e6 _ _ (x5.lst pS hys4)
          exact ⟨_, rfl, _, rfl, p, _, _, _, rfl, rfl, SqL.of hys6, atI_nat (at0_getV (by omega)), k' _ _ (Ex.rf _) ⟨_, hi, by rw [Int.toNat_natCast]⟩⟩
        · rintro vs H5 ⟨σp, rfl, x5, hσ⟩ D H6 zs hD e6 hzs m
          have pv := perm_vals (a := ys) (σ := σp) (by rw [yl]; exact hσ)
          have ezs : zs = (σp.map (at0 ys)).map V.int := by
            obtain ⟨ml, mr⟩ := m
            rw [natsV_len] at ml
            apply List.ext_getElem?
            intro i
            by_cases hi : i < σp.length
            · have e1 : zs[i]? = some zs[i] := List.getElem?_eq_getElem (by omega)
              obtain ⟨n, hn, hv⟩ := mr i _ e1
              obtain ⟨z, hz, en⟩ := natsV_get hn
              rw [e1, hv, List.getElem?_map, List.getElem?_map, hz]
              cases en
              rw [Int.toNat_natCast]
              rfl
            · rw [List.getElem?_eq_none (by omega), List.getElem?_eq_none (by simp; omega)]
          rw [ezs] at hzs
          refine ⟨D, σp.map (at0 ys), rfl, (x04.tr x5).ex e6, Ne.symm (x5.src.ne hD), e6 _ _ (x5.lst pS hys4), hzs, by rw [List.length_map, hσ.length_eq, List.length_range]; omega, perm_sum pv, fun e he => y1 e (pv.mem_iff.mp he)⟩
      · rintro σ' H4 ⟨pe, es, rfl, x4, eS, hys4, hes, el, esum, e1⟩
        have sa : Sums ys := good_sums (by omega) (by omega) y1 (by omega)
        have sb : Sums es := good_sums (by omega) (by omega) e1 (by omega)
        refine ⟨_, rfl, S, 2, rfl, x4.src, by decide, by decide, fun v H5 v0 v2 x5 => ⟨rfl, _, rfl, ?_⟩⟩
        have hys5 := x5.lst pS hys4
        have hes5 := x5.lst eS hes
        have x05 := x4.tr x5
        refine ite2 (fun _ => ?_) (fun _ => ?_)
        · refine ⟨_, rfl, p, _, rfl, .inl ⟨SqL.of hys5, fun a1 ha1 => ?_⟩⟩
          have q1 := Ex.nw (o := .tup (ys.map V.int)) ha1
          refine ⟨_, rfl, pe, _, rfl, .inl ⟨SqL.of (q1 _ _ hes5), fun a2 ha2 => ⟨by show 2 ≤ sizeLine; decide, fun c hc => ?_⟩⟩⟩
          have q2 := Ex.nw (o := .tup (es.map V.int)) ha2
          have q3 := Ex.nw (o := .tup [.ref a1, .ref a2]) hc
          exact k c _ ys es (x05.ex (Ex.tr q1 (Ex.tr q2 q3))) ⟨a1, a2, tup_of, ex_t (Ex.tr q2 q3) tup_of, ex_t q3 tup_of⟩ sa sb esum.symm (by omega)
        · refine ⟨_, rfl, pe, _, rfl, .inl ⟨SqL.of hes5, fun a1 ha1 => ?_⟩⟩
          have q1 := Ex.nw (o := .tup (es.map V.int)) ha1
          refine ⟨_, rfl, p, _, rfl, .inl ⟨SqL.of (q1 _ _ hys5), fun a2 ha2 => ⟨by show 2 ≤ sizeLine; decide, fun c hc => ?_⟩⟩⟩
          have q2 := Ex.nw (o := .tup (ys.map V.int)) ha2
          have q3 := Ex.nw (o := .tup [.ref a1, .ref a2]) hc
          exact k c _ es ys (x05.ex (Ex.tr q1 (Ex.tr q2 q3))) ⟨a1, a2, tup_of, ex_t (Ex.tr q2 q3) tup_of, ex_t q3 tup_of⟩ sb sa esum (by omega)
def spCrowd (K : PySem.W.Frag) : Sp := fun vs H Q _ => ∃ S : Addr, vs = [.ref S, .int 6] ∧ Src H S ∧ RetS K S H Q fun a b => a.length + b.length ≤ 6
theorem ok_Lcrowd (T : Tx K mg) : FnOk P w K mg base CX0 5 T.Lcrowd.f T.Lcrowd.fd ["_law_source_here", "_law_most"] (spCrowd K) := by
  refine T.Lcrowd.F.ok sc_Lcrowd (fun vs H Q E h => ?_) (fun cdv A outer s H vs Q E hr h => ?_)
  · obtain ⟨_, rfl, _⟩ := h
    rfl
  · obtain ⟨S, rfl, hS, k⟩ := h
    refine ⟨_, (Evl.pss_cut (ps_set (i := 2) sc_Lcrowd.nd (by rfl) (Or.inl rfl) (pe_ifExp (pt_cmpR op_gt (pe_call (ok_Ldraw (P := P) (w := w) (base := base) T) (hr.mono (by decide)) (by rfl) T.g_Ldraw T.Ldraw.F.kp T.Ldraw.b .nil pass0 (pa_cons (pv 0) (pa_cons pe_int pa_nil))) pe_int (nomark _)) (pe_op op_sub (pv 1) (pe_call (ok_Ldraw (P := P) (w := w) (base := base) T) (hr.mono (by decide)) (by rfl) T.g_Ldraw T.Ldraw.F.kp T.Ldraw.b .nil pass0 (pa_cons (pv 0) (pa_cons pe_int pa_nil)))) (pe_op op_add pe_int (pe_call (ok_Ldraw (P := P) (w := w) (base := base) T) (hr.mono (by decide)) (by rfl) T.g_Ldraw T.Ldraw.F.kp T.Ldraw.b .nil pass0 (pa_cons (pv 0) (pa_cons (pe_op op_sub (pv 1) pe_int) pa_nil))))))
      (Evl.pss_cut (ps_set (i := 3) sc_Lcrowd.nd (by rfl) (Or.inl rfl) (pe_ifExp (pt_cmpR op_gt (pe_call (ok_Ldraw (P := P) (w := w) (base := base) T) (hr.mono (by decide)) (by rfl) T.g_Ldraw T.Ldraw.F.kp T.Ldraw.b .nil pass0 (pa_cons (pv 0) (pa_cons pe_int pa_nil))) pe_int (nomark _)) (pe_callB (call_max2 rfl) (by rfl) T.n_max (by decide +kernel) (pa_cons pe_int (pa_cons (pe_op op_sub (pe_op op_fdiv (pv 2) pe_int) (pe_call (ok_Ldraw (P := P) (w := w) (base := base) T) (hr.mono (by decide)) (by rfl) T.g_Ldraw T.Ldraw.F.kp T.Ldraw.b .nil pass0 (pa_cons (pv 0) (pa_cons pe_int pa_nil)))) pa_nil))) (pe_op op_add pe_int (pe_call (ok_Ldraw (P := P) (w := w) (base := base) T) (hr.mono (by decide)) (by rfl) T.g_Ldraw T.Ldraw.F.kp T.Ldraw.b .nil pass0 (pa_cons (pv 0) (pa_cons (pe_op op_sub (pv 2) pe_int) pa_nil))))))
      (pss_one (ps_ret (pe_call (ok_Lsums (P := P) (w := w) (base := base) T) (hr.mono (by decide)) (by rfl) T.g_Lsums T.Lsums.F.kp T.Lsums.b .nil pass0 (pa_cons (pv 0) (pa_cons (pv 3) (pa_cons (pe_op op_sub (pv 2) (pv 3)) pa_nil)))))))), ?_⟩
    refine ⟨fun σ' H' => ∃ m : Int, σ' = [some (.ref S), some (.int 6), some (.int m), none] ∧ Xs S H H' ∧ 2 ≤ m ∧ m ≤ 6, ?_, ?_⟩
    · refine ⟨_, rfl, S, 3, rfl, hS, by decide, by decide, fun v H1 v0 v3 x1 => ⟨_, _, rfl, rfl, _, rfl, ?_⟩⟩
      refine ite2 (fun _ => ?_) (fun _ => ?_)
      · exact ⟨_, rfl, _, rfl, S, 2, rfl, x1.src, by decide, by decide, fun u H2 u0 u2 x2 => ⟨_, _, rfl, rfl, _, rfl, x1.tr x2, by omega, by omega⟩⟩
      · exact ⟨_, rfl, _, rfl, _, _, rfl, rfl, S, _, rfl, x1.src, by decide, by decide, fun u H2 u0 u2 x2 => ⟨_, _, rfl, rfl, _, rfl, x1.tr x2, by omega, by omega⟩⟩
    · rintro σ' H1 ⟨m, rfl, x1, m2, m6⟩
      refine ⟨fun σ' H' => ∃ o : Int, σ' = [some (.ref S), some (.int 6), some (.int m), some (.int o)] ∧ Xs S H H' ∧ 1 ≤ o ∧ o < m, ?_, ?_⟩
      · refine ⟨_, rfl, S, 3, rfl, x1.src, by decide, by decide, fun v H2 v0 v3 x2 => ⟨_, _, rfl, rfl, _, rfl, ?_⟩⟩
        refine ite2 (fun _ => ?_) (fun _ => ?_)
        · refine ⟨_, rfl, _, _, rfl, rfl, ⟨by decide, by decide⟩, _, rfl, S, 2, rfl, x2.src, by decide, by decide, fun u H3 u0 u2 x3 => ⟨_, _, rfl, rfl, _, _, rfl, _, rfl, (x1.tr x2).tr x3, ?_, ?_⟩⟩
          · split <;> omega
          · split <;> omega
        · exact ⟨_, rfl, _, rfl, _, _, rfl, rfl, S, _, rfl, x2.src, by omega, by omega, fun u H3 u0 u2 x3 => ⟨_, _, rfl, rfl, _, rfl, (x1.tr x2).tr x3, by omega, by omega⟩⟩
      · rintro σ' H2 ⟨o, rfl, x2, o1, om⟩
        obtain ⟨o', rfl⟩ : ∃ o' : Nat, o = o' := ⟨o.toNat, by omega⟩
        obtain ⟨t', ht⟩ : ∃ t' : Nat, m - (o' : Int) = t' := ⟨(m - o').toNat, by omega⟩
        refine ⟨_, rfl, _, rfl, _, rfl, _, rfl, _, _, rfl, rfl, S, o', t', by show [V.ref S, V.int o', V.int (m - o')] = _; rw [ht], x2.src, by omega, by omega, by omega, fun c H3 a b x3 hc sa sb es hl => k c H3 a b (x2.tr x3) hc sa sb es (by omega)⟩
theorem Frs.of_made {p q : Int} {a : List Int} {ys : List V} {H : Hp} {l : Addr} {n : Nat} (hn : n = a.length) (m : Made (fun i v H => Fr K H v (F p q (at0 a i))) n ys H) (h : SqT K H l ys) : Frs K H l p q a := by
  subst hn
  obtain ⟨hl, hr⟩ := m
  refine ⟨ys, h, hl, fun i v hv => ?_⟩
  have hi : i < a.length := by have := (List.getElem?_eq_some_iff.mp hv).1; omega
  exact ⟨at0 a i, at0_of hi, hr i v hv⟩
def spEvening (K : PySem.W.Frag) (C : Addr) : Sp := fun vs H Q _ => ∃ (c : Addr) (v : V) (p q : Int) (a b : List Int), vs = [.ref c, v] ∧ SumsAt K H c a b ∧ Fr K H v (p, q) ∧ Pq p q ∧ Sums a ∧ Sums b ∧ a.sum = b.sum ∧ ∀ e H', Ex H H' → EvAt K C H' e p q a b → Q (.ref e) H'
theorem ok_Levening (T : Tx K mg) : FnOk P w K mg base CX0 7 T.Levening.f T.Levening.fd ["_law_sums_here", "_law_unit_here"] (spEvening K T.CEvening) := by
  refine T.Levening.F.ok sc_Levening (fun vs H Q E h => ?_) (fun cdv A outer s H vs Q E hr h => ?_)
  · obtain ⟨_, _, _, _, _, _, rfl, _⟩ := h
    rfl
  · obtain ⟨c, v, p, q, a, b, rfl, ⟨ca, cb, hc, ha, hb⟩, hv, hU, sa, sb, es, k⟩ := h
    refine ⟨_, (pss_cons (ps_asg (pv 0) (pg_tup (by rfl) (pgs_cons (pg_name (i := 2) sc_Levening.nd (by rfl) (Or.inl rfl)) (pgs_cons (pg_name (i := 3) sc_Levening.nd (by rfl) (Or.inl rfl)) pgs_nil))))
      (pss_one (ps_ret (pe_make T.mk_Evening (ok_Eveninginit (P := P) (w := w) (base := base) T) (hr.mono (by decide)) (by rfl) T.c_Evening T.Eveninginit.b .nil pass0 (pa_cons (pe_callTy call_tuple_of (by rfl) T.n_tuple (by decide +kernel) (pa_cons (pe_lc (own := [(("_law_item" : Str), 4)]) (g := gName 4) (tt := tYes) (by rfl) sc_Levening.nd (pi_tup (pv 2)) (blkOk_by (own := [(("_law_item" : Str), 4)]) (N := ["_law_sums_here", "_law_unit_here", "_law_owed", "_law_due_here", "_law_item"]) (sc := defScope s_Levening) (by decide +kernel)) (fun _ _ _ _ _ => (pg_name (i := 4) sc_Levening.nd (by rfl) (Or.inl rfl))) (fun _ _ _ _ _ => pts_nil) (fun _ _ _ _ _ => (pe_call (ok_Ltimes (P := P) (w := w) (base := base) T) (hr.mono (by decide)) (by rfl) T.g_Ltimes T.Ltimes.F.kp T.Ltimes.b .nil pass0 (pa_cons (pv 4) (pa_cons (pv 1) pa_nil))))) pa_nil)) (pa_cons (pe_callTy call_tuple_of (by rfl) T.n_tuple (by decide +kernel) (pa_cons (pe_lc (own := [(("_law_item" : Str), 4)]) (g := gName 4) (tt := tYes) (by rfl) sc_Levening.nd (pi_tup (pv 3)) (blkOk_by (own := [(("_law_item" : Str), 4)]) (N := ["_law_sums_here", "_law_unit_here", "_law_owed", "_law_due_here", "_law_item"]) (sc := defScope s_Levening) (by decide +kernel)) (fun _ _ _ _ _ => (pg_name (i := 4) sc_Levening.nd (by rfl) (Or.inl rfl))) (fun _ _ _ _ _ => pts_nil) (fun _ _ _ _ _ => (pe_call (ok_Ltimes (P := P) (w := w) (base := base) T) (hr.mono (by decide)) (by rfl) T.g_Ltimes T.Ltimes.F.kp T.Ltimes.b .nil pass0 (pa_cons (pv 4) (pa_cons (pv 1) pa_nil))))) pa_nil)) pa_nil)))))), ?_⟩
    refine ⟨_, rfl, c, _, rfl, hc, rfl, _, _, rfl, _, _, rfl, rfl, ?_⟩
    try dsimp only
    have item : ∀ {xs : List Int} {i : Nat} {x : V}, Sums xs → (xs.map V.int)[i]? = some x → ∃ n, xs[i]? = some n ∧ x = .int n ∧ Sm 100 n := fun {xs i x} hs h => by
      rw [List.getElem?_map] at h
      obtain ⟨z, hz, rfl⟩ := Option.map_eq_some_iff.mp h
      exact ⟨z, hz, rfl, (hs.at hz).2⟩
    refine rmk2 (cb1 (comp_tup (K := K) (xs := a.map V.int) (fun i v H => Fr K H v (F p q (at0 a i))) (fun i v H H' e h => h.monoT e) (fun R' k' => ⟨_, rfl, k' ca H (Ex.rf H) ha⟩) (by rw [List.length_map]; have := sa.len; omega) (fun x => rfl) ?_ ?_))
    · intro i x H' hi e' Q' k'
      obtain ⟨n, hn, rfl, ns⟩ := item sa hi
      exact ⟨_, rfl, _, rfl, n, p, q, v, rfl, hv.mono e', hU, ns, fun v2 H2 e2 f => k' v2 H2 e2 (by rw [at0_get hn]; exact f)⟩
    · intro D H1 ys hD e1 hys m
      rw [List.length_map] at m
      refine ⟨D, ys, rfl, .inl ⟨SqL.of hys, fun l1 hl1 => ?_⟩⟩
      have q1 := Ex.nw (o := .tup ys) hl1
      have f1 := Frs.of_made (K := K) rfl (Made.stay (R := fun i v H => Fr K H v (F p q (at0 a i))) (fun i v H H' e h => h.monoT e) (ExT.of q1) m) tup_of
      have e01 := Ex.tr e1 q1
      refine cb1 (comp_tup (K := K) (xs := b.map V.int) (fun i v H => Fr K H v (F p q (at0 b i))) (fun i v H H' e h => h.monoT e) (fun R' k' => ⟨_, rfl, k' cb _ (Ex.rf _) (ex_t e01 hb)⟩) (by rw [List.length_map]; have := sb.len; omega) (fun x => rfl) ?_ ?_)
      · intro i x H' hi e' Q' k'
        obtain ⟨n, hn, rfl, ns⟩ := item sb hi
        exact ⟨_, rfl, _, rfl, n, p, q, v, rfl, hv.mono (Ex.tr e01 e'), hU, ns, fun v2 H2 e2 f => k' v2 H2 e2 (by rw [at0_get hn]; exact f)⟩
      · intro D2 H2 zs hD2 e2 hzs m2
        rw [List.length_map] at m2
        refine ⟨D2, zs, rfl, .inl ⟨SqL.of hzs, fun l2 hl2 => ?_⟩⟩
        have q2 := Ex.nw (o := .tup zs) hl2
        have f2 := Frs.of_made (K := K) rfl (Made.stay (R := fun i v H => Fr K H v (F p q (at0 b i))) (fun i v H H' e h => h.monoT e) (ExT.of q2) m2) tup_of
        have e02 := Ex.tr e01 (Ex.tr e2 q2)
        intro x dx nx ndx ne
        have en := Ex.tr (Ex.nw (o := .own x) ndx) (Ex.nw (o := .ins T.CEvening dx []) (show (upd (upd H2 l2 (.tup zs)) dx (.own x)) x = Option.none by rw [upd_ne ne.symm]; exact nx))
        refine ⟨x, dx, l1, l2, p, q, a, b, rfl, upd_same, f1.mono (Ex.tr (Ex.tr e2 q2) en), f2.mono en, hU, sa, sb, es, fun H3 kp hE => ⟨rfl, ?_⟩⟩
        exact k x H3 (fun d o hd => kp d o (en d o (e02 d o hd)) (ne_of_none (e02 d o hd) nx)) hE
end
end K70
end
section
set_option Elab.async false
set_option linter.all false
set_option maxRecDepth 100000
set_option maxHeartbeats 4000000
set_option pp.maxSteps 400
namespace K70
open PySem PySem.Spec PyProof.Rows L2
open Evl (Ex ex_l ex_t fresh_back)
/-! ### tuples cut and joined -/
section
variable {K : PySem.W.Frag} {H : Hp} {Q : VK} {a b : Addr} {xs ys : List V}
theorem np {σ : L2.St} {Q : Option Int → Hp → Prop} (h : Q none H) : tNoPart σ H Q := h
theorem slA {lo hi : Option Int} (h : SqT K H a xs) (k : ∀ p H', Ex H H' → SqT K H' p (cutV xs lo hi) → Q (.ref p) H') : rSlA K (.ref a) lo hi H Q :=
  ⟨a, xs, rfl, h, fun hw => k a H (Ex.rf H) (by
    have : cutV xs lo hi = xs := by
      unfold cutV
      rw [hw.1, hw.2]; simp
    rw [this]; exact h), fun _ p hp => k p _ (Ex.nw hp) tup_of⟩
theorem catA (h1 : SqT K H a xs) (h2 : SqT K H b ys) (hl : xs.length + ys.length ≤ 100000) (k : ∀ p H', Ex H H' → SqT K H' p (xs ++ ys) → Q (.ref p) H') : rCatA K (.ref a) (.ref b) H Q :=
  ⟨a, b, xs, ys, rfl, rfl, h1, h2, Evl.sz_of hl, fun e => k b H (Ex.rf H) (by rw [e]; exact h2), fun _ e => k a H (Ex.rf H) (by rw [e, List.append_nil]; exact h1), fun _ _ p hp => k p _ (Ex.nw hp) tup_of⟩
end
theorem cut_take (A : List Int) (i : Nat) (h : i ≤ A.length) : cutV (A.map V.int) none (some (i : Int)) = (A.take i).map V.int := by
  unfold cutV
  rw [HT.sIx_none, show HT.sIx (A.map V.int).length (A.map V.int).length (some (i : Int)) = min i (A.map V.int).length from HT.sIx_nat _ _ i, List.length_map, Nat.min_eq_left h, List.drop_zero, Nat.sub_zero, List.map_take]
theorem cut_drop (A : List Int) (i : Nat) (h : i ≤ A.length) : cutV (A.map V.int) (some (i : Int)) none = (A.drop i).map V.int := by
  unfold cutV
  rw [HT.sIx_none, show HT.sIx (A.map V.int).length 0 (some (i : Int)) = min i (A.map V.int).length from HT.sIx_nat _ _ i, List.length_map, Nat.min_eq_left h, List.map_drop]
  exact List.take_of_length_le (by simp)
theorem set_parts (A : List Int) (i : Nat) (z : Int) (h : i < A.length) : (A.take i).map V.int ++ [.int z] ++ (A.drop (i + 1)).map V.int = (A.set i z).map V.int := by
  rw [List.set_eq_take_append_cons_drop, if_pos h, List.map_append, List.map_cons, List.append_assoc]; rfl
section
variable {P : Program} {w : World} {K : PySem.W.Frag} {mg : Str → Option Value} {base : Heap}
/-- what both pay -/
def payd (A B : List Int) (i j : Nat) : Int := if at0 B j < at0 A i then at0 B j else at0 A i
def spPay (K : PySem.W.Frag) : Sp := fun vs H Q _ => ∃ (c d : Addr) (A B : List Int) (i j : Nat), vs = [.ref c, .ref d] ∧ SumsAt K H c A B ∧ SqT K H d [.int i, .int j] ∧ i < A.length ∧ j < B.length ∧ A.length ≤ 1000 ∧ B.length ≤ 1000 ∧
  ∀ c' H', Ex H H' → SumsAt K H' c' (A.set i (at0 A i - payd A B i j)) (B.set j (at0 B j - payd A B i j)) → Q (.ref c') H'
theorem ok_Lpay (T : Tx K mg) : FnOk P w K mg base CX0 1 T.Lpay.f T.Lpay.fd ["_law_state", "_law_pair"] (spPay K) := by
  refine T.Lpay.F.ok sc_Lpay (fun vs H Q E h => ?_) (fun cdv A outer s H vs Q E hr h => ?_)
  · obtain ⟨_, _, _, _, _, _, rfl, _⟩ := h
    rfl
  · obtain ⟨c, d, X, Y, i, j, rfl, ⟨ca, cb, hc, ha, hb⟩, hd, hi, hj, bx, by', k⟩ := h
    refine ⟨_, (pss_cons (ps_asg (pv 0) (pg_tup (by rfl) (pgs_cons (pg_name (i := 2) sc_Lpay.nd (by rfl) (Or.inl rfl)) (pgs_cons (pg_name (i := 3) sc_Lpay.nd (by rfl) (Or.inl rfl)) pgs_nil))))
      (pss_cons (ps_asg (pv 1) (pg_tup (by rfl) (pgs_cons (pg_name (i := 4) sc_Lpay.nd (by rfl) (Or.inl rfl)) (pgs_cons (pg_name (i := 5) sc_Lpay.nd (by rfl) (Or.inl rfl)) pgs_nil))))
      (pss_cons (ps_set (i := 6) sc_Lpay.nd (by rfl) (Or.inl rfl) (pe_callB (call_min2 rfl) (by rfl) T.n_min (by decide +kernel) (pa_cons (pe_ix ix_tup (pv 2) (pv 4) (fun _ _ => rfl)) (pa_cons (pe_ix ix_tup (pv 3) (pv 5) (fun _ _ => rfl)) pa_nil))))
      (pss_cons (ps_set (i := 2) sc_Lpay.nd (by rfl) (Or.inl rfl) (pe_op op_catA (pe_op op_catA (pe_slice sl_tupA (pv 2) po_none (po_some (pv 4))) (pe_tup (pa_cons (pe_op op_sub (pe_ix ix_tup (pv 2) (pv 4) (fun _ _ => rfl)) (pv 6)) pa_nil))) (pe_slice sl_tupA (pv 2) (po_some (pe_op op_add (pv 4) pe_int)) po_none)))
      (pss_one (ps_ret (pe_tup (pa_cons (pv 2) (pa_cons (pe_op op_catA (pe_op op_catA (pe_slice sl_tupA (pv 3) po_none (po_some (pv 5))) (pe_tup (pa_cons (pe_op op_sub (pe_ix ix_tup (pv 3) (pv 5) (fun _ _ => rfl)) (pv 6)) pa_nil))) (pe_slice sl_tupA (pv 3) (po_some (pe_op op_add (pv 5) pe_int)) po_none)) pa_nil))))))))), ?_⟩
    have gi : (X.map V.int)[i]? = some (.int (at0 X i)) := at0_getV hi
    have gj : (Y.map V.int)[j]? = some (.int (at0 Y j)) := at0_getV hj
    refine ⟨_, rfl, c, _, rfl, hc, rfl, _, _, rfl, _, _, rfl, rfl, ?_⟩
    refine ⟨_, rfl, d, _, rfl, hd, rfl, _, _, rfl, _, _, rfl, rfl, ?_⟩
    refine ⟨_, rfl, _, rfl, ca, _, _, _, rfl, rfl, ha, atI_nat gi, _, rfl, _, rfl, cb, _, _, _, rfl, rfl, hb, atI_nat gj, _, _, rfl, ?_⟩
    show _
    -- owed
    refine ⟨_, rfl, _, rfl, _, rfl, slA (K := K) ha fun p1 H1 e1 q1 => ?_⟩
    rw [cut_take X i (by omega)] at q1
    refine ⟨_, rfl, _, rfl, ca, _, _, _, rfl, rfl, ex_t e1 ha, atI_nat gi, _, rfl, _, _, rfl, rfl, Nat.le_trans (show 1 ≤ 1000 by decide) (by decide), fun p2 hp2 => ?_⟩
    have e2 : Ex H1 (upd H1 p2 (.tup [.int (at0 X i - payd X Y i j)])) := Ex.nw hp2
    refine catA (K := K) (ex_t e2 q1) tup_of (by rw [List.length_map, List.length_take]; show min i X.length + 1 ≤ 100000; omega) fun p3 H3 e3 q3 => ?_
    have e13 := Ex.tr e1 (Ex.tr e2 e3)
    refine ⟨_, rfl, _, rfl, _, _, rfl, rfl, _, rfl, np (slA (K := K) (ex_t e13 ha) fun p4 H4 e4 q4 => ?_)⟩
    rw [show ((i : Int) + 1) = ((i + 1 : Nat) : Int) by omega, cut_drop X (i + 1) (by omega)] at q4
    refine catA (K := K) (ex_t e4 q3) q4 (by simp; omega) fun p5 H5 e5 q5 => ?_
    rw [set_parts X i _ hi] at q5
    have e15 := Ex.tr e13 (Ex.tr e4 e5)
    -- the pair, due
    refine ⟨_, rfl, _, rfl, _, rfl, _, rfl, slA (K := K) (ex_t e15 hb) fun r1 G1 f1 s1 => ?_⟩
    rw [cut_take Y j (by omega)] at s1
    refine ⟨_, rfl, _, rfl, cb, _, _, _, rfl, rfl, ex_t (Ex.tr e15 f1) hb, atI_nat gj, _, rfl, _, _, rfl, rfl, Nat.le_trans (show 1 ≤ 1000 by decide) (by decide), fun r2 hr2 => ?_⟩
    have f2 : Ex G1 (upd G1 r2 (.tup [.int (at0 Y j - payd X Y i j)])) := Ex.nw hr2
    refine catA (K := K) (ex_t f2 s1) tup_of (by rw [List.length_map, List.length_take]; show min j Y.length + 1 ≤ 100000; omega) fun r3 G3 f3 s3 => ?_
    have f13 := Ex.tr f1 (Ex.tr f2 f3)
    refine ⟨_, rfl, _, rfl, _, _, rfl, rfl, _, rfl, np (slA (K := K) (ex_t (Ex.tr e15 f13) hb) fun r4 G4 f4 s4 => ?_)⟩
    rw [show ((j : Int) + 1) = ((j + 1 : Nat) : Int) by omega, cut_drop Y (j + 1) (by omega)] at s4
    refine catA (K := K) (ex_t f4 s3) s4 (by simp; omega) fun r5 G5 f5 s5 => ?_
    rw [set_parts Y j _ hj] at s5
    have f15 := Ex.tr f13 (Ex.tr f4 f5)
    refine ⟨by show 2 ≤ sizeLine; decide, fun m hm => ?_⟩
    have em : Ex G5 (upd G5 m (.tup [.ref p5, .ref r5])) := Ex.nw hm
    exact k m _ (Ex.tr e15 (Ex.tr f15 em)) ⟨p5, r5, tup_of, ex_t (Ex.tr f15 em) q5, ex_t em s5⟩
def spFlag : Sp := fun vs H Q _ => ∃ x y : Bool, vs = [.bl x, .bl y] ∧ Q (.bl (decide (x = y))) H
theorem ok_Lflag (T : Tx K mg) : FnOk P w K mg base CX0 1 T.Lflag.f T.Lflag.fd ["_law_told", "_law_due_here"] spFlag := by
  refine T.Lflag.F.ok sc_Lflag (fun vs H Q E h => ?_) (fun cdv A outer s H vs Q E hr h => ?_)
  · obtain ⟨_, _, rfl, _⟩ := h
    rfl
  · obtain ⟨x, y, rfl, k⟩ := h
    refine ⟨_, (pss_one (ps_ret (pe_and (pe_callB call_isi (by rfl) T.n_isinstance (by decide +kernel) (pa_cons (pv 0) (pa_cons (pe_bltn (v := .ty "bool") (by rfl) T.n_bool (by decide +kernel) rfl) pa_nil))) (pe_one (pe_cmpR op_eq (pv 0) (pv 1) (nomark _)))))), ?_⟩
    refine ⟨_, rfl, _, _, _, _, true, rfl, .ty _, .base (.bl x), kit_ty (by decide +kernel), _, rfl, iteT ?_⟩
    refine ⟨_, rfl, _, rfl, rfl, ?_⟩
    have e : decide (V.bl x = V.bl y) = decide (x = y) := by cases x <;> cases y <;> rfl
    rw [e]
    exact k
theorem ok_Lisinteger (T : Tx K mg) : FnOk P w K mg base CX0 1 T.Lisinteger.f T.Lisinteger.fd ["_law_thing"] spIsInt := by
  refine T.Lisinteger.F.ok sc_Lisinteger (fun vs H Q E h => ?_) (fun cdv A outer s H vs Q E hr h => ?_)
  · obtain ⟨a, rfl, _⟩ := h
    rfl
  · obtain ⟨a, rfl, k⟩ := h
    refine ⟨_, (pss_one (ps_ret (pe_and (pe_callB call_isi (by rfl) T.n_isinstance (by decide +kernel) (pa_cons (pv 0) (pa_cons (pe_bltn (v := .ty "int") (by rfl) T.n_int (by decide +kernel) rfl) pa_nil))) (pe_one (pe_not (pe_callB call_isi (by rfl) T.n_isinstance (by decide +kernel) (pa_cons (pv 0) (pa_cons (pe_bltn (v := .ty "bool") (by rfl) T.n_bool (by decide +kernel) rfl) pa_nil)))))))), ?_⟩
    refine ⟨_, rfl, _, _, _, _, true, rfl, .ty _, .base (.int a), kit_ty (by decide +kernel), _, rfl, iteT ?_⟩
    exact ⟨_, rfl, _, _, _, _, false, rfl, .ty _, .base (.int a), kit_ty (by decide +kernel), _, rfl, k⟩
/-! ### _law_same: the same data -/
def Flat (v u : V) : Prop := (∃ n : Int, v = .int n ∧ u = .int n) ∨ ∃ s : Str, v = .str s ∧ u = .str s
def TupR (K : PySem.W.Frag) (R : Hp → V → V → Prop) (H : Hp) (v u : V) : Prop := ∃ c d xs ys, v = .ref c ∧ u = .ref d ∧ SqT K H c xs ∧ SqT K H d ys ∧ xs.length = ys.length ∧ xs.length ≤ 1000 ∧ ∀ (i : Nat) (x y : V), xs[i]? = some x → ys[i]? = some y → R H x y
def spSame (R : Hp → V → V → Prop) : Sp := fun vs H Q _ => ∃ v u, vs = [v, u] ∧ R H v u ∧ ∀ H', Ex H H' → Q (.bl true) H'
theorem isLT {K : PySem.W.Frag} {a : String} {r : Bool} (h1 : kitB a "list" = some false) (h2 : kitB a "tuple" = some r) : PySem.W.kitAny K (.type a) [.type "list", .type "tuple"] = some r :=
  kitAny_cons (kit_ty h1) (fun _ => kitAny_cons (kit_ty h2) (fun h => by subst h; exact kitAny_nil) fun h => h) fun h => by cases h
theorem cls2 : Paired ClsV [V.ty "list", V.ty "tuple"] [Value.type "list", Value.type "tuple"] := .cons (.ty _) (.cons (.ty _) .nil)
theorem ok_same0 (T : Tx K mg) : FnOk P w K mg base CX0 2 T.Lsame.f T.Lsame.fd ["_law_told", "_law_due_here"] (spSame fun _ v u => Flat v u) := by
  refine T.Lsame.F.ok sc_Lsame (fun vs H Q E h => ?_) (fun cdv A outer s H vs Q E hr h => ?_)
  · obtain ⟨_, _, rfl, _⟩ := h
    rfl
  · obtain ⟨v, u, rfl, hR, k⟩ := h
    refine ⟨_, (pss_cons (ps_if (pt_val (pe_callB call_isiT (by rfl) T.n_isinstance (by decide +kernel) (pa_cons (pv 1) (pa_cons (pe_tup (pa_cons (pe_bltn (v := .ty "list") (by rfl) T.n_list (by decide +kernel) rfl) (pa_cons (pe_bltn (v := .ty "tuple") (by rfl) T.n_tuple (by decide +kernel) rfl) pa_nil))) pa_nil)))) (pss_cons ps_never (pss_one ps_never)) pss_nil)
      (pss_cons (ps_if (pt_cmpR op_isN (pv 1) pe_non (nomark _)) (pss_one (ps_ret (pe_cmpR op_isN (pv 0) pe_non (nomark _)))) pss_nil)
      (pss_cons (ps_if (pt_val (pe_callB call_isi (by rfl) T.n_isinstance (by decide +kernel) (pa_cons (pv 1) (pa_cons (pe_bltn (v := .ty "bool") (by rfl) T.n_bool (by decide +kernel) rfl) pa_nil)))) (pss_one (ps_ret (pe_and (pe_callB call_isi (by rfl) T.n_isinstance (by decide +kernel) (pa_cons (pv 0) (pa_cons (pe_bltn (v := .ty "bool") (by rfl) T.n_bool (by decide +kernel) rfl) pa_nil))) (pe_one (pe_cmpR op_eq (pv 0) (pv 1) (nomark _)))))) pss_nil)
      (pss_cons (ps_if (pt_val (pe_callB call_isi (by rfl) T.n_isinstance (by decide +kernel) (pa_cons (pv 1) (pa_cons (pe_bltn (v := .ty "str") (by rfl) T.n_str (by decide +kernel) rfl) pa_nil)))) (pss_one (ps_ret (pe_and (pe_callB call_isi (by rfl) T.n_isinstance (by decide +kernel) (pa_cons (pv 0) (pa_cons (pe_bltn (v := .ty "str") (by rfl) T.n_str (by decide +kernel) rfl) pa_nil))) (pe_one (pe_cmpR op_eq (pv 0) (pv 1) (nomark _)))))) pss_nil)
      (pss_one (ps_ret (pe_and (pe_call (ok_Lisinteger (P := P) (w := w) (base := base) T) (hr.mono (by decide)) (by rfl) T.g_Lisinteger T.Lisinteger.F.kp T.Lisinteger.b .nil pass0 (pa_cons (pv 0) pa_nil)) (pe_one (pe_cmpR op_eq (pv 0) (pv 1) (nomark _)))))))))), ?_⟩
    rcases hR with ⟨n, rfl, rfl⟩ | ⟨z, rfl, rfl⟩
    · refine ⟨_, rfl, by show 2 ≤ sizeLine; decide, fun t ht => ?_⟩
      have e1 : Ex H (upd H t (.tup [.ty "list", .ty "tuple"])) := Ex.nw ht
      refine ⟨_, t, _, _, _, false, rfl, upd_same, cls2, .base (.int n), isLT (by decide +kernel) (by decide +kernel), _, rfl, iteF ?_⟩
      refine ⟨_, rfl, rfl, _, rfl, iteF ?_⟩
      refine ⟨_, rfl, _, _, _, _, false, rfl, .ty _, .base (.int n), kit_ty (by decide +kernel), _, rfl, iteF ?_⟩
      refine ⟨_, rfl, _, _, _, _, false, rfl, .ty _, .base (.int n), kit_ty (by decide +kernel), _, rfl, iteF ?_⟩
      refine ⟨_, rfl, n, rfl, _, rfl, iteT ?_⟩
      refine ⟨_, rfl, _, rfl, rfl, ?_⟩
      rw [decide_eq_true rfl]
      exact k _ e1
    · refine ⟨_, rfl, by show 2 ≤ sizeLine; decide, fun t ht => ?_⟩
      have e1 : Ex H (upd H t (.tup [.ty "list", .ty "tuple"])) := Ex.nw ht
      refine ⟨_, t, _, _, _, false, rfl, upd_same, cls2, .base (.str z), isLT (by decide +kernel) (by decide +kernel), _, rfl, iteF ?_⟩
      refine ⟨_, rfl, rfl, _, rfl, iteF ?_⟩
      refine ⟨_, rfl, _, _, _, _, false, rfl, .ty _, .base (.str z), kit_ty (by decide +kernel), _, rfl, iteF ?_⟩
      refine ⟨_, rfl, _, _, _, _, true, rfl, .ty _, .base (.str z), kit_ty (by decide +kernel), _, rfl, iteT ?_⟩
      refine ⟨_, rfl, _, _, _, _, true, rfl, .ty _, .base (.str z), kit_ty (by decide +kernel), _, rfl, iteT ?_⟩
      refine ⟨_, rfl, _, rfl, rfl, ?_⟩
      rw [decide_eq_true rfl]
      exact k _ e1
end
section
variable {K : PySem.W.Frag}
/-- all of a zip's answers are True -/
theorem comp_zipT {a b : Addr} {xs ys : List V} {j l : Nat} {ta : TA} {te : TE} {vs : List Nat} {σ : L2.St} {H : Hp} {Q : VK} (hta : ∀ R' : List V → Hp → Prop, R' [.ref a, .ref b] H → ta σ H R') (hx : SqT K H a xs) (hy : SqT K H b ys) (hl : xs.length = ys.length) (hz : xs.length ≤ 1000)
    (hw : ∀ x y, wipe (((wipe σ vs).set j (some x)).set l (some y)) vs = wipe σ vs)
    (he : ∀ (i : Nat) (x y : V) H', xs[i]? = some x → ys[i]? = some y → Ex H H' → ∀ Q' : VK, (∀ H2, Ex H' H2 → Q' (.bl true) H2) → te (((wipe σ vs).set j (some x)).set l (some y)) H' Q')
    (hd : ∀ D H', H D = none → Ex H H' → H' D = some (.lst ((List.range xs.length).map fun _ => V.bl true)) → Q (.ref D) H') :
    tLc (RZ.iZipA K ta) (gTup K 2 (gCons (gName j) (gCons (gName l) gNil))) tYes te vs σ H Q := hta _ ⟨a, b, xs, ys, rfl, .inr ⟨hx, hy, fun D hD => by
  refine ⟨fun i m H' => m = xs.length - i ∧ i ≤ xs.length ∧ Cw (RV fun _ => .bl true) H D i H', ⟨xs.length, rfl, Nat.zero_le _, Cw.zero hD⟩, ?_⟩
  rintro i m H' ⟨rfl, hi, c⟩
  have qx := ex_t c.2.1 hx
  have qy := ex_t c.2.1 hy
  by_cases hlt : i < xs.length
  · have gx : xs[i]? = some xs[i] := List.getElem?_eq_getElem hlt
    have hlt2 : i < ys.length := by omega
    have gy : ys[i]? = some ys[i] := List.getElem?_eq_getElem hlt2
    refine .inr ⟨⟨xs, ys, _, _, qx, qy, gx, gy⟩, Cw (RV fun _ => .bl true) H D (i + 1), fun H2 p' => ⟨xs.length - (i + 1), by omega, rfl, hlt, p'⟩, fun v H2 yy => ?_⟩
    obtain ⟨t, x', y', rfl, hT, rfl, f1, f2⟩ := yy
    have et : Ex H' (upd H' t (.tup [x', y'])) := Ex.nw hT
    refine ⟨t, _, rfl, tup_of, rfl, _, _, rfl, _, _, rfl, rfl, hw _ _, ?_⟩
    show (if true = true then te (((wipe σ vs).set j (some x')).set l (some y')) (upd H' t (.tup [x', y'])) (fun y H4 => ∃ acc, H4 D = some (.lst acc) ∧ acc.length < sizeLine ∧ Cw (RV fun _ => .bl true) H D (i + 1) (upd H4 D (.lst (acc ++ [y])))) else Cw (RV fun _ => .bl true) H D (i + 1) (upd H' t (.tup [x', y'])))
    rw [if_pos rfl]
    refine he i x' y' _ (f1 xs qx) (f2 ys qy) (Ex.tr c.2.1 et) _ fun H3 e3 => ?_
    exact c.next (RV.stays _) (by omega) (Ex.tr et e3) rfl
  · have e : i = xs.length := by omega
    subst e
    refine .inl ⟨⟨xs, ys, qx, qy, Or.inl (Nat.le_refl _)⟩, ?_⟩
    obtain ⟨h, e1, zs, h2, m⟩ := c
    rw [RV.list m] at h2
    exact hd D H' h e1 h2⟩⟩
end
section
variable {P : Program} {w : World} {K : PySem.W.Frag} {mg : Str → Option Value} {base : Heap}
theorem same_step (T : Tx K mg) {k : Nat} {R : Hp → V → V → Prop} (G : FnOk P w K mg base CX0 k T.Lsame.f T.Lsame.fd ["_law_told", "_law_due_here"] (spSame R)) (h1 : 1 ≤ k) (mono : ∀ H H' v u, Ex H H' → R H v u → R H' v u) :
    FnOk P w K mg base CX0 (k + 1) T.Lsame.f T.Lsame.fd ["_law_told", "_law_due_here"] (spSame fun H v u => Flat v u ∨ (v = .non ∧ u = .non) ∨ TupR K R H v u) := by
  refine T.Lsame.F.ok sc_Lsame (fun vs H Q E h => ?_) (fun cdv A outer s H vs Q E hr h => ?_)
  · obtain ⟨_, _, rfl, _⟩ := h
    rfl
  · obtain ⟨v, u, rfl, hR, k'⟩ := h
    refine ⟨_, (pss_cons (ps_if (pt_val (pe_callB call_isiT (by rfl) T.n_isinstance (by decide +kernel) (pa_cons (pv 1) (pa_cons (pe_tup (pa_cons (pe_bltn (v := .ty "list") (by rfl) T.n_list (by decide +kernel) rfl) (pa_cons (pe_bltn (v := .ty "tuple") (by rfl) T.n_tuple (by decide +kernel) rfl) pa_nil))) pa_nil)))) (pss_cons (ps_if (PW.pt (pw_or (pt_cmpR op_ne (pe_callB call_isi (by rfl) T.n_isinstance (by decide +kernel) (pa_cons (pv 0) (pa_cons (pe_bltn (v := .ty "list") (by rfl) T.n_list (by decide +kernel) rfl) pa_nil))) (pe_callB call_isi (by rfl) T.n_isinstance (by decide +kernel) (pa_cons (pv 1) (pa_cons (pe_bltn (v := .ty "list") (by rfl) T.n_list (by decide +kernel) rfl) pa_nil))) (nomark _)) (pw_or (pt_not (pt_val (pe_callB call_isiT (by rfl) T.n_isinstance (by decide +kernel) (pa_cons (pv 0) (pa_cons (pe_tup (pa_cons (pe_bltn (v := .ty "list") (by rfl) T.n_list (by decide +kernel) rfl) (pa_cons (pe_bltn (v := .ty "tuple") (by rfl) T.n_tuple (by decide +kernel) rfl) pa_nil))) pa_nil))))) (pw_or1 (pt_cmpR op_ne (pe_callB call_len_seq (by rfl) T.n_len (by decide +kernel) (pa_cons (pv 0) pa_nil)) (pe_callB call_len_seq (by rfl) T.n_len (by decide +kernel) (pa_cons (pv 1) pa_nil)) (nomark _)))))) (pss_one (ps_ret pe_bl)) pss_nil)
      (pss_one (ps_ret (pe_callB (cr_all rfl) (by rfl) T.n_all (by decide +kernel) (pa_cons (pe_lc (own := [(("_law_one" : Str), 2), (("_law_other" : Str), 3)]) (g := gTup K 2 (gCons (gName 2) (gCons (gName 3) (gNil)))) (tt := tYes) (by rfl) sc_Lsame.nd (RZ.pi_zipA (by rfl) T.n_zip (pa_cons (pv 0) (pa_cons (pv 1) pa_nil))) (blkOk_by (own := [(("_law_one" : Str), 2), (("_law_other" : Str), 3)]) (N := ["_law_told", "_law_due_here", "_law_one", "_law_other"]) (sc := defScope s_Lsame) (by decide +kernel)) (fun _ _ _ _ _ => (pg_tup (by rfl) (pgs_cons (pg_name (i := 2) sc_Lsame.nd (by rfl) (Or.inl rfl)) (pgs_cons (pg_name (i := 3) sc_Lsame.nd (by rfl) (Or.inl rfl)) pgs_nil)))) (fun _ _ _ _ _ => pts_nil) (fun _ _ _ _ _ => (pe_call G hr (by rfl) T.g_Lsame T.Lsame.F.kp T.Lsame.b .nil pass0 (pa_cons (pv 2) (pa_cons (pv 3) pa_nil))))) pa_nil))))) pss_nil)
      (pss_cons (ps_if (pt_cmpR op_isN (pv 1) pe_non (nomark _)) (pss_one (ps_ret (pe_cmpR op_isN (pv 0) pe_non (nomark _)))) pss_nil)
      (pss_cons (ps_if (pt_val (pe_callB call_isi (by rfl) T.n_isinstance (by decide +kernel) (pa_cons (pv 1) (pa_cons (pe_bltn (v := .ty "bool") (by rfl) T.n_bool (by decide +kernel) rfl) pa_nil)))) (pss_one (ps_ret (pe_and (pe_callB call_isi (by rfl) T.n_isinstance (by decide +kernel) (pa_cons (pv 0) (pa_cons (pe_bltn (v := .ty "bool") (by rfl) T.n_bool (by decide +kernel) rfl) pa_nil))) (pe_one (pe_cmpR op_eq (pv 0) (pv 1) (nomark _)))))) pss_nil)
      (pss_cons (ps_if (pt_val (pe_callB call_isi (by rfl) T.n_isinstance (by decide +kernel) (pa_cons (pv 1) (pa_cons (pe_bltn (v := .ty "str") (by rfl) T.n_str (by decide +kernel) rfl) pa_nil)))) (pss_one (ps_ret (pe_and (pe_callB call_isi (by rfl) T.n_isinstance (by decide +kernel) (pa_cons (pv 0) (pa_cons (pe_bltn (v := .ty "str") (by rfl) T.n_str (by decide +kernel) rfl) pa_nil))) (pe_one (pe_cmpR op_eq (pv 0) (pv 1) (nomark _)))))) pss_nil)
      (pss_one (ps_ret (pe_and (pe_call (ok_Lisinteger (P := P) (w := w) (base := base) T) (hr.mono h1) (by rfl) T.g_Lisinteger T.Lisinteger.F.kp T.Lisinteger.b .nil pass0 (pa_cons (pv 0) pa_nil)) (pe_one (pe_cmpR op_eq (pv 0) (pv 1) (nomark _)))))))))), ?_⟩
    refine ⟨_, rfl, by show 2 ≤ sizeLine; decide, fun t ht => ?_⟩
    have e1 : Ex H (upd H t (.tup [.ty "list", .ty "tuple"])) := Ex.nw ht
    rcases hR with (⟨n, rfl, rfl⟩ | ⟨z, rfl, rfl⟩) | ⟨rfl, rfl⟩ | ⟨c, d, xs, ys, rfl, rfl, hc, hd, hl, hz, hel⟩
    · refine ⟨_, t, _, _, _, false, rfl, upd_same, cls2, .base (.int n), isLT (by decide +kernel) (by decide +kernel), _, rfl, iteF ?_⟩
      refine ⟨_, rfl, rfl, _, rfl, iteF ?_⟩
      refine ⟨_, rfl, _, _, _, _, false, rfl, .ty _, .base (.int n), kit_ty (by decide +kernel), _, rfl, iteF ?_⟩
      refine ⟨_, rfl, _, _, _, _, false, rfl, .ty _, .base (.int n), kit_ty (by decide +kernel), _, rfl, iteF ?_⟩
      refine ⟨_, rfl, n, rfl, _, rfl, iteT ?_⟩
      refine ⟨_, rfl, _, rfl, rfl, ?_⟩
      rw [decide_eq_true rfl]
      exact k' _ e1
    · refine ⟨_, t, _, _, _, false, rfl, upd_same, cls2, .base (.str z), isLT (by decide +kernel) (by decide +kernel), _, rfl, iteF ?_⟩
      refine ⟨_, rfl, rfl, _, rfl, iteF ?_⟩
      refine ⟨_, rfl, _, _, _, _, false, rfl, .ty _, .base (.str z), kit_ty (by decide +kernel), _, rfl, iteF ?_⟩
      refine ⟨_, rfl, _, _, _, _, true, rfl, .ty _, .base (.str z), kit_ty (by decide +kernel), _, rfl, iteT ?_⟩
      refine ⟨_, rfl, _, _, _, _, true, rfl, .ty _, .base (.str z), kit_ty (by decide +kernel), _, rfl, iteT ?_⟩
      refine ⟨_, rfl, _, rfl, rfl, ?_⟩
      rw [decide_eq_true rfl]
      exact k' _ e1
    · refine ⟨_, t, _, _, _, false, rfl, upd_same, cls2, .base .non, isLT (by decide +kernel) (by decide +kernel), _, rfl, iteF ?_⟩
      refine ⟨_, rfl, rfl, _, rfl, iteT ?_⟩
      exact ⟨_, rfl, rfl, k' _ e1⟩
    · refine ⟨_, t, _, _, _, true, rfl, upd_same, cls2, tyX_tup (ex_t e1 hd), isLT (by decide +kernel) (by decide +kernel), _, rfl, iteT ?_⟩
      refine ⟨_, rfl, _, _, _, _, false, rfl, .ty _, tyX_tup (ex_t e1 hc), kit_ty (by decide +kernel), _, rfl, _, _, _, _, false, rfl, .ty _, tyX_tup (ex_t e1 hd), kit_ty (by decide +kernel), rfl, _, rfl, iteF ?_⟩
      refine ⟨_, rfl, by show 2 ≤ sizeLine; decide, fun t2 ht2 => ?_⟩
      have e2 : Ex (upd H t (.tup [.ty "list", .ty "tuple"])) (upd (upd H t (.tup [.ty "list", .ty "tuple"])) t2 (.tup [.ty "list", .ty "tuple"])) := Ex.nw ht2
      have e12 := Ex.tr e1 e2
      refine ⟨_, t2, _, _, _, true, rfl, upd_same, cls2, tyX_tup (ex_t e12 hc), isLT (by decide +kernel) (by decide +kernel), _, rfl, iteF ?_⟩
      refine ⟨_, rfl, c, _, rfl, .inr (ex_t e12 hc), _, rfl, d, _, rfl, .inr (ex_t e12 hd), rfl, _, rfl, ?_⟩
      rw [eq_ints, hl, decide_eq_true rfl]
      refine iteF (nxt ?_)
      try dsimp only
      refine rt1 (cb1 (comp_zipT (K := K) (a := c) (b := d) (xs := xs) (ys := ys) (fun R' k2 => ⟨_, rfl, _, rfl, k2⟩) (ex_t e12 hc) (ex_t e12 hd) hl hz (fun x y => rfl) ?_ ?_))
      · intro i x y H' hx hy e' Q' k2
        exact ⟨_, rfl, _, rfl, x, y, rfl, mono _ _ _ _ (Ex.tr e12 e') (hel i x y hx hy), k2⟩
      · intro D H' hD e' hD'
        refine ⟨D, (List.range xs.length).map fun _ => true, rfl, SqL.of (by rw [List.map_map]; exact hD'), ?_⟩
        have : ((List.range xs.length).map fun _ => true).all id = true := by simp
        rw [this]
        exact k' _ (Ex.tr e12 e')
/-- None twice, or a side and a fraction twice -/
def Same2 (K : PySem.W.Frag) (H : Hp) (v u : V) : Prop := (v = .non ∧ u = .non) ∨ ∃ (s : Str) (x : Int × Int) (c d : Addr) (f g : V), v = .ref c ∧ u = .ref d ∧ SqT K H c [.str s, f] ∧ SqT K H d [.str s, g] ∧ Fr K H f x ∧ Fr K H g x
theorem ok_Lsame (T : Tx K mg) : FnOk P w K mg base CX0 4 T.Lsame.f T.Lsame.fd ["_law_told", "_law_due_here"] (spSame (Same2 K)) := by
  have m0 : ∀ H H' v u, Ex H H' → Flat v u → Flat v u := fun _ _ _ _ _ h => h
  have mT : ∀ {R : Hp → V → V → Prop}, (∀ H H' v u, Ex H H' → R H v u → R H' v u) → ∀ H H' v u, Ex H H' → TupR K R H v u → TupR K R H' v u := fun hm H H' v u e ⟨c, d, xs, ys, h1, h2, h3, h4, h5, h6, h7⟩ => ⟨c, d, xs, ys, h1, h2, ex_t e h3, ex_t e h4, h5, h6, fun i x y hx hy => hm H H' x y e (h7 i x y hx hy)⟩
  have G1 := same_step T (ok_same0 (P := P) (w := w) (base := base) T) (by decide) (fun H H' v u e h => m0 H H' v u e h)
  have m1 : ∀ H H' v u, Ex H H' → (Flat v u ∨ (v = .non ∧ u = .non) ∨ TupR K (fun _ v u => Flat v u) H v u) → (Flat v u ∨ (v = .non ∧ u = .non) ∨ TupR K (fun _ v u => Flat v u) H' v u) := fun H H' v u e h => by
    rcases h with h | h | h
    · exact .inl h
    · exact .inr (.inl h)
    · exact .inr (.inr (mT (fun H H' v u e h => m0 H H' v u e h) H H' v u e h))
  have G2 := same_step T G1 (by decide) m1
  refine FnOk.imp G2 ?_
  rintro vs H Q E ⟨v, u, rfl, hR, k⟩
  refine ⟨v, u, rfl, ?_, k⟩
  rcases hR with h | ⟨s, x, c, d, f, g, rfl, rfl, h1, h2, ⟨a, rfl, ha⟩, ⟨b, rfl, hb⟩⟩
  · exact .inr (.inl h)
  · refine .inr (.inr ⟨c, d, _, _, rfl, rfl, h1, h2, rfl, (by show 2 ≤ 1000; decide), fun i y z hy hz => ?_⟩)
    match i, hy, hz with
    | 0, hy, hz => cases hy; cases hz; exact .inl (.inr ⟨s, rfl, rfl⟩)
    | 1, hy, hz =>
      cases hy; cases hz
      refine .inr (.inr ⟨a, b, _, _, rfl, rfl, ha, hb, rfl, (by show 2 ≤ 1000; decide), fun i y z hy hz => ?_⟩)
      match i, hy, hz with
      | 0, hy, hz => cases hy; cases hz; exact .inl ⟨_, rfl, rfl⟩
      | 1, hy, hz => cases hy; cases hz; exact .inl ⟨_, rfl, rfl⟩
end
end K70
end
section
set_option Elab.async false
set_option linter.all false
set_option maxRecDepth 100000
set_option maxHeartbeats 4000000
set_option pp.maxSteps 400
namespace K70
open PySem PySem.Spec PyProof.Rows L2
open Evl (Ex ex_l ex_t fresh_back)
/-! ### a list beside a list of data -/
def All2 {α : Type} (R : α → V → Hp → Prop) (xs : List α) (ys : List V) (H : Hp) : Prop := ys.length = xs.length ∧ ∀ (k : Nat) (v : V) (x : α), ys[k]? = some v → xs[k]? = some x → R x v H
theorem All2.stay {α : Type} {R : α → V → Hp → Prop} (S : ∀ x v H H', ExT H H' → R x v H → R x v H') {xs : List α} {ys : List V} {H H' : Hp} (e : ExT H H') (h : All2 R xs ys H) : All2 R xs ys H' := ⟨h.1, fun k v x h1 h2 => S x v H H' e (h.2 k v x h1 h2)⟩
theorem All2.append {α : Type} {R : α → V → Hp → Prop} {xs xs' : List α} {ys ys' : List V} {H : Hp} (h : All2 R xs ys H) (h' : All2 R xs' ys' H) : All2 R (xs ++ xs') (ys ++ ys') H := by
  refine ⟨by rw [List.length_append, List.length_append, h.1, h'.1], fun k v x h1 h2 => ?_⟩
  by_cases hk : k < xs.length
  · rw [List.getElem?_append_left (by rw [h.1]; exact hk)] at h1
    rw [List.getElem?_append_left hk] at h2
    exact h.2 k v x h1 h2
  · rw [List.getElem?_append_right (by rw [h.1]; omega), h.1] at h1
    rw [List.getElem?_append_right (by omega)] at h2
    exact h'.2 _ v x h1 h2
theorem All2.nil {α : Type} {R : α → V → Hp → Prop} {H : Hp} : All2 R [] [] H := ⟨rfl, fun k v x h _ => by simp at h⟩
theorem All2.one {α : Type} {R : α → V → Hp → Prop} {x : α} {v : V} {H : Hp} (h : R x v H) : All2 R [x] [v] H := ⟨rfl, fun k w y h1 h2 => by
  cases k with
  | zero => cases h1; cases h2; exact h
  | succ k => simp at h1⟩
theorem All2.map {α β : Type} {R : β → V → Hp → Prop} {f : α → β} {xs : List α} {ys : List V} {H : Hp} (h : All2 (fun x v H => R (f x) v H) xs ys H) : All2 R (xs.map f) ys H := by
  refine ⟨by rw [List.length_map, h.1], fun k v y h1 h2 => ?_⟩
  rw [List.getElem?_map] at h2
  obtain ⟨x, hx, rfl⟩ := Option.map_eq_some_iff.mp h2
  exact h.2 k v x h1 hx
theorem All2.get {α : Type} {R : α → V → Hp → Prop} {xs : List α} {ys : List V} {H : Hp} (h : All2 R xs ys H) {k : Nat} {v : V} (hv : ys[k]? = some v) : ∃ x, xs[k]? = some x ∧ R x v H := by
  have hk := (List.getElem?_eq_some_iff.mp hv).1
  have hx : xs[k]? = some (xs[k]'(by rw [← h.1]; exact hk)) := List.getElem?_eq_getElem _
  exact ⟨_, hx, h.2 k v _ hv hx⟩
/-- a comprehension over range(n) with a test, the items new objects -/
def CwH (f : Nat → Bool) (R : Nat → V → Hp → Prop) (H1 : Hp) (D : Addr) (i : Nat) (H : Hp) : Prop := H1 D = none ∧ Ex H1 H ∧ ∃ ys, H D = some (.lst ys) ∧ All2 R ((List.range i).filter f) ys H
theorem comp_rangeH (f : Nat → Bool) (R : Nat → V → Hp → Prop) (S : Stays R) {n : Int} {j : Nat} {ta : TA} {tt : TT} {te : TE} {vs : List Nat} {σ : L2.St} {H : Hp} {Q : VK}
    (hta : ∀ R' : List V → Hp → Prop, R' [.int n] H → ta σ H R') (hl : 0 ≤ n ∧ n < 100000)
    (hw : ∀ x, wipe ((wipe σ vs).set j (some x)) vs = wipe σ vs)
    (ht : ∀ (i : Nat) H', (i : Int) < n → Ex H H' → ∀ Q' : Bool → Hp → Prop, Q' (f i) H' → tt ((wipe σ vs).set j (some (.int i))) H' Q')
    (he : ∀ (i : Nat) H', (i : Int) < n → f i = true → Ex H H' → ∀ Q' : VK, (∀ v H2, Ex H' H2 → R i v H2 → Q' v H2) → te ((wipe σ vs).set j (some (.int i))) H' Q')
    (hd : ∀ D H' ys, H D = none → Ex H H' → H' D = some (.lst ys) → All2 R ((List.range n.toNat).filter f) ys H' → Q (.ref D) H') :
    tLc (iRng1 ta) (gName j) tt te vs σ H Q := hta _ ⟨n, rfl, by omega, by omega, fun D hD => by
  refine lc_range (lo := 0) (n := n.toNat) (CwH f R H D) ⟨hD, Ex.nw hD, [], upd_same, All2.nil⟩ (fun i H' hi c => ?_) fun H' c => by
    obtain ⟨h, e1, ys, h2, m⟩ := c
    exact hd D H' ys h e1 h2 m
  show wipe ((wipe σ vs).set j (some (.int (0 + (i : Int))))) vs = wipe σ vs ∧ tt ((wipe σ vs).set j (some (.int (0 + (i : Int))))) H' fun b H3 => if b = true then te ((wipe σ vs).set j (some (.int (0 + (i : Int))))) H3 fun y H4 => ∃ acc, H4 D = some (.lst acc) ∧ acc.length < sizeLine ∧ CwH f R H D (i + 1) (upd H4 D (.lst (acc ++ [y]))) else CwH f R H D (i + 1) H3
  rw [Int.zero_add]
  refine ⟨hw _, ht i H' (by omega) c.2.1 _ ?_⟩
  obtain ⟨h, e1, ys, hy, m⟩ := c
  cases hf : f i with
  | false =>
    refine iteF ⟨h, e1, ys, hy, ?_⟩
    rw [List.range_succ, List.filter_append, List.filter_cons, if_neg (by rw [hf]; decide)]
    simpa using m
  | true =>
    refine iteT (he i H' (by omega) hf e1 _ fun v H2 e2 r => ?_)
    have hy2 := e2 _ _ hy
    have t : ExT H2 (upd H2 D (.lst (ys ++ [v]))) := ExT.put hy2
    refine ⟨ys, hy2, Evl.sz_lt ?_, h, Ex.mt (Ex.tr e1 e2) h, ys ++ [v], upd_same, ?_⟩
    · rw [m.1]
      have := List.length_filter_le f (List.range i)
      rw [List.length_range] at this
      omega
    · rw [List.range_succ, List.filter_append, List.filter_cons, if_pos hf]
      exact (All2.stay (fun x v H H' e h => S x v H H' e h) t ((All2.stay (fun x v H H' e h => S x v H H' e h) (ExT.of e2) m).append (All2.one r)))⟩
theorem cs1 {ta : TE} {σ : L2.St} {H : Hp} {Q : List V → Hp → Prop} (h : ta σ H fun x H1 => Q [x] H1) : tCons ta tNil σ H Q := h
/-- v is the tuple of a row -/
def RowR (K : PySem.W.Frag) (row : List Nat) (v : V) (H : Hp) : Prop := ∃ t, v = .ref t ∧ SqT K H t (natsV row)
theorem RowR.stays {K : PySem.W.Frag} (row : List Nat) (v : V) (H H' : Hp) (e : ExT H H') (h : RowR K row v H) : RowR K row v H' := by
  obtain ⟨t, rfl, h⟩ := h
  exact ⟨t, rfl, e.t h⟩
theorem natsV_flat (l : List Nat) : (natsV l).all flatV = true := by
  unfold natsV
  rw [List.all_map, List.all_eq_true]
  intro x _
  rfl
theorem inV_nats (l : List Nat) (i : Nat) : inV (.int (i : Int)) (natsV l) = l.contains i := by
  unfold inV natsV
  induction l with
  | nil => rfl
  | cons a l ih =>
    rw [List.map_cons, List.any_cons, ih, List.contains_cons]
    congr 1
    show ((a : Int) == (i : Int)) = (i == a)
    by_cases h : i = a
    · subst h; rw [beq_self_eq_true, beq_self_eq_true]
    · have h2 : ¬ (a : Int) = (i : Int) := by omega
      rw [beq_eq_false_iff_ne.2 h, beq_eq_false_iff_ne.2 h2]
section
variable {P : Program} {w : World} {K : PySem.W.Frag} {mg : Str → Option Value} {base : Heap}
def spLOrders (K : PySem.W.Frag) : Sp := fun vs H Q _ => ∃ n : Nat, vs = [.int n] ∧ n ≤ 6 ∧ ∀ (p : Addr) (H' : Hp) (ys : List V), H p = none → Ex H H' → H' p = some (.lst ys) → All2 (RowR K) (ordL n n) ys H' → Q (.ref p) H'
theorem ord_small {n k : Nat} (hn : n ≤ 6) (hk : k ≤ 6) : (ordL n k).length ≤ 46656 := by
  have h := ordL_len (n := n) k
  have h2 : n ^ k ≤ 6 ^ k := Nat.pow_le_pow_left hn k
  have h3 : 6 ^ k ≤ 6 ^ 6 := Nat.pow_le_pow_right (by decide) hk
  have h4 : (6 : Nat) ^ 6 = 46656 := by decide
  omega
theorem ok_Lorders (T : Tx K mg) : FnOk P w K mg base CX0 1 T.Lorders.f T.Lorders.fd ["_law_many"] (spLOrders K) := by
  refine T.Lorders.F.ok sc_Lorders (fun vs H Q E h => ?_) (fun cdv A outer s H vs Q E hr h => ?_)
  · obtain ⟨_, rfl, _⟩ := h
    rfl
  · obtain ⟨n, rfl, hn, k⟩ := h
    refine ⟨_, (pss_cons (ps_set (i := 1) sc_Lorders.nd (by rfl) (Or.inl rfl) (pe_lst (pa_cons (pe_tup pa_nil) pa_nil)))
      (pss_cons (ps_for PassesOwn.never rfl (pi_range1 (by rfl) T.n_range (pa_cons (pv 0) pa_nil)) (pg_name (i := 2) sc_Lorders.nd (by rfl) (Or.inl rfl)) (pss_cons (ps_set (i := 3) sc_Lorders.nd (by rfl) (Or.inl rfl) (pe_lst pa_nil))
      (pss_cons (ps_for PassesOwn.never rfl (pi_list (pv 1)) (pg_name (i := 4) sc_Lorders.nd (by rfl) (Or.inr rfl)) (pss_one (ps_expr (pe_bm PySem.F.plainAttrs_list PySem.F.slot_list_extend PySem.F.type_list_extend mt_extend (pv 3) (pa_cons (pe_lc (own := [(("_law_item" : Str), 5)]) (g := gName 5) (by rfl) sc_Lorders.nd (pi_range1 (by rfl) T.n_range (pa_cons (pv 0) pa_nil)) (blkOk_by (own := [(("_law_item" : Str), 5)]) (N := ["_law_many", "_law_found", "_law_turn", "_law_longer", "_law_row", "_law_item"]) (sc := defScope s_Lorders) (by decide +kernel)) (fun _ _ _ _ _ => (pg_name (i := 5) sc_Lorders.nd (by rfl) (Or.inl rfl))) (fun _ _ _ _ _ => (pts_one (pt_cmpR (r := rIn K true) op_notIn_seq (pv 5) (pv 4) (by rfl)))) (fun _ _ _ _ _ => (pe_op (r := rCatA K) op_catA (pv 4) (pe_tup (pa_cons (pv 5) pa_nil))))) pa_nil)))))
      (pss_one (ps_set (i := 1) sc_Lorders.nd (by rfl) (Or.inl rfl) (pv 3))))))
      (pss_one (ps_ret (pv 1))))), ?_⟩
    refine ⟨Nat.zero_le _, fun t0 ht0 => ⟨Nat.le_trans (show 1 ≤ 1000 by decide) (by decide), fun f0 hf0 => ?_⟩⟩
    have e1 : Ex H (upd H t0 (.tup [])) := Ex.nw ht0
    have e2 := Ex.nw (o := .lst [.ref t0]) hf0
    have hff := fresh_back e1 hf0
    refine ⟨_, rfl, n, rfl, by omega, by omega, ?_⟩
    rw [Int.toNat_natCast]
    refine for_range (lo := 0) (n := n) (fun i σ H' => ∃ (f : Addr) (ys : List V) (y2 y3 y4 : Option V), σ = [some (.int n), some (.ref f), y2, y3, y4, none] ∧ Ex H H' ∧ H f = none ∧ H' f = some (.lst ys) ∧ All2 (RowR K) (ordL n i) ys H') ?_ ?_ ?_
    · exact ⟨f0, _, none, none, none, rfl, Ex.tr e1 e2, hff, upd_same, All2.one ⟨t0, rfl, ex_t e2 tup_of⟩⟩
    · rintro i σ H' hi ⟨f, ys, y2, y3, y4, rfl, e', hf, hys, m⟩
      -- longer = []
      refine ⟨Nat.zero_le _, fun l hl => ?_⟩
      have el : Ex H' (upd H' l (.lst [])) := Ex.nw hl
      have fl : f ≠ l := ne_of_none hys hl
      have yl : ys.length ≤ 46656 := by rw [m.1]; exact ord_small hn (by omega)
      refine ⟨_, rfl, f, rfl, ⟨_, SqL.of (el _ _ hys)⟩, for_list (K := K) (a := f) (xs := ys) (fun j σ H2 => ∃ (zs : List V) (y2 y4 : Option V), σ = [some (.int n), some (.ref f), y2, some (.ref l), y4, none] ∧ Ex H' H2 ∧ H2 l = some (.lst zs) ∧ All2 (RowR K) (ordStep n ((ordL n i).take j)) zs H2) ?_ ?_ ?_ ?_⟩
      · exact ⟨[], _, _, rfl, el, upd_same, All2.nil⟩
      · rintro j σ H2 _ ⟨_, _, _, _, e, _⟩
        exact SqL.of (e _ _ hys)
      · rintro j v σ H2 hj ⟨zs, y2, y4, rfl, e2', hzs, mz⟩
        obtain ⟨row, hrow, t, rfl, ht⟩ := m.get hj
        have ht2 := ex_t e2' ht
        have stepE : ordStep n ((ordL n i).take (j + 1)) = ordStep n ((ordL n i).take j) ++ (((List.range n).filter fun i => !row.contains i).map fun i => row ++ [i]) := by
          unfold ordStep
          rw [List.take_add_one, hrow, List.flatMap_append]
          simp
        have rowlen : row.length ≤ 6 := by
          have := (ordL_perm (List.mem_of_getElem? hrow)).1
          omega
        have hlz : zs.length ≤ 46656 := by
          rw [mz.1]
          have h1 : (ordStep n ((ordL n i).take j)).length ≤ (ordStep n (ordL n i)).length := by
            unfold ordStep
            conv => rhs; rw [← List.take_append_drop j (ordL n i), List.flatMap_append, List.length_append]
            omega
          exact Nat.le_trans h1 (ord_small (k := i + 1) hn (by omega))
        refine ⟨_, rfl, .inl ⟨rfl, _, SqL.of hzs⟩, ?_⟩
        refine cs1 (comp_rangeH (fun i => !row.contains i) (fun i v H => RowR K (row ++ [i]) v H) (fun i v H H' e h => RowR.stays _ v H H' e h) (n := (n : Int)) (fun R' k' => ⟨_, rfl, k'⟩) (by omega) (fun x => rfl) ?_ ?_ ?_)
        · intro q H3 hq e3 Q' k'
          refine ⟨_, rfl, _, rfl, t, _, rfl, .inr (ex_t e3 ht2), rfl, natsV_flat _, _, rfl, ?_⟩
          show Q' (!inV (.int (q : Int)) (natsV row)) H3
          rw [inV_nats]
          exact k'
        · intro q H3 hq hfq e3 Q' k'
          refine ⟨_, rfl, _, rfl, Nat.le_trans (show 1 ≤ 1000 by decide) (by decide), fun c hc => ?_⟩
          have ec : Ex H3 (upd H3 c (.tup [.int (q : Int)])) := Ex.nw hc
          refine catA (K := K) (ex_t ec (ex_t e3 ht2)) tup_of (by rw [natsV_len]; show row.length + 1 ≤ 100000; omega) fun p H4 e4 h4 => ?_
          rw [natsV_push] at h4
          exact k' _ H4 (Ex.tr ec e4) ⟨p, rfl, h4⟩
        · intro D H3 ws hD e3 hws mw
          rw [Int.toNat_natCast] at mw
          have hzs3 := e3 _ _ hzs
          have wl : ws.length ≤ 6 := by
            rw [mw.1]
            have := List.length_filter_le (fun i => !row.contains i) (List.range n)
            rw [List.length_range] at this
            omega
          refine ⟨l, D, _, _, rfl, rfl, hzs3, hws, Nat.le_trans (show zs.length + ws.length ≤ 100000 by omega) (by decide), ?_⟩
          have t3 : ExT H3 (upd H3 l (.lst (zs ++ ws))) := ExT.put hzs3
          refine ⟨zs ++ ws, _, _, rfl, Ex.mt (Ex.tr e2' e3) hl, upd_same, ?_⟩
          rw [stepE]
          exact ((mz.stay RowR.stays (ExT.of e3)).append mw.map).stay RowR.stays t3
      · rintro σ H2 ⟨zs, y2, y4, rfl, e2', hzs, mz⟩
        rw [List.take_of_length_le (by rw [m.1]; exact Nat.le_refl _)] at mz
        exact ⟨_, rfl, l, zs, _, _, _, rfl, Ex.tr e' e2', fresh_back e' hl, hzs, mz⟩
    · rintro σ H' ⟨f, ys, y2, y3, y4, rfl, e', hf, hys, m⟩
      exact ⟨_, rfl, k f H' ys hf e' hys m⟩
/-! ### the queues' way -/
theorem nats_eqv (l : List Nat) : PyData.eqv (.list (l.map fun (i : Nat) => PyData.int (i : Int))) (.list []) = l.isEmpty := by
  cases l <;> simp [PyData.eqv, PyData.eqvAll]
theorem dpAll_nats {K : PySem.W.Frag} {H : Hp} : ∀ l : List Nat, DpAll K H (natsV l) (l.map fun (i : Nat) => PyData.int (i : Int))
  | [] => .nil
  | a :: l => .cons (.int _) (dpAll_nats l)
theorem nats_shaped (l : List Nat) : SeqAt.shaped (.list (l.map fun (i : Nat) => PyData.int (i : Int))) = true := by
  have h1 : PyData.canLayAll0 (l.map fun (i : Nat) => PyData.int (i : Int)) = true := by
    induction l with
    | nil => rfl
    | cons a l ih => rw [List.map_cons, PyData.canLayAll0, ih]; rfl
  have h2 : PyData.depthAll (l.map fun (i : Nat) => PyData.int (i : Int)) = 0 := by
    clear h1
    induction l with
    | nil => rfl
    | cons a l ih => rw [List.map_cons, PyData.depthAll, ih]; rfl
  unfold SeqAt.shaped
  rw [PyData.canLay0, h1, PyData.depth, h2]; rfl
theorem map_set_out {A : List Int} {l : List Nat} {x : Nat} {z : Int} (hx : x < A.length) (h : x ∉ l) : l.map (at0 (A.set x z)) = l.map (at0 A) := by
  apply List.map_congr_left
  intro y hy
  rw [at0_set hx, if_neg (fun e => h (by rw [← e]; exact hy))]
def spQWay (K : PySem.W.Frag) : Sp := fun vs H Q _ => ∃ (c po pt : Addr) (a b : List Int) (o t : List Nat), vs = [.ref c, .ref po, .ref pt] ∧ SumsAt K H c a b ∧ SqT K H po (natsV o) ∧ SqT K H pt (natsV t) ∧ o.Perm (List.range a.length) ∧ t.Perm (List.range b.length) ∧
  Pos a ∧ Pos b ∧ a.sum = b.sum ∧ a.length + b.length ≤ 100 ∧ ∀ (d : Addr) (H' : Hp) (ws : List V), Ex H H' → SqT K H' d ws → ws.length + J (o.map (at0 a)) (t.map (at0 b)) = a.length + b.length → Q (.ref d) H'
theorem ok_Lqueueway (T : Tx K mg) : FnOk P w K mg base CX0 2 T.Lqueueway.f T.Lqueueway.fd ["_law_sums_here", "_law_owers", "_law_takers"] (spQWay K) := by
  refine T.Lqueueway.F.ok sc_Lqueueway (fun vs H Q E h => ?_) (fun cdv A outer s H vs Q E hr h => ?_)
  · obtain ⟨_, _, _, _, _, _, _, rfl, _⟩ := h
    rfl
  · obtain ⟨c, po, pt, a, b, o, t, rfl, hc, ho, ht, pσ, pτ, pa, pb, es, hab, k⟩ := h
    refine ⟨_, (pss_cons (ps_set (i := 3) sc_Lqueueway.nd (by rfl) (Or.inl rfl) (pv 0))
      (pss_cons (ps_set (i := 4) sc_Lqueueway.nd (by rfl) (Or.inl rfl) (pe_callTy call_list_of (by rfl) T.n_list (by decide +kernel) (pa_cons (pv 1) pa_nil)))
      (pss_cons (ps_set (i := 5) sc_Lqueueway.nd (by rfl) (Or.inl rfl) (pe_callTy call_list_of (by rfl) T.n_list (by decide +kernel) (pa_cons (pv 2) pa_nil)))
      (pss_cons (ps_set (i := 6) sc_Lqueueway.nd (by rfl) (Or.inl rfl) (pe_lst pa_nil))
      (pss_cons (ps_for PassesOwn.never rfl (pi_range1 (by rfl) T.n_range (pa_cons (pe_op op_add (pe_callB call_len_seq (by rfl) T.n_len (by decide +kernel) (pa_cons (pv 1) pa_nil)) (pe_callB call_len_seq (by rfl) T.n_len (by decide +kernel) (pa_cons (pv 2) pa_nil))) pa_nil)) (pg_name (i := 7) sc_Lqueueway.nd (by rfl) (Or.inl rfl)) (pss_one (ps_if (pt_cmpR (op_neD hr.units) (pv 4) (pe_lst pa_nil) (nomark _)) (pss_cons (ps_expr (pe_bm PySem.F.plainAttrs_list PySem.F.slot_list_append PySem.F.type_list_append mt_append (pv 6) (pa_cons (pe_tup (pa_cons (pe_ix ix_list (pv 4) pe_int (fun _ _ => rfl)) (pa_cons (pe_ix ix_list (pv 5) pe_int (fun _ _ => rfl)) pa_nil))) pa_nil)))
      (pss_cons (ps_set (i := 3) sc_Lqueueway.nd (by rfl) (Or.inl rfl) (pe_call (ok_Lpay (P := P) (w := w) (base := base) T) (hr.mono (by decide)) (by rfl) T.g_Lpay T.Lpay.F.kp T.Lpay.b .nil pass0 (pa_cons (pv 3) (pa_cons (pe_ix ix_list (pv 6) (pe_un un_neg pe_int) (fun _ _ => rfl)) pa_nil))))
      (pss_cons (ps_if (pt_cmpR op_eq (pe_ix ix_tup (pe_ix ix_tup (pv 3) pe_int (fun _ _ => rfl)) (pe_ix ix_list (pv 4) pe_int (fun _ _ => rfl)) (fun _ _ => rfl)) pe_int (nomark _)) (pss_one (ps_expr (pe_bm PySem.F.plainAttrs_list PySem.F.slot_list_pop PySem.F.type_list_pop mt_popAt (pv 4) (pa_cons pe_int pa_nil)))) pss_nil)
      (pss_one (ps_if (pt_cmpR op_eq (pe_ix ix_tup (pe_ix ix_tup (pv 3) pe_int (fun _ _ => rfl)) (pe_ix ix_list (pv 5) pe_int (fun _ _ => rfl)) (fun _ _ => rfl)) pe_int (nomark _)) (pss_one (ps_expr (pe_bm PySem.F.plainAttrs_list PySem.F.slot_list_pop PySem.F.type_list_pop mt_popAt (pv 5) (pa_cons pe_int pa_nil)))) pss_nil))))) pss_nil)))
      (pss_one (ps_ret (pe_callTy call_tuple_of (by rfl) T.n_tuple (by decide +kernel) (pa_cons (pv 6) pa_nil))))))))), ?_⟩
    have ol : o.length = a.length := by rw [pσ.length_eq, List.length_range]
    have tl : t.length = b.length := by rw [pτ.length_eq, List.length_range]
    refine ⟨_, rfl, ?_⟩
    refine ⟨_, rfl, po, _, rfl, .inr ho, fun lo hlo => ?_⟩
    have e1 : Ex H (upd H lo (.lst (natsV o))) := Ex.nw hlo
    refine ⟨_, rfl, pt, _, rfl, .inr (ex_t e1 ht), fun lt hlt => ?_⟩
    have e2 := Ex.nw (o := .lst (natsV t)) hlt
    have nlt : lo ≠ lt := ne_of_none (upd_same (H := H) (a := lo) (o := .lst (natsV o))) hlt
    refine ⟨Nat.zero_le _, fun lw hlw => ?_⟩
    have e3 := Ex.nw (o := .lst []) hlw
    have hlo2 := e2 _ _ (upd_same (H := H) (a := lo) (o := .lst (natsV o)))
    have hlt2 := upd_same (H := upd H lo (.lst (natsV o))) (a := lt) (o := .lst (natsV t))
    have nlw : lo ≠ lw := ne_of_none hlo2 hlw
    have ntw : lt ≠ lw := ne_of_none hlt2 hlw
    have e13 := Ex.tr e1 (Ex.tr e2 e3)
    have flt : H lt = Option.none := fresh_back e1 hlt
    have flw : H lw = Option.none := fresh_back (Ex.tr e1 e2) hlw
    refine ⟨_, rfl, po, _, rfl, .inr (ex_t e13 ho), _, rfl, pt, _, rfl, .inr (ex_t e13 ht), _, _, rfl, rfl, _, rfl, ?_⟩
    rw [natsV_len, natsV_len]
    refine ⟨by omega, by omega, ?_⟩
    rw [show ((o.length : Int) + (t.length : Int)).toNat = o.length + t.length by omega]
    refine for_range (lo := 0) (n := o.length + t.length) (fun i σ H' => ∃ (cs : Addr) (A B : List Int) (o' t' : List Nat) (ws : List V) (y : Option V), σ = [some (.ref c), some (.ref po), some (.ref pt), some (.ref cs), some (.ref lo), some (.ref lt), some (.ref lw), y] ∧ Ex H H' ∧ SumsAt K H' cs A B ∧
      H' lo = some (.lst (natsV o')) ∧ H' lt = some (.lst (natsV t')) ∧ H' lw = some (.lst ws) ∧ A.length = a.length ∧ B.length = b.length ∧ (∀ x ∈ o', x < A.length) ∧ (∀ y ∈ t', y < B.length) ∧ o'.Nodup ∧ t'.Nodup ∧ Pos (o'.map (at0 A)) ∧ Pos (t'.map (at0 B)) ∧ (o'.map (at0 A)).sum = (t'.map (at0 B)).sum ∧
      ws.length + o'.length + t'.length + J (o.map (at0 a)) (t.map (at0 b)) = J (o'.map (at0 A)) (t'.map (at0 B)) + a.length + b.length ∧ o'.length + t'.length + i ≤ o.length + t.length ∧ ws.length ≤ i) ?_ ?_ ?_
    · have pA := perm_vals (a := a) pσ
      have pB := perm_vals (a := b) pτ
      refine ⟨c, a, b, o, t, [], none, rfl, e13, hc.monoT (ExT.of e13), by rw [upd_ne nlw, upd_ne nlt, upd_same], by rw [upd_ne ntw, upd_same], upd_same, rfl, rfl, fun x hx => by simpa using pσ.mem_iff.mp hx, fun x hx => by simpa using pτ.mem_iff.mp hx, pσ.nodup_iff.mpr List.nodup_range, pτ.nodup_iff.mpr List.nodup_range,
        pa.perm pA.symm, pb.perm pB.symm, by rw [perm_sum pA, perm_sum pB, es], by rw [ol, tl]; simp; omega, by omega, Nat.le_refl _⟩
    · rintro i σ H' hi ⟨cs, A, B, o', t', ws, y, rfl, e', hcs, hlo', hlt', hlw', Al, Bl, ao, bt, no, nt, po', pt', ss, hJ, hm, hw⟩
      refine ⟨_, rfl, Nat.zero_le _, fun le hle => ?_⟩
      have ee : Ex H' (upd H' le (.lst [])) := Ex.nw hle
      refine ⟨_, _, .lst (SqL.of (ee _ _ hlo')) (dpAll_nats o'), .lst (SqL.of upd_same) .nil, nats_shaped o', by rfl, _, rfl, ?_⟩
      rw [nats_eqv]
      cases o' with
      | nil =>
        refine iteF ?_
        have t0 : t' = [] := by
          cases t' with
          | nil => rfl
          | cons y ys =>
            have := pt'.sum_pos (by simp)
            simp at ss this; omega
        subst t0
        exact ⟨cs, A, B, [], [], ws, _, rfl, Ex.tr e' ee, hcs.monoT (ExT.of ee), ee _ _ hlo', ee _ _ hlt', ee _ _ hlw', Al, Bl, ao, bt, no, nt, po', pt', ss, hJ, by simp; omega, by omega⟩
      | cons x0 o' =>
        refine iteT ?_
        cases t' with
        | nil =>
          exfalso
          have := po'.sum_pos (by simp)
          simp at ss this; omega
        | cons y0 t' =>
          have hx0 := ao x0 List.mem_cons_self
          have hy0 := bt y0 List.mem_cons_self
          have nx0 : x0 ∉ o' := (List.nodup_cons.mp no).1
          have ny0 : y0 ∉ t' := (List.nodup_cons.mp nt).1
          have vx : 0 < at0 A x0 := po'.head
          have vy : 0 < at0 B y0 := pt'.head
          have hlo1 := ee _ _ hlo'
          have hlt1 := ee _ _ hlt'
          have hlw1 := ee _ _ hlw'
          have e01 := Ex.tr e' ee
          have g0 : (natsV (x0 :: o'))[0]? = some (.int (x0 : Int)) := rfl
          have g1 : (natsV (y0 :: t'))[0]? = some (.int (y0 : Int)) := rfl
          -- way.append((one[0], other[0]))
          refine ⟨_, rfl, .inl ⟨rfl, _, SqL.of hlw1⟩, _, rfl, lo, _, 0, _, rfl, rfl, SqL.of hlo1, atI_nat (j := 0) g0, _, rfl, lt, _, 0, _, rfl, rfl, SqL.of hlt1, atI_nat (j := 0) g1, by show 2 ≤ sizeLine; decide, fun d hd => ?_⟩
          have ed : Ex (upd H' le (.lst [])) (upd (upd H' le (.lst [])) d (.tup [.int x0, .int y0])) := Ex.nw hd
          have hlw2 := ed _ _ hlw1
          refine ⟨lw, _, _, rfl, rfl, hlw2, Evl.sz_lt (by omega), ?_⟩
          generalize hH2 : upd (upd (upd H' le (.lst [])) d (.tup [.int x0, .int y0])) lw (.lst (ws ++ [.ref d])) = H2
          have t2 : ExT (upd (upd H' le (.lst [])) d (.tup [.int x0, .int y0])) H2 := by rw [← hH2]; exact ExT.put hlw2
          have ex2 : Ex H H2 := by rw [← hH2]; exact Ex.mt (Ex.tr e01 ed) flw
          have hd2 : SqT K H2 d [.int x0, .int y0] := t2.t tup_of
          have hlo2 : H2 lo = some (.lst (natsV (x0 :: o'))) := by rw [← hH2, upd_ne nlw]; exact ed _ _ hlo1
          have hlt2 : H2 lt = some (.lst (natsV (y0 :: t'))) := by rw [← hH2, upd_ne ntw]; exact ed _ _ hlt1
          have hlw3 : H2 lw = some (.lst (ws ++ [.ref d])) := by rw [← hH2, upd_same]
          have hcs2 : SumsAt K H2 cs A B := hcs.monoT (ExT.tr (ExT.of (Ex.tr ee ed)) t2)
          -- state = pay(state, way[-1])
          refine ⟨_, rfl, _, rfl, 1, rfl, lw, _, _, _, rfl, rfl, SqL.of hlw3, atI_last _ _, cs, d, A, B, x0, y0, rfl, hcs2, hd2, hx0, hy0, by omega, by omega, fun cs' H3 e3 hcs3 => ?_⟩
          have e03 := Ex.tr ex2 e3
          have hlo3 := e3 _ _ hlo2
          have hlt3 := e3 _ _ hlt2
          have hlw4 := e3 _ _ hlw3
          have hpay : payd A B x0 y0 = if at0 B y0 < at0 A x0 then at0 B y0 else at0 A x0 := rfl
          generalize payd A B x0 y0 = m at *
          generalize hA' : A.set x0 (at0 A x0 - m) = A' at *
          generalize hB' : B.set y0 (at0 B y0 - m) = B' at *
          have Al' : A'.length = a.length := by rw [← hA', List.length_set, Al]
          have Bl' : B'.length = b.length := by rw [← hB', List.length_set, Bl]
          have vA : at0 A' x0 = at0 A x0 - m := by rw [← hA', at0_set hx0, if_pos rfl]
          have vB : at0 B' y0 = at0 B y0 - m := by rw [← hB', at0_set hy0, if_pos rfl]
          have mA : o'.map (at0 A') = o'.map (at0 A) := by rw [← hA']; exact map_set_out hx0 nx0
          have mB : t'.map (at0 B') = t'.map (at0 B) := by rw [← hB']; exact map_set_out hy0 ny0
          obtain ⟨ca, cb, k1, k2, k3⟩ := id hcs3
          have gA : (A'.map V.int)[x0]? = some (.int (at0 A' x0)) := at0_getV (by omega)
          have gB : (B'.map V.int)[y0]? = some (.int (at0 B' y0)) := at0_getV (by omega)
          simp only [List.map_cons, List.sum_cons] at ss hJ po' pt'
          have pto := po'.tail
          have ptt := pt'.tail
          -- if state[0][one[0]] == 0
          refine ⟨_, rfl, cs', _, 0, _, rfl, rfl, k1, rfl, _, rfl, lo, _, 0, _, rfl, rfl, SqL.of hlo3, atI_nat (j := 0) g0, ca, _, _, _, rfl, rfl, k2, atI_nat gA, rfl, _, rfl, ?_⟩
          rw [eq_ints]
          refine ite2 (fun hz1 => ?_) (fun hz1 => ?_)
          · have z1 : at0 A' x0 = 0 := of_decide_eq_true hz1
            refine ⟨_, rfl, .inl ⟨rfl, _, SqL.of hlo3⟩, lo, _, 0, 0, _, rfl, rfl, hlo3, by decide, by decide, (ixN_seq (Evl.ixN_nat (j := 0) (by rw [natsV_len]; simp))).1, g0, ?_⟩
            have eH4 : (natsV (x0 :: o')).eraseIdx 0 = natsV o' := rfl
            rw [eH4]
            have n1 : ∀ {p : Addr} {oo : HO}, p ≠ lo → H3 p = some oo → (upd H3 lo (.lst (natsV o'))) p = some oo := fun {p oo} np h => by rw [upd_ne np]; exact h
            have t4 : ExT H3 (upd H3 lo (.lst (natsV o'))) := ExT.put hlo3
            have hlt4 := n1 nlt.symm hlt3
            have k1' := t4.t k1
            have k3' := t4.t k3
            refine ⟨_, rfl, cs', _, 1, _, rfl, rfl, k1', rfl, _, rfl, lt, _, 0, _, rfl, rfl, SqL.of hlt4, atI_nat (j := 0) g1, cb, _, _, _, rfl, rfl, k3', atI_nat gB, rfl, _, rfl, ?_⟩
            rw [eq_ints]
            refine ite2 (fun hz2 => ?_) (fun hz2 => ?_)
            · have z2 : at0 B' y0 = 0 := of_decide_eq_true hz2
              have exy : at0 A x0 = at0 B y0 := by omega
              refine ⟨_, rfl, .inl ⟨rfl, _, SqL.of hlt4⟩, lt, _, 0, 0, _, rfl, rfl, hlt4, by decide, by decide, (ixN_seq (Evl.ixN_nat (j := 0) (by rw [natsV_len]; simp))).1, g1, ?_⟩
              have t5 : ExT (upd H3 lo (.lst (natsV o'))) (upd (upd H3 lo (.lst (natsV o'))) lt (.lst (natsV t'))) := ExT.put hlt4
              refine ⟨cs', A', B', o', t', ws ++ [.ref d], _, rfl, Ex.mt (Ex.mt e03 hlo) flt, hcs3.monoT (ExT.tr t4 t5), by rw [upd_ne nlt, upd_same], upd_same, by rw [upd_ne ntw.symm, upd_ne nlw.symm]; exact hlw4, Al', Bl', fun x hx => by rw [Al', ← Al]; exact ao x (List.mem_cons_of_mem _ hx), fun x hx => by rw [Bl', ← Bl]; exact bt x (List.mem_cons_of_mem _ hx),
                (List.nodup_cons.mp no).2, (List.nodup_cons.mp nt).2, by rw [mA]; exact pto, by rw [mB]; exact ptt, by rw [mA, mB]; omega, ?_, by simp at hm; omega, by simp; omega⟩
              rw [mA, mB]
              rw [exy, J_eq vy] at hJ
              simp at hJ ⊢
              omega
            · have z2 : at0 B' y0 ≠ 0 := fun q => hz2 (decide_eq_true q)
              have hlt5 : at0 A x0 < at0 B y0 := by split at hpay <;> omega
              have hm5 : m = at0 A x0 := by omega
              refine ⟨cs', A', B', o', y0 :: t', ws ++ [.ref d], _, rfl, Ex.mt e03 hlo, hcs3.monoT t4, upd_same, hlt4, n1 nlw.symm hlw4, Al', Bl', fun x hx => by rw [Al', ← Al]; exact ao x (List.mem_cons_of_mem _ hx), fun x hx => by rw [Bl', ← Bl]; exact bt x hx, (List.nodup_cons.mp no).2, nt, by rw [mA]; exact pto, ?_, ?_, ?_, by simp at hm ⊢; omega, by simp; omega⟩
              · rw [List.map_cons, mB, vB]
                intro z hz
                rcases List.mem_cons.mp hz with rfl | hz
                · omega
                · exact ptt z hz
              · rw [List.map_cons, mA, mB, vB, List.sum_cons]; omega
              · rw [List.map_cons, mA, mB, vB, hm5]
                rw [J_lt vx hlt5 pto] at hJ
                simp at hJ ⊢
                omega
          · have z1 : at0 A' x0 ≠ 0 := fun q => hz1 (decide_eq_true q)
            have hgt5 : at0 B y0 < at0 A x0 := by split at hpay <;> omega
            have hm5 : m = at0 B y0 := by rw [if_pos hgt5] at hpay; exact hpay
            refine ⟨_, rfl, cs', _, 1, _, rfl, rfl, k1, rfl, _, rfl, lt, _, 0, _, rfl, rfl, SqL.of hlt3, atI_nat (j := 0) g1, cb, _, _, _, rfl, rfl, k3, atI_nat gB, rfl, _, rfl, ?_⟩
            rw [eq_ints]
            have z2 : at0 B' y0 = 0 := by omega
            rw [decide_eq_true z2]
            refine iteT ?_
            refine ⟨_, rfl, .inl ⟨rfl, _, SqL.of hlt3⟩, lt, _, 0, 0, _, rfl, rfl, hlt3, by decide, by decide, (ixN_seq (Evl.ixN_nat (j := 0) (by rw [natsV_len]; simp))).1, g1, ?_⟩
            have t4 : ExT H3 (upd H3 lt (.lst (natsV t'))) := ExT.put hlt3
            refine ⟨cs', A', B', x0 :: o', t', ws ++ [.ref d], _, rfl, Ex.mt e03 flt, hcs3.monoT t4, by rw [upd_ne nlt]; exact hlo3, upd_same, by rw [upd_ne ntw.symm]; exact hlw4, Al', Bl', fun x hx => by rw [Al', ← Al]; exact ao x hx, fun x hx => by rw [Bl', ← Bl]; exact bt x (List.mem_cons_of_mem _ hx), no, (List.nodup_cons.mp nt).2, ?_, by rw [mB]; exact ptt, ?_, ?_, by simp at hm ⊢; omega, by simp; omega⟩
            · rw [List.map_cons, mA, vA]
              intro z hz
              rcases List.mem_cons.mp hz with rfl | hz
              · omega
              · exact pto z hz
            · rw [List.map_cons, mA, mB, vA, List.sum_cons]; omega
            · rw [List.map_cons, mA, mB, vA, hm5]
              rw [J_gt vy hgt5] at hJ
              simp at hJ ⊢
              omega
    · rintro σ H' ⟨cs, A, B, o', t', ws, y, rfl, e', hcs, hlo', hlt', hlw', Al, Bl, ao, bt, no, nt, po', pt', ss, hJ, hm, hw⟩
      have o0 : o' = [] := List.length_eq_zero_iff.mp (by omega)
      have t0 : t' = [] := List.length_eq_zero_iff.mp (by omega)
      subst o0; subst t0
      refine ⟨_, rfl, lw, _, rfl, .inl ⟨SqL.of hlw', fun d hd => ?_⟩⟩
      refine k d _ ws (Ex.tr e' (Ex.nw hd)) tup_of ?_
      simp [J_nil] at hJ
      omega
end
end K70
end
section
set_option Elab.async false
set_option linter.all false
set_option maxRecDepth 100000
set_option maxHeartbeats 4000000
set_option pp.maxSteps 400
namespace K70
open PySem PySem.Spec PyProof.Rows L2
open Evl (Ex ex_l ex_t fresh_back)
/-! ### the law's unit -/
theorem ones_iff {n : Int} {ns : List Int} : PySem.W.minOf n ns = PySem.W.maxOf n ns ↔ ∀ x ∈ n :: ns, x = n := by
  obtain ⟨h1, h2, h3⟩ := minOf_le (n := n) (ns := ns)
  obtain ⟨g1, g2, g3⟩ := maxOf_ge (n := n) (ns := ns)
  constructor
  · intro e x hx
    rcases List.mem_cons.mp hx with rfl | hx
    · rfl
    · have := h2 x hx; have := g2 x hx; omega
  · intro h
    rw [h _ h3, h _ g3]
theorem rests_iff {R : List Int} {m M z : Int} (hz : z ∈ R) (h1 : m ∈ R) (h2 : ∀ y ∈ R, m ≤ y) (g1 : M ∈ R) (g2 : ∀ y ∈ R, y ≤ M) : m = M ↔ ∀ y ∈ R, y = z := by
  constructor
  · intro e y hy
    have := h2 y hy; have := g2 y hy; have := h2 z hz; have := g2 z hz; omega
  · intro h
    rw [h _ h1, h _ g1]
theorem fits_iff {a b : List Int} : fitsU a b = true ↔ (∀ x ∈ a, x = at0 a 0) ∧ ∀ y ∈ b, y % at0 a 0 = at0 b 0 % at0 a 0 := by
  unfold fitsU
  rw [Bool.and_eq_true, List.all_eq_true, List.all_eq_true]
  simp only [beq_iff_eq]
theorem at0_mem {b : List Int} (h : b ≠ []) : at0 b 0 ∈ b := List.mem_of_getElem? (at0_of (List.length_pos_iff.mpr h))
theorem fits_unit {a b : List Int} (sa : Sums a) (sb : Sums b) : fitsU a b = true ↔ Unit a b := by
  rw [fits_iff]
  constructor
  · intro ⟨h1, h2⟩
    exact ⟨at0 a 0, at0 b 0 % at0 a 0, sa.pos _ (at0_mem sa.ne), h1, h2⟩
  · rintro ⟨u, r, u0, h1, h2⟩
    have e := h1 _ (at0_mem sa.ne)
    rw [e]
    exact ⟨h1, fun y hy => by rw [h2 y hy, h2 _ (at0_mem sb.ne)]⟩
theorem unit_iff {a b : List Int} (sa : Sums a) (sb : Sums b) : unitOf a b ≠ none ↔ (Unit a b ∨ Unit b a) := by
  rw [← fits_unit sa sb, ← fits_unit sb sa]
  unfold unitOf
  cases fitsU a b <;> cases fitsU b a <;> simp
theorem map_mod {B : List Int} {u : Int} : ((List.range B.length).map fun i => V.int (at0 B i % u)) = (B.map (· % u)).map V.int := by
  conv => rhs; rw [← map_range (a := B)]
  rw [List.map_map, List.map_map]
  rfl
section
variable {P : Program} {w : World} {K : PySem.W.Frag} {mg : Str → Option Value} {base : Heap}
/-- None, or a pair of a side and an int -/
def UnI (K : PySem.W.Frag) (H : Hp) (v : V) : Option (Str × Int) → Prop
  | none => v = .non
  | some (s, n) => ∃ c, v = .ref c ∧ SqT K H c [.str s, .int n]
def spQUnit (K : PySem.W.Frag) : Sp := fun vs H Q _ => ∃ (c : Addr) (a b : List Int), vs = [.ref c] ∧ SumsAt K H c a b ∧ Sums a ∧ Sums b ∧ ∀ v H', Ex H H' → UnI K H' v (unitOf a b) → Q v H'
theorem ok_Lqueueunit (T : Tx K mg) : FnOk P w K mg base CX0 1 T.Lqueueunit.f T.Lqueueunit.fd ["_law_sums_here"] (spQUnit K) := by
  refine T.Lqueueunit.F.ok sc_Lqueueunit (fun vs H Q E h => ?_) (fun cdv A outer s H vs Q E hr h => ?_)
  · obtain ⟨_, _, _, rfl, _⟩ := h
    rfl
  · obtain ⟨c, a, b, rfl, ⟨ca, cb, hc, ha, hb⟩, sa, sb, k⟩ := h
    refine ⟨_, (pss_cons (ps_asg (pv 0) (pg_tup (by rfl) (pgs_cons (pg_name (i := 1) sc_Lqueueunit.nd (by rfl) (Or.inl rfl)) (pgs_cons (pg_name (i := 2) sc_Lqueueunit.nd (by rfl) (Or.inl rfl)) pgs_nil))))
      (pss_cons (ps_for PassesOwn.never rfl (pi_tup (pe_tup (pa_cons (pe_tup (pa_cons pe_str (pa_cons (pv 1) (pa_cons (pv 2) pa_nil)))) (pa_cons (pe_tup (pa_cons pe_str (pa_cons (pv 2) (pa_cons (pv 1) pa_nil)))) pa_nil)))) (pg_tup (by rfl) (pgs_cons (pg_name (i := 3) sc_Lqueueunit.nd (by rfl) (Or.inl rfl)) (pgs_cons (pg_name (i := 4) sc_Lqueueunit.nd (by rfl) (Or.inr rfl)) (pgs_cons (pg_name (i := 5) sc_Lqueueunit.nd (by rfl) (Or.inl rfl)) pgs_nil)))) (pss_cons (ps_setLc (i := 6) (own := [(("_law_item" : Str), 7)]) (g := gName 7) (tt := tYes) (by rfl) sc_Lqueueunit.nd (by rfl) (by rfl) (sw_true (by rfl) (by rfl) (by rfl) (by decide +kernel)) (pi_tup (pv 5)) (blkOk_by (own := [(("_law_item" : Str), 7)]) (N := ["_law_sums_here", "_law_owed", "_law_due_here", "_law_side_here", "_law_ones", "_law_others", "_law_rests", "_law_item"]) (sc := defScope s_Lqueueunit) (by decide +kernel)) (fun _ _ _ _ _ => (pg_name (i := 7) sc_Lqueueunit.nd (by rfl) (Or.inl rfl))) (fun _ _ _ _ _ => pts_nil) (fun _ _ _ _ _ => (pe_op op_mod (pe_callTy call_int1 (by rfl) T.n_int (by decide +kernel) (pa_cons (pv 7) pa_nil)) (pe_ix (r := rIxT K) ix_tup (pv 4) pe_int (fun _ _ => rfl)))))
      (pss_one (ps_if (PW.pt (pw_and (pt_cmpR op_eq (pe_callB (cr_minT rfl hr.units) (by rfl) T.n_min (by decide +kernel) (pa_cons (pv 4) pa_nil)) (pe_callB (cr_maxT rfl hr.units) (by rfl) T.n_max (by decide +kernel) (pa_cons (pv 4) pa_nil)) (nomark _)) (pw_and1 (pt_cmpR op_eq (pe_callB (cr_min rfl) (by rfl) T.n_min (by decide +kernel) (pa_cons (pv 6) pa_nil)) (pe_callB (cr_max rfl) (by rfl) T.n_max (by decide +kernel) (pa_cons (pv 6) pa_nil)) (nomark _))))) (pss_one (ps_ret (pe_tup (pa_cons (pv 3) (pa_cons (pe_ix ix_tup (pv 4) pe_int (fun _ _ => rfl)) pa_nil))))) pss_nil))))
      (pss_one (ps_ret pe_non)))), ?_⟩
    refine ⟨_, rfl, c, _, rfl, hc, rfl, _, _, rfl, _, _, rfl, rfl, ?_⟩
    refine ⟨_, rfl, _, rfl, by show 3 ≤ sizeLine; decide, fun t1 ht1 => ?_⟩
    have e1 : Ex H (upd H t1 (.tup [.str "owed", .ref ca, .ref cb])) := Ex.nw ht1
    refine ⟨_, rfl, _, rfl, by show 3 ≤ sizeLine; decide, fun t2 ht2 => ?_⟩
    have e2 := Ex.nw (o := .tup [.str "due", .ref cb, .ref ca]) ht2
    refine ⟨by show 2 ≤ sizeLine; decide, fun t ht => ?_⟩
    have e3 := Ex.nw (o := .tup [.ref t1, .ref t2]) ht
    have e13 := Ex.tr e1 (Ex.tr e2 e3)
    have q1 := ex_t (K := K) (Ex.tr e2 e3) tup_of
    have q2 := ex_t (K := K) e3 tup_of
    have q3 := tup_of (K := K) (H := upd (upd H t1 (.tup [.str "owed", .ref ca, .ref cb])) t2 (.tup [.str "due", .ref cb, .ref ca])) (p := t) (xs := [.ref t1, .ref t2])
    generalize hG : upd (upd (upd H t1 (.tup [.str "owed", .ref ca, .ref cb])) t2 (.tup [.str "due", .ref cb, .ref ca])) t (.tup [.ref t1, .ref t2]) = G at *
    refine ⟨t, rfl, ⟨_, q3⟩, for_tup (K := K) (a := t) (xs := [.ref t1, .ref t2]) (fun i σ H' => ∃ y3 y4 y5 y6 : Option V, σ = [some (.ref c), some (.ref ca), some (.ref cb), y3, y4, y5, y6, none] ∧ Ex G H' ∧ (1 ≤ i → fitsU a b = false) ∧ (2 ≤ i → fitsU b a = false)) ?_ ?_ ?_ ?_⟩
    · exact ⟨none, none, none, none, rfl, Ex.rf G, fun h => by omega, fun h => by omega⟩
    · rintro i σ H' _ ⟨_, _, _, _, _, e, _⟩
      exact ex_t e q3
    · rintro i v σ H' hi ⟨y3, y4, y5, y6, rfl, e', f1, f2⟩
      have row : ∃ (s : Str) (A B : List Int) (cA cB tt : Addr), v = .ref tt ∧ SqT K H' tt [.str s, .ref cA, .ref cB] ∧ SqT K H' cA (A.map V.int) ∧ SqT K H' cB (B.map V.int) ∧ Sums A ∧ Sums B ∧ (fitsU A B = true → unitOf a b = some (s, at0 A 0)) ∧
          (fitsU A B = false → (1 ≤ i + 1 → fitsU a b = false) ∧ (2 ≤ i + 1 → fitsU b a = false)) := by
        have e0 := Ex.tr e13 e'
        match i, hi with
        | 0, hi =>
          cases hi
          exact ⟨"owed", a, b, ca, cb, t1, rfl, ex_t e' q1, ex_t e0 ha, ex_t e0 hb, sa, sb, fun h => by unfold unitOf; rw [if_pos h], fun h => ⟨fun _ => h, fun h => by omega⟩⟩
        | 1, hi =>
          cases hi
          have g1 := f1 (Nat.le_refl _)
          exact ⟨"due", b, a, cb, ca, t2, rfl, ex_t e' q2, ex_t e0 hb, ex_t e0 ha, sb, sa, fun h => by unfold unitOf; rw [if_neg (by rw [g1]; decide), if_pos h], fun h => ⟨fun _ => g1, fun _ => h⟩⟩
        | i + 2, hi => simp at hi
      obtain ⟨s, A, B, cA, cB, tt, rfl, hT, hA, hB, sA, sB, yes, no⟩ := row
      have A0 : 0 < A.length := List.length_pos_iff.mpr sA.ne
      have B0 : 0 < B.length := List.length_pos_iff.mpr sB.ne
      have u0 : 0 < at0 A 0 := sA.pos _ (at0_mem sA.ne)
      have gA : (A.map V.int)[0]? = some (.int (at0 A 0)) := at0_getV A0
      have gB : ∀ {i : Nat} {x : V}, (B.map V.int)[i]? = some x → x = .int (at0 B i) := fun {i x} h => by
        have hl := (List.getElem?_eq_some_iff.mp h).1
        rw [List.length_map] at hl
        rw [at0_getV hl] at h
        exact (Option.some.inj h).symm
      refine ⟨tt, _, rfl, hT, rfl, _, _, rfl, _, _, rfl, _, _, rfl, rfl, ?_⟩
      refine sq_asg (comp_tup (K := K) (xs := B.map V.int) (RV fun i => .int (at0 B i % at0 A 0)) (RV.stays _) (fun R' k' => ⟨_, rfl, k' cB H' (Ex.rf H') hB⟩) (by rw [List.length_map]; have := sB.len; omega) (fun x => rfl) ?_ ?_)
      · intro j x H2 hj e2' Q' k'
        obtain rfl := gB hj
        exact ⟨_, rfl, .inl ⟨_, rfl, _, rfl, cA, _, 0, _, rfl, rfl, ex_t e2' hA, atI_nat (j := 0) gA, _, _, rfl, rfl, u0, k' _ _ (Ex.rf _) rfl⟩⟩
      · intro D H2 ys hD e2' hys m
        rw [RV.list m, List.length_map, map_mod] at hys
        have hA2 := ex_t e2' hA
        have Rn : 0 < (B.map (· % at0 A 0)).length := by rw [List.length_map]; exact B0
        obtain ⟨n, ns, rfl⟩ : ∃ n ns, A = n :: ns := by
          cases A with
          | nil => exact absurd rfl sA.ne
          | cons n ns => exact ⟨n, ns, rfl⟩
        have un : at0 (n :: ns) 0 = n := rfl
        have next : fitsU (n :: ns) B = false → ∃ z3 z4 z5 z6 : Option V, [some (V.ref c), some (.ref ca), some (.ref cb), some (.str s), some (.ref cA), some (.ref cB), some (.ref D), none] = [some (.ref c), some (.ref ca), some (.ref cb), z3, z4, z5, z6, none] ∧ Ex G H2 ∧ (1 ≤ i + 1 → fitsU a b = false) ∧ (2 ≤ i + 1 → fitsU b a = false) :=
          fun h => ⟨_, _, _, _, rfl, Ex.tr e' e2', no h⟩
        refine ⟨_, rfl, cA, n, ns, rfl, hA2, _, rfl, cA, n, ns, rfl, hA2, rfl, _, rfl, ?_⟩
        rw [eq_ints]
        refine ite2 (fun h1 => ?_) (fun h1 => ?_)
        · have o1 := ones_iff.mp (of_decide_eq_true h1)
          refine ⟨_, rfl, D, _, rfl, SqL.of hys, Rn, fun m1 hm1 hm2 => ⟨_, rfl, D, _, rfl, SqL.of hys, Rn, fun M hM1 hM2 => ⟨rfl, _, rfl, ?_⟩⟩⟩
          rw [eq_ints]
          have zR : at0 B 0 % n ∈ B.map (· % at0 (n :: ns) 0) := List.mem_map.mpr ⟨_, at0_mem sB.ne, rfl⟩
          have ri := rests_iff zR hm1 hm2 hM1 hM2
          have fi : fitsU (n :: ns) B = true ↔ m1 = M := by
            rw [fits_iff, ri]
            constructor
            · intro h y hy
              obtain ⟨z, hz, rfl⟩ := List.mem_map.mp hy
              exact h.2 z hz
            · intro h
              exact ⟨o1, fun y hy => h _ (List.mem_map.mpr ⟨y, hy, rfl⟩)⟩
          refine ite2 (fun h2 => ?_) (fun h2 => ?_)
          · have f := fi.mpr (of_decide_eq_true h2)
            refine ⟨_, rfl, _, rfl, cA, _, 0, _, rfl, rfl, hA2, atI_nat (j := 0) gA, by show 2 ≤ sizeLine; decide, fun d hd => ?_⟩
            refine k _ _ (Ex.tr e13 (Ex.tr e' (Ex.tr e2' (Ex.nw hd)))) ?_
            rw [yes f]
            exact ⟨d, rfl, tup_of⟩
          · exact next (by
              cases hf : fitsU (n :: ns) B with
              | false => rfl
              | true => exact absurd (decide_eq_true (fi.mp hf)) h2)
        · refine iteF (next ?_)
          cases hf : fitsU (n :: ns) B with
          | false => rfl
          | true => exact absurd (decide_eq_true (ones_iff.mpr (fits_iff.mp hf).1)) h1
    · rintro σ H' ⟨_, _, _, _, rfl, e', f1, f2⟩
      refine k _ _ (Ex.tr e13 e') ?_
      unfold unitOf
      rw [if_neg (by rw [f1 (show 1 ≤ 2 by decide)]; decide), if_neg (by rw [f2 (show 2 ≤ 2 by decide)]; decide)]
      rfl
def spDue (K : PySem.W.Frag) : Sp := fun vs H Q _ => ∃ (c : Addr) (v : V) (p q : Int) (a b : List Int), vs = [.ref c, v] ∧ SumsAt K H c a b ∧ Fr K H v (p, q) ∧ Pq p q ∧ Sums a ∧ Sums b ∧ ∀ u H', Ex H H' → UnV K H' p q u (unitOf a b) → Q u H'
theorem ok_Ldue (T : Tx K mg) : FnOk P w K mg base CX0 3 T.Ldue.f T.Ldue.fd ["_law_sums_here", "_law_unit_here"] (spDue K) := by
  refine T.Ldue.F.ok sc_Ldue (fun vs H Q E h => ?_) (fun cdv A outer s H vs Q E hr h => ?_)
  · obtain ⟨_, _, _, _, _, _, rfl, _⟩ := h
    rfl
  · obtain ⟨c, v, p, q, a, b, rfl, hc, hv, hU, sa, sb, k⟩ := h
    refine ⟨_, (pss_cons (ps_set (i := 2) sc_Ldue.nd (by rfl) (Or.inl rfl) (pe_call (ok_Lqueueunit (P := P) (w := w) (base := base) T) (hr.mono (by decide)) (by rfl) T.g_Lqueueunit T.Lqueueunit.F.kp T.Lqueueunit.b .nil pass0 (pa_cons (pv 0) pa_nil)))
      (pss_one (ps_ret (pe_ifExp (pt_cmpR op_isN (pv 2) pe_non (nomark _)) pe_non (pe_tup (pa_cons (pe_ix ix_tup (pv 2) pe_int (fun _ _ => rfl)) (pa_cons (pe_call (ok_Ltimes (P := P) (w := w) (base := base) T) (hr.mono (by decide)) (by rfl) T.g_Ltimes T.Ltimes.F.kp T.Ltimes.b .nil pass0 (pa_cons (pe_ix ix_tup (pv 2) pe_int (fun _ _ => rfl)) (pa_cons (pv 1) pa_nil))) pa_nil))))))), ?_⟩
    refine ⟨_, rfl, c, a, b, rfl, hc, sa, sb, fun u H1 e1 hu => ?_⟩
    have small : ∀ s n, unitOf a b = some (s, n) → Sm 100 n := fun s n h => by
      have hm : n = at0 a 0 ∨ n = at0 b 0 := by
        unfold unitOf at h
        split at h
        · cases h; exact .inl rfl
        · split at h
          · cases h; exact .inr rfl
          · cases h
      rcases hm with rfl | rfl
      · exact (sa.at (at0_of (List.length_pos_iff.mpr sa.ne))).2
      · exact (sb.at (at0_of (List.length_pos_iff.mpr sb.ne))).2
    cases hun : unitOf a b with
    | none =>
      rw [hun] at hu k
      obtain rfl : u = .non := hu
      exact ⟨_, rfl, rfl, _, rfl, iteT (k _ H1 e1 rfl)⟩
    | some z =>
      obtain ⟨s, n⟩ := z
      have sn := small s n hun
      rw [hun] at hu k
      obtain ⟨d, rfl, hd⟩ := hu
      refine ⟨_, rfl, rfl, _, rfl, iteF ?_⟩
      refine ⟨_, rfl, d, _, 0, _, rfl, rfl, hd, rfl, _, rfl, d, _, 1, _, rfl, rfl, hd, rfl, _, rfl, n, p, q, v, rfl, hv.mono e1, hU, sn, fun f H2 e2 hf => ?_⟩
      refine ⟨by show 2 ≤ sizeLine; decide, fun d2 hd2 => ?_⟩
      have e3 : Ex H2 (upd H2 d2 (.tup [.str s, f])) := Ex.nw hd2
      exact k _ _ (Ex.tr e1 (Ex.tr e2 e3)) ⟨d2, f, rfl, tup_of, hf.mono e3⟩
end
end K70
end
section
set_option Elab.async false
set_option linter.all false
set_option maxRecDepth 100000
set_option maxHeartbeats 4000000
set_option pp.maxSteps 400
namespace K70
open PySem PySem.Spec PyProof.Rows L2
open Evl (Ex ex_l ex_t fresh_back)
/-! ### the numbers of the queues' joints -/
/-- all but one address stays -/
def ExN (d : Addr) (H H' : Hp) : Prop := ∀ a o, a ≠ d → H a = some o → H' a = some o
theorem ExN.of {d : Addr} {H H' : Hp} (e : Ex H H') : ExN d H H' := fun a o _ h => e a o h
theorem ExN.tr {d : Addr} {H H1 H2 : Hp} (a : ExN d H H1) (b : ExN d H1 H2) : ExN d H H2 := fun c o n h => b c o n (a c o n h)
theorem ExN.put {d : Addr} {H : Hp} {o : HO} : ExN d H (upd H d o) := fun a o' n h => by rw [upd_ne n]; exact h
theorem ExN.t {K : PySem.W.Frag} {d : Addr} {H H' : Hp} {a : Addr} {xs : List V} {kvs : List (Key × V)} (e : ExN d H H') (hd : H d = some (.dK kvs)) (h : SqT K H a xs) : SqT K H' a xs := by
  rcases h with (h | ⟨o, h⟩) | h
  · exact .inl (.inl (e a _ (fun q => by rw [q, hd] at h; cases h) h))
  · exact .inl (.inr ⟨o, e a _ (fun q => by rw [q, hd] at h; cases h) h⟩)
  · exact .inr h
def keysD (ns : List Int) : List (Key × V) := ns.map fun n => (Sum.inl n, V.bl true)
theorem keysD_put (ns : List Int) (z : Int) : putK (keysD ns) (.inl z) (.bl true) = keysD (if z ∈ ns then ns else ns ++ [z]) := by
  unfold putK
  have e1 : ((keysD ns).any fun kv => decide (kv.1 = Sum.inl z)) = true ↔ z ∈ ns := by
    unfold keysD
    rw [List.any_map, List.any_eq_true]
    constructor
    · rintro ⟨x, hx, e⟩
      have : (Sum.inl x : Key) = Sum.inl z := of_decide_eq_true e
      cases this; exact hx
    · intro h
      exact ⟨z, h, decide_eq_true rfl⟩
  by_cases h : z ∈ ns
  · rw [if_pos (e1.mpr h), if_pos h]
    unfold keysD
    rw [List.map_map]
    apply List.map_congr_left
    intro x _
    show (if (Sum.inl x : Key) = Sum.inl z then _ else _) = _
    split <;> rfl
  · rw [if_neg (fun q => h (e1.mp q)), if_neg h]
    unfold keysD
    rw [List.map_append]; rfl
theorem few {k : Nat} : ∀ {ns : List Int}, ns.Nodup → (∀ x ∈ ns, 0 ≤ x ∧ x < (k : Int)) → ns.length ≤ k := by
  induction k with
  | zero =>
    intro ns _ h
    cases ns with
    | nil => exact Nat.le_refl _
    | cons x r => have := h x List.mem_cons_self; omega
  | succ k ih =>
    intro ns nd h
    have nd2 := nd.erase (k : Int)
    have := ih (ns := ns.erase (k : Int)) nd2 (fun x hx => by
      obtain ⟨h1, h2⟩ := (List.Nodup.mem_erase_iff nd).mp hx
      have := h x h2
      omega)
    have l := List.length_erase (a := (k : Int)) (l := ns)
    split at l <;> omega
section
variable {P : Program} {w : World} {K : PySem.W.Frag} {mg : Str → Option Value} {base : Heap}
def numOf (a b : List Int) (o t : List Nat) : Int := ((a.length + b.length : Nat) : Int) - (J (o.map (at0 a)) (t.map (at0 b)) : Nat)
theorem alike_nums {a b : List Int} {ns : List Int} (nd : ns.Nodup) (h : ∀ x, x ∈ ns ↔ ∃ o ∈ ordL a.length a.length, ∃ t ∈ ordL b.length b.length, x = numOf a b o t) : ns.length = 1 ↔ Alike a b := by
  have self : ∀ l : List Int, (List.range l.length).map (at0 l) = l := fun l => map_range
  have m0 : numOf a b (List.range a.length) (List.range b.length) ∈ ns := (h _).mpr ⟨_, mem_ordL (List.Perm.refl _), _, mem_ordL (List.Perm.refl _), rfl⟩
  constructor
  · intro hl A B pA pB
    obtain ⟨x, rfl⟩ := List.length_eq_one_iff.mp hl
    obtain ⟨σ, pσ, rfl⟩ := perm_order pA
    obtain ⟨τ, pτ, rfl⟩ := perm_order pB
    have m1 : numOf a b σ τ ∈ [x] := (h _).mpr ⟨_, mem_ordL pσ, _, mem_ordL pτ, rfl⟩
    have e0 := List.mem_singleton.mp m0
    have e1 := List.mem_singleton.mp m1
    unfold numOf at e0 e1
    rw [self, self] at e0
    omega
  · intro al
    have all : ∀ x ∈ ns, x = numOf a b (List.range a.length) (List.range b.length) := fun x hx => by
      obtain ⟨o, ho, t, ht, rfl⟩ := (h x).mp hx
      unfold numOf
      rw [self, self, al _ _ (perm_vals (ordL_full ho)) (perm_vals (ordL_full ht))]
    match ns, nd, all, m0 with
    | [], _, _, m0 => simp at m0
    | [x], _, _, _ => rfl
    | x :: y :: r, nd, all, _ =>
      have e1 := all x List.mem_cons_self
      have e2 := all y (List.mem_cons_of_mem _ List.mem_cons_self)
      have := (List.nodup_cons.mp nd).1
      rw [e1, ← e2] at this
      exact absurd List.mem_cons_self this
def spNumbers (K : PySem.W.Frag) : Sp := fun vs H Q _ => ∃ (c : Addr) (a b : List Int), vs = [.ref c] ∧ SumsAt K H c a b ∧ Sums a ∧ Sums b ∧ a.sum = b.sum ∧ a.length + b.length ≤ 6 ∧
  ∀ (p : Addr) (H' : Hp) (ns : List Int), Ex H H' → H' p = some (.lst (ns.map V.int)) → (ns.length = 1 ↔ Alike a b) → Q (.ref p) H'
theorem ok_Lqueuenumbers (T : Tx K mg) : FnOk P w K mg base CX0 3 T.Lqueuenumbers.f T.Lqueuenumbers.fd ["_law_sums_here"] (spNumbers K) := by
  refine T.Lqueuenumbers.F.ok sc_Lqueuenumbers (fun vs H Q E h => ?_) (fun cdv A outer s H vs Q E hr h => ?_)
  · obtain ⟨_, _, _, rfl, _⟩ := h
    rfl
  · obtain ⟨c, a, b, rfl, ⟨ca, cb, hc, ha, hb⟩, sa, sb, es, hab, k⟩ := h
    refine ⟨_, (pss_cons (ps_set (i := 1) sc_Lqueuenumbers.nd (by rfl) (Or.inl rfl) pe_dnewK)
      (pss_cons (ps_for PassesOwn.never rfl (pi_list (pe_call (ok_Lorders (P := P) (w := w) (base := base) T) (hr.mono (by decide)) (by rfl) T.g_Lorders T.Lorders.F.kp T.Lorders.b .nil pass0 (pa_cons (pe_callB call_len_seq (by rfl) T.n_len (by decide +kernel) (pa_cons (pe_ix ix_tup (pv 0) pe_int (fun _ _ => rfl)) pa_nil)) pa_nil))) (pg_name (i := 2) sc_Lqueuenumbers.nd (by rfl) (Or.inl rfl)) (pss_one (ps_for PassesOwn.never rfl (pi_list (pe_call (ok_Lorders (P := P) (w := w) (base := base) T) (hr.mono (by decide)) (by rfl) T.g_Lorders T.Lorders.F.kp T.Lorders.b .nil pass0 (pa_cons (pe_callB call_len_seq (by rfl) T.n_len (by decide +kernel) (pa_cons (pe_ix ix_tup (pv 0) pe_int (fun _ _ => rfl)) pa_nil)) pa_nil))) (pg_name (i := 3) sc_Lqueuenumbers.nd (by rfl) (Or.inl rfl)) (pss_one (ps_dput (hu_of hr) (pv 1) (pe_callB call_len_seq (by rfl) T.n_len (by decide +kernel) (pa_cons (pe_call (ok_Lqueueway (P := P) (w := w) (base := base) T) (hr.mono (by decide)) (by rfl) T.g_Lqueueway T.Lqueueway.F.kp T.Lqueueway.b .nil pass0 (pa_cons (pv 0) (pa_cons (pv 2) (pa_cons (pv 3) pa_nil)))) pa_nil)) pe_bl (by rfl))))))
      (pss_one (ps_ret (pe_callB cr_sortedI (by rfl) T.n_sorted (by decide +kernel) (pa_cons (pe_listKeys rfl (pv 1) (by rfl) T.n_list (by decide +kernel)) pa_nil)))))), ?_⟩
    have lb1 := List.length_pos_iff.mpr sb.ne
    have la1 := List.length_pos_iff.mpr sa.ne
    refine fun d hd => ?_
    have e1 : Ex H (upd H d (.dK [])) := Ex.nw hd
    refine ⟨_, rfl, c, _, 0, _, rfl, rfl, ex_t e1 hc, rfl, ca, _, rfl, .inr (ex_t e1 ha), _, rfl, by rw [List.length_map]; omega, fun f1 G ys hf eG hys mG => ?_⟩
    rw [List.length_map] at mG
    have hdG : G d = some (.dK (keysD [])) := eG _ _ upd_same
    have f1d : f1 ≠ d := fun q => by rw [q, upd_same] at hf; cases hf
    have eHG := Ex.tr e1 eG
    refine ⟨f1, rfl, ⟨_, SqL.of hys⟩, for_list (K := K) (a := f1) (xs := ys) (fun i σ H' => ∃ (y2 y3 : Option V) (ns : List Int), σ = [some (.ref c), some (.ref d), y2, y3] ∧ Ex H H' ∧ ExN d G H' ∧ H' d = some (.dK (keysD ns)) ∧ ns.Nodup ∧ (∀ x ∈ ns, 0 ≤ x ∧ x < (7 : Nat)) ∧
      ∀ x, x ∈ ns ↔ ∃ o ∈ (ordL a.length a.length).take i, ∃ t ∈ ordL b.length b.length, x = numOf a b o t) ?_ ?_ ?_ ?_⟩
    · exact ⟨none, none, [], rfl, eHG, fun _ _ _ h => h, hdG, List.nodup_nil, fun x hx => by simp at hx, fun x => by simp⟩
    · rintro i σ H' _ ⟨_, _, _, _, _, e, _⟩
      exact SqL.of (e _ _ f1d hys)
    · rintro i v σ H' hi ⟨y2, y3, ns, rfl, e', eN, hd', nd, rg, mem⟩
      obtain ⟨o, ho, po, rfl, hpo⟩ := mG.get hi
      have hpo' := eN.t hdG hpo
      refine ⟨_, rfl, c, _, 1, _, rfl, rfl, ex_t e' hc, rfl, cb, _, rfl, .inr (ex_t e' hb), _, rfl, by rw [List.length_map]; omega, fun f2 G2 zs hf2 eG2 hzs mG2 => ?_⟩
      rw [List.length_map] at mG2
      have hdG2 := eG2 _ _ hd'
      have f2d : f2 ≠ d := fun q => by rw [q, hd'] at hf2; cases hf2
      have pσ : o.Perm (List.range a.length) := ordL_full (List.mem_of_getElem? ho)
      refine ⟨f2, rfl, ⟨_, SqL.of hzs⟩, for_list (K := K) (a := f2) (xs := zs) (fun j σ H2 => ∃ (y3 : Option V) (ms : List Int), σ = [some (.ref c), some (.ref d), some (.ref po), y3] ∧ Ex H H2 ∧ ExN d G2 H2 ∧ H2 d = some (.dK (keysD ms)) ∧ ms.Nodup ∧ (∀ x ∈ ms, 0 ≤ x ∧ x < (7 : Nat)) ∧
        ∀ x, x ∈ ms ↔ x ∈ ns ∨ ∃ t ∈ (ordL b.length b.length).take j, x = numOf a b o t) ?_ ?_ ?_ ?_⟩
      · exact ⟨_, ns, rfl, Ex.tr e' eG2, fun _ _ _ h => h, hdG2, nd, rg, fun x => by simp⟩
      · rintro j σ H2 _ ⟨_, _, _, _, e, _⟩
        exact SqL.of (e _ _ f2d hzs)
      · rintro j v σ H2 hj ⟨y3, ms, rfl, e2, eN2, hd2, nd2, rg2, mem2⟩
        obtain ⟨t, ht, pt, rfl, hpt⟩ := mG2.get hj
        have hpt2 := eN2.t hdG2 hpt
        have hpo2 := (ExN.tr (ExN.of eG2) eN2).t hd' hpo'
        have pτ : t.Perm (List.range b.length) := ordL_full (List.mem_of_getElem? ht)
        refine ⟨_, rfl, _, rfl, _, rfl, _, rfl, c, po, pt, a, b, o, t, rfl, ⟨ca, cb, ex_t e2 hc, ex_t e2 ha, ex_t e2 hb⟩, hpo2, hpt2, pσ, pτ, sa.pos, sb.pos, es, by omega, fun wy H3 ws e3 hw hJ => ?_⟩
        have hd3 := e3 _ _ hd2
        have ml := few nd2 rg2
        refine ⟨wy, _, rfl, .inr hw, d, _, rfl, DPut.k (k := Sum.inl _) hd3 (by unfold keysD; rw [List.length_map]; exact Evl.sz_lt (by omega)), ?_⟩
        have en : (ws.length : Int) = numOf a b o t := by unfold numOf; omega
        rw [keysD_put, en]
        have rz : 0 ≤ numOf a b o t ∧ numOf a b o t < (7 : Nat) := by omega
        have tk : (ordL b.length b.length).take (j + 1) = (ordL b.length b.length).take j ++ [t] := by rw [List.take_add_one, ht]; rfl
        refine ⟨_, _, rfl, Ex.mt (Ex.tr e2 e3) hd, ExN.tr eN2 (ExN.tr (ExN.of e3) ExN.put), upd_same, ?_, ?_, ?_⟩
        · split
          · exact nd2
          · rename_i hn
            rw [List.nodup_append]
            exact ⟨nd2, by simp, fun x hx y hy q => hn (by rw [← List.mem_singleton.mp hy, ← q]; exact hx)⟩
        · intro x hx
          split at hx
          · exact rg2 x hx
          · rcases List.mem_append.mp hx with h | h
            · exact rg2 x h
            · rw [List.mem_singleton.mp h]; exact rz
        · intro x
          rw [tk]
          have key : (x ∈ if numOf a b o t ∈ ms then ms else ms ++ [numOf a b o t]) ↔ x ∈ ms ∨ x = numOf a b o t := by
            split
            · rename_i hm
              exact ⟨.inl, fun h => h.elim id fun q => by rw [q]; exact hm⟩
            · rw [List.mem_append, List.mem_singleton]
          rw [key, mem2 x]
          constructor
          · rintro ((h | ⟨u, hu, q⟩) | q)
            · exact .inl h
            · exact .inr ⟨u, List.mem_append_left _ hu, q⟩
            · exact .inr ⟨t, List.mem_append_right _ List.mem_cons_self, q⟩
          · rintro (h | ⟨u, hu, q⟩)
            · exact .inl (.inl h)
            · rcases List.mem_append.mp hu with hu | hu
              · exact .inl (.inr ⟨u, hu, q⟩)
              · rw [List.mem_singleton.mp hu] at q
                exact .inr q
      · rintro σ H2 ⟨y3, ms, rfl, e2, eN2, hd2, nd2, rg2, mem2⟩
        rw [List.take_of_length_le (by rw [mG2.1]; exact Nat.le_refl _)] at mem2
        have tk : (ordL a.length a.length).take (i + 1) = (ordL a.length a.length).take i ++ [o] := by rw [List.take_add_one, ho]; rfl
        refine ⟨_, _, ms, rfl, e2, ExN.tr eN (ExN.tr (ExN.of eG2) eN2), hd2, nd2, rg2, fun x => ?_⟩
        rw [tk, mem2 x, mem x]
        constructor
        · rintro (⟨u, hu, q⟩ | q)
          · exact ⟨u, List.mem_append_left _ hu, q⟩
          · exact ⟨o, List.mem_append_right _ List.mem_cons_self, q⟩
        · rintro ⟨u, hu, q⟩
          rcases List.mem_append.mp hu with hu | hu
          · exact .inl ⟨u, hu, q⟩
          · rw [List.mem_singleton.mp hu] at q
            exact .inr q
    · rintro σ H' ⟨y2, y3, ns, rfl, e', eN, hd', nd, rg, mem⟩
      rw [List.take_of_length_le (by rw [mG.1]; exact Nat.le_refl _)] at mem
      refine ⟨_, rfl, d, _, rfl, hd', fun p hp => ?_⟩
      have ek : ((keysD ns).map fun kv => kV kv.1) = ns.map V.int := by unfold keysD; rw [List.map_map]; rfl
      rw [ek]
      refine ⟨p, ns, rfl, SqL.of upd_same, fun ns' q pm _ hq => ?_⟩
      refine k q _ ns' (Ex.tr e' (Ex.tr (Ex.nw hp) (Ex.nw hq))) upd_same ?_
      rw [pm.length_eq]
      exact alike_nums nd mem
end
end K70
end
section
set_option Elab.async false
set_option linter.all false
set_option maxRecDepth 100000
set_option maxHeartbeats 4000000
set_option pp.maxSteps 400
namespace K70
open PySem PySem.Spec PyProof.Rows L2
open Evl (Ex ex_l ex_t fresh_back)
/-! ### sides that fit a unit, or nearly -/
structure Bigs (xs : List Int) : Prop where
  ne : xs ≠ []
  pos : Pos xs
  sm : ∀ x ∈ xs, x < 2 ^ 64
  len : xs.length ≤ 1000
theorem mul_bd {x y M N : Int} (hx : 0 ≤ x) (hM : x ≤ M) (hy : 0 ≤ y) (hN : y ≤ N) : 0 ≤ x * y ∧ x * y ≤ M * N :=
  ⟨Int.mul_nonneg hx hy, Int.mul_le_mul hM hN hy (Int.le_trans hx hM)⟩
theorem m64 {x : Int} (h0 : 0 ≤ x) (h1 : x ≤ 1000) : -(2 ^ 64) < x ∧ x < 2 ^ 64 := by
  have e : (2 : Int) ^ 64 = 18446744073709551616 := by decide
  rw [e]; omega
theorem short_dvd {s o : Int} : o ∣ s + (-s) % o := by
  have h := Int.emod_add_mul_ediv (-s) o
  refine ⟨-((-s) / o), ?_⟩
  rw [Int.mul_neg]
  generalize o * ((-s) / o) = q at *
  generalize (-s) % o = r at *
  omega
section
variable {P : Program} {w : World} {K : PySem.W.Frag} {mg : Str → Option Value} {base : Heap}
def spUnitsSide (K : PySem.W.Frag) : Sp := fun vs H Q _ => ∃ S : Addr, vs = [.ref S] ∧ Src H S ∧ ∀ (c : Addr) (H' : Hp) (a b : List Int), Xs S H H' → SumsAt K H' c a b → Bigs a → Bigs b → a.sum = b.sum → Q (.ref c) H'
theorem ok_Lunitsside (T : Tx K mg) : FnOk P w K mg base CX0 2 T.Lunitsside.f T.Lunitsside.fd ["_law_source_here"] (spUnitsSide K) := by
  refine T.Lunitsside.F.ok sc_Lunitsside (fun vs H Q E h => ?_) (fun cdv A outer s H vs Q E hr h => ?_)
  · obtain ⟨_, rfl, _⟩ := h
    rfl
  · obtain ⟨S, rfl, hS, k⟩ := h
    refine ⟨_, (pss_cons (ps_set (i := 1) sc_Lunitsside.nd (by rfl) (Or.inr rfl) (pe_op op_add pe_int (pe_call (ok_Ldraw (P := P) (w := w) (base := base) T) (hr.mono (by decide)) (by rfl) T.g_Ldraw T.Ldraw.F.kp T.Ldraw.b .nil pass0 (pa_cons (pv 0) (pa_cons pe_int pa_nil)))))
      (pss_cons (ps_set (i := 2) sc_Lunitsside.nd (by rfl) (Or.inr rfl) (pe_call (ok_Ldraw (P := P) (w := w) (base := base) T) (hr.mono (by decide)) (by rfl) T.g_Ldraw T.Ldraw.F.kp T.Ldraw.b .nil pass0 (pa_cons (pv 0) (pa_cons (pv 1) pa_nil))))
      (pss_cons (ps_set (i := 3) sc_Lunitsside.nd (by rfl) (Or.inl rfl) (pe_op op_add pe_int (pe_call (ok_Ldraw (P := P) (w := w) (base := base) T) (hr.mono (by decide)) (by rfl) T.g_Ldraw T.Ldraw.F.kp T.Ldraw.b .nil pass0 (pa_cons (pv 0) (pa_cons pe_int pa_nil)))))
      (pss_cons (ps_setLc (i := 4) (own := [(("_law_k" : Str), 7)]) (g := gName 7) (tt := tYes) (by rfl) sc_Lunitsside.nd (by rfl) (by rfl) (sw_true (by rfl) (by rfl) (by rfl) (by decide +kernel)) (pi_range1 (by rfl) T.n_range (pa_cons (pv 3) pa_nil)) (blkOk_by (own := [(("_law_k" : Str), 7)]) (N := ["_law_source_here", "_law_one", "_law_rest", "_law_many", "_law_others", "_law_short", "_law_ones", "_law_k"]) (sc := defScope s_Lunitsside) (by decide +kernel)) (fun _ _ _ _ _ => (pg_name (i := 7) sc_Lunitsside.nd (by rfl) (Or.inl rfl))) (fun _ _ _ _ _ => pts_nil) (fun _ _ _ _ _ => (pe_ifExp (pt_cmpR op_gt (pv 2) pe_int (nomark _)) (pe_callB (call_max2 rfl) (by rfl) T.n_max (by decide +kernel) (pa_cons pe_int (pa_cons (pe_op op_add (pv 2) (pe_op op_mul (pv 1) (pe_call (ok_Ldraw (P := P) (w := w) (base := base) T) (hr.mono (by decide)) (by rfl) T.g_Ldraw T.Ldraw.F.kp T.Ldraw.b .nil pass0 (pa_cons (pv 0) (pa_cons pe_int pa_nil))))) pa_nil))) (pe_op op_mul (pv 1) (pe_op op_add pe_int (pe_call (ok_Ldraw (P := P) (w := w) (base := base) T) (hr.mono (by decide)) (by rfl) T.g_Ldraw T.Ldraw.F.kp T.Ldraw.b .nil pass0 (pa_cons (pv 0) (pa_cons pe_int pa_nil))))))))
      (Evl.pss_cut (ps_if (pt_cmpR op_eq (pe_call (ok_Ldraw (P := P) (w := w) (base := base) T) (hr.mono (by decide)) (by rfl) T.g_Ldraw T.Ldraw.F.kp T.Ldraw.b .nil pass0 (pa_cons (pv 0) (pa_cons pe_int pa_nil))) pe_int (nomark _)) (pss_one (ps_asg (pe_op op_add pe_int (pe_call (ok_Ldraw (P := P) (w := w) (base := base) T) (hr.mono (by decide)) (by rfl) T.g_Ldraw T.Ldraw.F.kp T.Ldraw.b .nil pass0 (pa_cons (pv 0) (pa_cons pe_int pa_nil)))) (pg_sub (pv 4) (pe_call (ok_Ldraw (P := P) (w := w) (base := base) T) (hr.mono (by decide)) (by rfl) T.g_Ldraw T.Ldraw.F.kp T.Ldraw.b .nil pass0 (pa_cons (pv 0) (pa_cons (pv 3) pa_nil))) set_list))) pss_nil)
      (pss_cons (ps_set (i := 5) sc_Lunitsside.nd (by rfl) (Or.inl rfl) (pe_op op_mod (pe_callTy call_int1 (by rfl) T.n_int (by decide +kernel) (pa_cons (pe_un un_neg (pe_callB (cr_sum rfl) (by rfl) T.n_sum (by decide +kernel) (pa_cons (pv 4) pa_nil))) pa_nil)) (pv 1)))
      (Evl.pss_cut (ps_if (pt_cmpR op_gt (pv 5) pe_int (nomark _)) (pss_one (ps_asg (pe_op op_add (pe_ix ix_list (pv 4) pe_int (fun _ _ => rfl)) (pv 5)) (pg_sub (pv 4) pe_int set_list))) pss_nil)
      (pss_cons (ps_set (i := 6) sc_Lunitsside.nd (by rfl) (Or.inl rfl) (pe_op op_rep (pe_lst (pa_cons (pv 1) pa_nil)) (pe_op op_fdiv (pe_callB (cr_sum rfl) (by rfl) T.n_sum (by decide +kernel) (pa_cons (pv 4) pa_nil)) (pv 1))))
      (pss_one (ps_ret (pe_ifExp (pt_cmpR op_eq (pe_call (ok_Ldraw (P := P) (w := w) (base := base) T) (hr.mono (by decide)) (by rfl) T.g_Ldraw T.Ldraw.F.kp T.Ldraw.b .nil pass0 (pa_cons (pv 0) (pa_cons pe_int pa_nil))) pe_int (nomark _)) (pe_tup (pa_cons (pe_callTy call_tuple_of (by rfl) T.n_tuple (by decide +kernel) (pa_cons (pv 6) pa_nil)) (pa_cons (pe_callTy call_tuple_of (by rfl) T.n_tuple (by decide +kernel) (pa_cons (pv 4) pa_nil)) pa_nil))) (pe_tup (pa_cons (pe_callTy call_tuple_of (by rfl) T.n_tuple (by decide +kernel) (pa_cons (pv 4) pa_nil)) (pa_cons (pe_callTy call_tuple_of (by rfl) T.n_tuple (by decide +kernel) (pa_cons (pv 6) pa_nil)) pa_nil)))))))))))))), ?_⟩
    refine ⟨_, rfl, S, 4, rfl, hS, by decide, by decide, fun v H1 v0 v4 x1 => ⟨_, _, rfl, rfl, ?_⟩⟩
    obtain ⟨one, ho⟩ : ∃ one, one = 1 + v := ⟨_, rfl⟩
    dsimp only
    rw [← ho]
    refine ⟨_, rfl, _, rfl, S, one, rfl, x1.src, by omega, by omega, fun r H2 r0 r1 x2 => ?_⟩
    have x02 := x1.tr x2
    refine ⟨_, rfl, S, 12, rfl, x2.src, by decide, by decide, fun m H3 m0 m12 x3 => ⟨_, _, rfl, rfl, ?_⟩⟩
    obtain ⟨many, hm⟩ : ∃ many, many = 2 + m := ⟨_, rfl⟩
    dsimp only
    rw [← hm]
    have x03 := x02.tr x3
    refine sq_asg (comp_rangeX S (fun i v _ => ∃ z : Int, v = .int z ∧ 1 ≤ z ∧ z ≤ 20) (fun i v H H' e h => h) (n := many) x03.src (fun R' k' => ⟨_, rfl, k'⟩) (by omega) (fun x => rfl) ?_ ?_)
    · intro i H' hi x' Q' k'
      refine ⟨_, rfl, _, _, rfl, rfl, _, rfl, ?_⟩
      refine ite2 (fun _ => ?_) (fun _ => ?_)
      · refine ⟨_, rfl, _, rfl, _, rfl, S, 4, rfl, x'.src, by decide, by decide, fun u H4 u0 u4 x4 => ⟨_, _, rfl, rfl, .inl (m64 (by omega) (by omega)), _, _, rfl, rfl, _, _, rfl, ?_⟩⟩
        have b := mul_bd (x := one) (y := u) (M := 4) (N := 3) (by omega) (by omega) u0 (by omega)
        refine k' _ H4 x4 ⟨_, rfl, ?_, ?_⟩
        · split <;> omega
        · split <;> omega
      · refine ⟨_, rfl, _, rfl, S, 3, rfl, x'.src, by decide, by decide, fun u H4 u0 u4 x4 => ⟨_, _, rfl, rfl, _, _, rfl, rfl, .inl (m64 (by omega) (by omega)), ?_⟩⟩
        have b := mul_bd (x := one) (y := 1 + u) (M := 4) (N := 3) (by omega) (by omega) (by omega) (by omega)
        have b2 := mul_bd (x := one - 1) (y := u) (M := 3) (N := 2) (by omega) (by omega) (by omega) (by omega)
        have e : one * (1 + u) = (one - 1) * u + u + one := by rw [Int.mul_add, Int.sub_mul]; omega
        exact k' _ H4 x4 ⟨_, rfl, by omega, by omega⟩
    · intro D H4 ws hD x4 hws mk
      obtain ⟨xs, rfl, xl, hx⟩ := made_ints mk fun i v h => h
      have x04 := x03.tr x4
      have DS : D ≠ S := Ne.symm (x03.src.ne hD)
      have hD0 : H D = none := Xs.fresh hS x03 hD
      refine ⟨fun σ' H' => ∃ ys : List Int, σ' = [some (.ref S), some (.int one), some (.int r), some (.int many), some (.ref D), none, none, none] ∧ Xs S H H' ∧ H' D = some (.lst (ys.map V.int)) ∧ ys.length = xs.length ∧ ∀ y ∈ ys, 1 ≤ y ∧ y ≤ 20, ?_, ?_⟩
      · refine ⟨_, rfl, S, 3, rfl, x4.src, by decide, by decide, fun u H5 u0 u3 x5 => ⟨rfl, _, rfl, ?_⟩⟩
        have hws5 := x5.lst DS hws
        refine ite2 (fun _ => ?_) (fun _ => ⟨xs, rfl, x04.tr x5, hws5, rfl, hx⟩)
        refine ⟨_, rfl, S, 9, rfl, x5.src, by decide, by decide, fun z H6 z0 z9 x6 => ⟨_, _, rfl, rfl, _, rfl, _, rfl, _, rfl, S, many, rfl, x6.src, by omega, by omega, fun j H7 j0 jm x7 => ?_⟩⟩
        obtain ⟨j', rfl⟩ : ∃ j' : Nat, j = j' := ⟨j.toNat, by omega⟩
        have hws7 := x7.lst DS (x6.lst DS hws5)
        refine ⟨D, _, j', j', rfl, rfl, hws7, Evl.ixN_nat (by rw [List.length_map]; omega), ?_⟩
        refine ⟨xs.set j' (1 + z), rfl, (((x04.tr x5).tr x6).tr x7).mt hS hD0, by rw [upd_same, List.map_set], by rw [List.length_set], fun y hy => ?_⟩
        rcases List.mem_or_eq_of_mem_set hy with h | h
        · exact hx y h
        · omega
      · rintro σ' H5 ⟨ys, rfl, x5, hys, yl, hy⟩
        have y0 : 0 < ys.length := by omega
        refine ⟨_, rfl, D, ys, rfl, SqL.of hys, _, rfl, .inl ⟨_, rfl, _, rfl, _, _, rfl, rfl, by show 0 < one; omega, ?_⟩⟩
        have sh0 := Int.emod_nonneg (-ys.sum) (show one ≠ 0 by omega)
        have sh1 := Int.emod_lt_of_pos (-ys.sum) (show 0 < one by omega)
        have dv := short_dvd (s := ys.sum) (o := one)
        dsimp only
        generalize (-ys.sum) % one = sh at *
        refine ⟨fun σ' H' => ∃ zs : List Int, σ' = [some (.ref S), some (.int one), some (.int r), some (.int many), some (.ref D), some (.int sh), none, none] ∧ Xs S H H' ∧ H' D = some (.lst (zs.map V.int)) ∧ zs.length = xs.length ∧ (∀ y ∈ zs, 1 ≤ y ∧ y ≤ 30) ∧ one ∣ zs.sum, ?_, ?_⟩
        · refine ⟨_, rfl, _, _, rfl, rfl, _, rfl, ?_⟩
          refine ite2 (fun _ => ?_) (fun hz => ?_)
          · have hat : (ys.map V.int)[0]? = some (.int (at0 ys 0)) := at0_getV y0
            have hget : ys[0]? = some (at0 ys 0) := at0_of y0
            have f1 := hy (at0 ys 0) (List.mem_of_getElem? hget)
            refine ⟨_, rfl, D, _, 0, _, rfl, rfl, SqL.of hys, atI_nat (j := 0) hat, _, rfl, _, _, rfl, rfl, _, rfl, D, _, 0, 0, rfl, rfl, hys, Evl.ixN_nat (j := 0) (by rw [List.length_map]; exact y0), ?_⟩
            refine ⟨ys.set 0 (at0 ys 0 + sh), rfl, x5.mt hS hD0, by rw [upd_same, List.map_set], by rw [List.length_set, yl], fun y hy2 => ?_, ?_⟩
            · rcases List.mem_or_eq_of_mem_set hy2 with h | h
              · have := hy y h; omega
              · omega
            · rw [sum_set hget, show ys.sum - at0 ys 0 + (at0 ys 0 + sh) = ys.sum + sh by omega]; exact dv
          · have : ¬ (0 : Int) < sh := fun q => hz (decide_eq_true q)
            have sz : sh = 0 := by omega
            rw [sz, Int.add_zero] at dv
            exact ⟨ys, rfl, x5, hys, yl, fun y h => by have := hy y h; omega, dv⟩
        · rintro σ' H6 ⟨zs, rfl, x6, hzs, zl, hz, q, hq⟩
          have z0 : 0 < zs.length := by omega
          have pz : Pos zs := fun y h => by have := hz y h; omega
          have sp := pz.sum_pos (List.length_pos_iff.mp z0)
          have sb := sum_lt (M := 30) fun y h => (hz y h).2
          have q0 : 0 < q := by
            rw [hq] at sp
            rcases (show 0 < q ∨ q ≤ 0 by omega) with h | h
            · exact h
            · have := Int.mul_le_mul_of_nonneg_left h (show 0 ≤ one by omega)
              rw [Int.mul_zero] at this
              omega
          have qz : q ≤ zs.sum := by
            have := mul_bd (x := one - 1) (y := q) (M := 3) (N := q) (by omega) (by omega) (by omega) (Int.le_refl _)
            have e : one * q = (one - 1) * q + q := by rw [Int.sub_mul]; omega
            omega
          have dq : zs.sum / one = q := by rw [hq]; exact Int.mul_ediv_cancel_left q (by omega)
          obtain ⟨q', rfl⟩ : ∃ q' : Nat, q = q' := ⟨q.toNat, by omega⟩
          refine ⟨_, rfl, Nat.le_trans (show 1 ≤ 1000 by decide) (by decide), fun c hc => ?_⟩
          have ec := Ex.nw (o := .lst [.int one]) hc
          refine ⟨_, rfl, D, zs, rfl, SqL.of (ec _ _ hzs), _, rfl, _, _, rfl, rfl, ⟨by show 0 < one; omega, by show one < 1073741824; omega⟩, ?_⟩
          dsimp only
          rw [dq]
          refine ⟨c, q', _, rfl, rfl, upd_same, by omega, by omega, ?_, fun p hp => ?_⟩
          · show 1 * (q' : Int).toNat ≤ sizeLine
            exact Nat.le_trans (show 1 * (q' : Int).toNat ≤ 1000 by omega) (by decide)
          · rw [Int.toNat_natCast, flat_rep]
            have ep := Ex.nw (o := .lst ((List.replicate q' one).map V.int)) hp
            have x7 := (x6.ex ec).ex ep
            have hzs7 := ep _ _ (ec _ _ hzs)
            have pS : p ≠ S := Ne.symm ((x6.ex ec).src.ne hp)
            have b1 : Bigs (List.replicate q' one) := ⟨by intro h; have := congrArg List.length h; simp at this; omega, fun y hy => by rw [(List.mem_replicate.mp hy).2]; omega, fun y hy => by rw [(List.mem_replicate.mp hy).2]; exact (m64 (by omega) (by omega)).2, by rw [List.length_replicate]; omega⟩
            have b2 : Bigs zs := ⟨List.length_pos_iff.mp z0, pz, fun y hy => (m64 (by have := hz y hy; omega) (by have := hz y hy; omega)).2, by omega⟩
            have se : (List.replicate q' one).sum = zs.sum := by rw [sum_repl, hq, Int.mul_comm]
            refine ⟨_, rfl, S, 2, rfl, x7.src, by decide, by decide, fun u H8 u0 u2 x8 => ⟨rfl, _, rfl, ?_⟩⟩
            have x08 := x7.tr x8
            have hzs8 := x8.lst DS hzs7
            have hp8 := x8.lst pS (upd_same (a := p) (o := .lst ((List.replicate q' one).map V.int)))
            refine ite2 (fun _ => ?_) (fun _ => ?_)
            · refine ⟨_, rfl, p, _, rfl, .inl ⟨SqL.of hp8, fun a1 ha1 => ?_⟩⟩
              have q1 := Ex.nw (o := .tup ((List.replicate q' one).map V.int)) ha1
              refine ⟨_, rfl, D, _, rfl, .inl ⟨SqL.of (q1 _ _ hzs8), fun a2 ha2 => ⟨by show 2 ≤ sizeLine; decide, fun c2 hc2 => ?_⟩⟩⟩
              have q2 := Ex.nw (o := .tup (zs.map V.int)) ha2
              have q3 := Ex.nw (o := .tup [.ref a1, .ref a2]) hc2
              exact k c2 _ _ zs (x08.ex (Ex.tr q1 (Ex.tr q2 q3))) ⟨a1, a2, tup_of, ex_t (Ex.tr q2 q3) tup_of, ex_t q3 tup_of⟩ b1 b2 se
            · refine ⟨_, rfl, D, _, rfl, .inl ⟨SqL.of hzs8, fun a1 ha1 => ?_⟩⟩
              have q1 := Ex.nw (o := .tup (zs.map V.int)) ha1
              refine ⟨_, rfl, p, _, rfl, .inl ⟨SqL.of (q1 _ _ hp8), fun a2 ha2 => ⟨by show 2 ≤ sizeLine; decide, fun c2 hc2 => ?_⟩⟩⟩
              have q2 := Ex.nw (o := .tup ((List.replicate q' one).map V.int)) ha2
              have q3 := Ex.nw (o := .tup [.ref a1, .ref a2]) hc2
              exact k c2 _ zs _ (x08.ex (Ex.tr q1 (Ex.tr q2 q3))) ⟨a1, a2, tup_of, ex_t (Ex.tr q2 q3) tup_of, ex_t q3 tup_of⟩ b2 b1 se.symm
end
end K70
end
section
set_option Elab.async false
set_option linter.all false
set_option maxRecDepth 100000
set_option maxHeartbeats 4000000
set_option pp.maxSteps 400
namespace K70
open PySem PySem.Spec PyProof.Rows L2
open Evl (Ex ex_l ex_t fresh_back)
/-! ### the law -/
theorem Xs.back {S : Addr} {H H1 H' : Hp} (e : Ex H H1) (h : H S = none) (x : Xs S H1 H') : Ex H H' := fun a o q => x.keep a o (ne_of_none q h) (e a o q)
theorem EvAt.monoE {K : PySem.W.Frag} {C : Addr} {H H' : Hp} {e : Addr} {p q : Int} {a b : List Int} (x : Ex H H') (h : EvAt K C H e p q a b) : EvAt K C H' e p q a b := h.mono x
theorem same_units {K : PySem.W.Frag} {H : Hp} {p q : Int} {v u : V} {o : Option (Str × Int)} (hv : UnV K H p q v o) (hu : UnV K H p q u o) : Same2 K H v u := by
  cases o with
  | none => exact .inl ⟨hv, hu⟩
  | some z =>
    obtain ⟨s, n⟩ := z
    obtain ⟨c, f, rfl, h1, h2⟩ := hv
    obtain ⟨d, g, rfl, h3, h4⟩ := hu
    exact .inr ⟨s, F p q n, c, d, f, g, rfl, rfl, h1, h3, h2, h4⟩
/-- without the best parts -/
theorem alike_fol {a b : List Int} {g : Int} {w : Nat → Int} (P : People a b g w) (na : 0 < a.length) {fmin fmax : Nat → Int}
    (h1 : Fol true a.length b.length (ms w (a.length + b.length)) fmin) (h2 : Fol false a.length b.length (ms w (a.length + b.length)) fmax)
    (nu : ¬ (Unit a b ∨ Unit b a)) : Alike a b ↔ fmin 0 = fmax 0 := by
  by_cases hs : ∃ k, 0 < k ∧ k < 2 ^ (a.length + b.length) - 1 ∧ ms w (a.length + b.length) k = 0
  · obtain ⟨k, k0, k1, e⟩ := hs
    have nal : ¬ Alike a b := fun al => nu (ninth P.pa P.pb P.eq al (split_of P k0 k1 e))
    refine ⟨fun h => absurd h nal, fun h => (nal ?_).elim⟩
    have same : ∀ A B, A.Perm a → B.Perm b → (J A B : Int) = fmin 0 := fun A B pA pB => by
      have l1 := fol_order P h1 pA pB
      have l2 := fol_order P h2 pA pB
      simp at l1 l2; omega
    intro A B pA pB
    have q1 := same A B pA pB
    have q2 := same a b (List.Perm.refl _) (List.Perm.refl _)
    omega
  · have ne : ∀ k, 0 < k → k < 2 ^ (a.length + b.length) - 1 → ms w (a.length + b.length) k ≠ 0 := fun k k0 k1 e => hs ⟨k, k0, k1, e⟩
    have p := Nat.one_lt_two_pow_iff.mpr (show a.length + b.length ≠ 0 by omega)
    have f1 := fol_one P h1 ne (2 ^ (a.length + b.length) - 2) 0 (by omega)
    have f2 := fol_one P h2 ne (2 ^ (a.length + b.length) - 2) 0 (by omega)
    have al : Alike a b := by
      have same : ∀ A B, A.Perm a → B.Perm b → (J A B : Int) = 1 := fun A B pA pB => by
        have l1 := fol_order P h1 pA pB
        have l2 := fol_order P h2 pA pB
        simp at l1 l2; omega
      intro A B pA pB
      have q1 := same A B pA pB
      have q2 := same a b (List.Perm.refl _) (List.Perm.refl _)
      omega
    exact ⟨fun _ => by omega, fun _ => al⟩
theorem uq_alike {a b : List Int} (sa : Sums a) (sb : Sums b) (es : a.sum = b.sum) {v : V} (h : UQ a b v) : (v = .non ↔ Alike a b) := by
  by_cases hu : unitOf a b = none
  · obtain ⟨fmin, fmax, f1, f2, y, n⟩ := h.2 hu
    have nu : ¬ (Unit a b ∨ Unit b a) := fun q => (unit_iff sa sb).mpr q hu
    rw [alike_fol (people_of sa sb es) (List.length_pos_iff.mpr sa.ne) f1 f2 nu]
    exact ⟨fun q => Classical.byContradiction fun z => n z q, y⟩
  · exact ⟨fun _ => alike_units sa.pos sb.pos es ((unit_iff sa sb).mp hu), fun _ => h.1 hu⟩
theorem best_alike {a b : List Int} (sa : Sums a) (sb : Sums b) (es : a.sum = b.sum) {v : V} (h : UQ a b v) (hu : unitOf a b = none) {best : Nat → Int} (hb : Best (a.length + b.length) (ms (wOf a b) (a.length + b.length)) best) : Alike a b ↔ best (2 ^ (a.length + b.length) - 1) = 1 := by
  obtain ⟨fmin, fmax, f1, f2, _⟩ := h.2 hu
  have nu : ¬ (Unit a b ∨ Unit b a) := fun q => (unit_iff sa sb).mpr q hu
  exact (alike_of (people_of sa sb es) (List.length_pos_iff.mpr sa.ne) f1 f2 hb nu).2
theorem Bigs.sums {xs : List Int} (h : Bigs xs) (l : xs.length < 41) : Sums xs := ⟨by omega, h.ne, h.pos, h.sm⟩
section
variable {P : Program} {w : World} {K : PySem.W.Frag} {mg : Str → Option Value} {base : Heap}
def spLaw (K : PySem.W.Frag) : Sp := fun vs H Q _ => ∃ (a : Addr) (ns : List Int), vs = [.ref a] ∧ SqL K H a (ns.map V.int) ∧ ns.length ≤ 63 ∧ ∀ H', Q (.bl true) H'
theorem ok_law (T : Tx K mg) : FnOk P w K mg base CX0 10 T.law.f T.law.fd ["_law_script"] (spLaw K) := by
  refine T.law.F.ok sc_law (fun vs H Q E h => ?_) (fun cdv A outer s H vs Q E hr h => ?_)
  · obtain ⟨_, _, rfl, _⟩ := h
    rfl
  · obtain ⟨a, ns, rfl, hs, hl, k⟩ := h
    refine ⟨_, (pss_cons (ps_for PassesOwn.never rfl (pi_range1 (by rfl) T.n_range (pa_cons pe_int pa_nil)) (pg_name (i := 1) sc_law.nd (by rfl) (Or.inl rfl)) (pss_cons (ps_set (i := 2) sc_law.nd (by rfl) (Or.inl rfl) (pe_call (ok_Lsource (P := P) (w := w) (base := base) T) (hr.mono (by decide)) (by rfl) T.g_Lsource T.Lsource.F.kp T.Lsource.b .nil pass0 (pa_cons (pv 0) (pa_cons (pv 1) pa_nil))))
      (pss_cons (ps_set (i := 3) sc_law.nd (by rfl) (Or.inl rfl) (pe_call (ok_Lcrowd (P := P) (w := w) (base := base) T) (hr.mono (by decide)) (by rfl) T.g_Lcrowd T.Lcrowd.F.kp T.Lcrowd.b .nil pass0 (pa_cons (pv 2) (pa_cons pe_int pa_nil))))
      (pss_cons (ps_set (i := 4) sc_law.nd (by rfl) (Or.inl rfl) (pe_call (ok_Lunit (P := P) (w := w) (base := base) T) (hr.mono (by decide)) (by rfl) T.g_Lunit T.Lunit.F.kp T.Lunit.b .nil pass0 (pa_cons (pv 2) pa_nil)))
      (pss_cons (ps_set (i := 5) sc_law.nd (by rfl) (Or.inl rfl) (pe_call (ok_Levening (P := P) (w := w) (base := base) T) (hr.mono (by decide)) (by rfl) T.g_Levening T.Levening.F.kp T.Levening.b .nil pass0 (pa_cons (pv 3) (pa_cons (pv 4) pa_nil))))
      (pss_cons (ps_set (i := 6) sc_law.nd (by rfl) (Or.inl rfl) (pe_call (ok_Ldue (P := P) (w := w) (base := base) T) (hr.mono (by decide)) (by rfl) T.g_Ldue T.Ldue.F.kp T.Ldue.b .nil pass0 (pa_cons (pv 3) (pa_cons (pv 4) pa_nil))))
      (pss_cons (ps_if (pt_not (pt_val (pe_call (ok_Lsame (P := P) (w := w) (base := base) T) (hr.mono (by decide)) (by rfl) T.g_Lsame T.Lsame.F.kp T.Lsame.b .nil pass0 (pa_cons (pe_call (ok_queueunit (P := P) (w := w) (base := base) T) (hr.mono (by decide)) (by rfl) T.g_queueunit T.queueunit.F.kp T.queueunit.b .nil pass0 (pa_cons (pv 5) pa_nil)) (pa_cons (pv 6) pa_nil))))) (pss_one (ps_ret pe_bl)) pss_nil)
      (pss_cons (ps_set (i := 7) sc_law.nd (by rfl) (Or.inl rfl) (pe_cmpR op_eq (pe_callB call_len_seq (by rfl) T.n_len (by decide +kernel) (pa_cons (pe_call (ok_Lqueuenumbers (P := P) (w := w) (base := base) T) (hr.mono (by decide)) (by rfl) T.g_Lqueuenumbers T.Lqueuenumbers.F.kp T.Lqueuenumbers.b .nil pass0 (pa_cons (pv 3) pa_nil)) pa_nil)) pe_int (nomark _)))
      (Evl.pss_cut (ps_if (PW.pt (pw_or (pt_not (pt_val (pe_call (ok_Lflag (P := P) (w := w) (base := base) T) (hr.mono (by decide)) (by rfl) T.g_Lflag T.Lflag.F.kp T.Lflag.b .nil pass0 (pa_cons (pe_call (ok_queuesalike (P := P) (w := w) (base := base) T) (hr.mono (by decide)) (by rfl) T.g_queuesalike T.queuesalike.F.kp T.queuesalike.b .nil pass0 (pa_cons (pv 5) pa_nil)) (pa_cons (pv 7) pa_nil))))) (pw_or1 (pt_cmpR op_ne (pv 7) (pe_or (pe_cmpR op_notN (pv 6) pe_non (nomark _)) (pe_one (pe_cmpR op_eq (pe_call (ok_mostparts (P := P) (w := w) (base := base) T) (hr.mono (by decide)) (by rfl) T.g_mostparts T.mostparts.F.kp T.mostparts.b .nil pass0 (pa_cons (pv 5) pa_nil)) pe_int (nomark _)))) (nomark _))))) (pss_one (ps_ret pe_bl)) pss_nil)
      (pss_cons (ps_set (i := 8) sc_law.nd (by rfl) (Or.inl rfl) (pe_call (ok_Lunitsside (P := P) (w := w) (base := base) T) (hr.mono (by decide)) (by rfl) T.g_Lunitsside T.Lunitsside.F.kp T.Lunitsside.b .nil pass0 (pa_cons (pv 2) pa_nil)))
      (pss_one (ps_if (PW.pt (pw_and (pt_cmpR op_lt (pe_callB call_len_seq (by rfl) T.n_len (by decide +kernel) (pa_cons (pe_ix ix_tup (pv 8) pe_int (fun _ _ => rfl)) pa_nil)) pe_int (nomark _)) (pw_and1 (pt_cmpR op_lt (pe_callB call_len_seq (by rfl) T.n_len (by decide +kernel) (pa_cons (pe_ix ix_tup (pv 8) pe_int (fun _ _ => rfl)) pa_nil)) pe_int (nomark _))))) (pss_cons (ps_set (i := 9) sc_law.nd (by rfl) (Or.inl rfl) (pe_call (ok_Levening (P := P) (w := w) (base := base) T) (hr.mono (by decide)) (by rfl) T.g_Levening T.Levening.F.kp T.Levening.b .nil pass0 (pa_cons (pv 8) (pa_cons (pv 4) pa_nil))))
      (pss_cons (ps_set (i := 6) sc_law.nd (by rfl) (Or.inl rfl) (pe_call (ok_Ldue (P := P) (w := w) (base := base) T) (hr.mono (by decide)) (by rfl) T.g_Ldue T.Ldue.F.kp T.Ldue.b .nil pass0 (pa_cons (pv 8) (pa_cons (pv 4) pa_nil))))
      (pss_cons (ps_if (pt_not (pt_val (pe_call (ok_Lsame (P := P) (w := w) (base := base) T) (hr.mono (by decide)) (by rfl) T.g_Lsame T.Lsame.F.kp T.Lsame.b .nil pass0 (pa_cons (pe_call (ok_queueunit (P := P) (w := w) (base := base) T) (hr.mono (by decide)) (by rfl) T.g_queueunit T.queueunit.F.kp T.queueunit.b .nil pass0 (pa_cons (pv 9) pa_nil)) (pa_cons (pv 6) pa_nil))))) (pss_one (ps_ret pe_bl)) pss_nil)
      (pss_one (ps_if (PW.pt (pw_and (pt_cmpR op_notN (pv 6) pe_non (nomark _)) (pw_and1 (PW.pt (pw_or (pt_not (pt_val (pe_call (ok_Lflag (P := P) (w := w) (base := base) T) (hr.mono (by decide)) (by rfl) T.g_Lflag T.Lflag.F.kp T.Lflag.b .nil pass0 (pa_cons (pe_call (ok_queuesalike (P := P) (w := w) (base := base) T) (hr.mono (by decide)) (by rfl) T.g_queuesalike T.queuesalike.F.kp T.queuesalike.b .nil pass0 (pa_cons (pv 9) pa_nil)) (pa_cons pe_bl pa_nil))))) (pw_or1 (pt_cmpR op_notN (pe_call (ok_unlikequeues (P := P) (w := w) (base := base) T) (hr.mono (by decide)) (by rfl) T.g_unlikequeues T.unlikequeues.F.kp T.unlikequeues.b .nil pass0 (pa_cons (pv 9) pa_nil)) pe_non (nomark _)))))))) (pss_one (ps_ret pe_bl)) pss_nil))))) pss_nil))))))))))))
      (pss_one (ps_ret pe_bl))), ?_⟩
    refine ⟨3, rfl, by decide, by decide, ?_⟩
    refine for_range (lo := 0) (n := 3) (fun i σ H' => ∃ y1 y2 y3 y4 y5 y6 y7 y8 y9 : Option V, σ = [some (.ref a), y1, y2, y3, y4, y5, y6, y7, y8, y9] ∧ Ex H H') ?_ ?_ ?_
    · exact ⟨none, none, none, none, none, none, none, none, none, rfl, Ex.rf H⟩
    · rintro i σ H0 hi ⟨y1, y2, y3, y4, y5, y6, y7, y8, y9, rfl, e0⟩
      rw [Int.zero_add]
      refine ⟨_, rfl, _, rfl, a, ns, i, rfl, ex_l e0 hs, hl, fun S H1 hS0 e1 hSrc => ?_⟩
      refine ⟨_, rfl, S, rfl, hSrc, fun c H2 A1 B1 x2 hc sa sb es hab => ?_⟩
      refine ⟨_, rfl, S, rfl, x2.src, fun v p q H3 hU hv x3 => ?_⟩
      have hc3 := hc.monoT (x3.t x2.src)
      refine ⟨_, rfl, _, rfl, c, v, p, q, A1, B1, rfl, hc3, hv, hU, sa, sb, es, fun e H4 e4 hE => ?_⟩
      have hc4 := hc3.monoT (ExT.of e4)
      have hv4 := hv.mono e4
      refine ⟨_, rfl, _, rfl, c, v, p, q, A1, B1, rfl, hc4, hv4, hU, sa, sb, fun u H5 e5 hu => ?_⟩
      have hE5 := hE.mono e5
      refine ⟨_, rfl, e, p, q, A1, B1, rfl, hE5, hU, sa, sb, es, fun z H6 e6 hz => ⟨_, rfl, z, u, rfl, same_units hz (hu.mono e6), fun H7 e7 => ⟨_, rfl, ?_⟩⟩⟩
      refine iteF (nxt ?_)
      try dsimp only
      have e57 := Ex.tr e6 e7
      have hc7 := hc4.monoT (ExT.of (Ex.tr e5 e57))
      refine ⟨_, rfl, c, A1, B1, rfl, hc7, sa, sb, es, hab, fun pn H8 ns8 e8 hns hal => ⟨pn, _, rfl, .inl (SqL.of hns), rfl, ?_⟩⟩
      rw [List.length_map]
      obtain ⟨al, eal, ial⟩ : ∃ al : Bool, decide (V.int (ns8.length : Int) = V.int 1) = al ∧ (al = true ↔ Alike A1 B1) := by
        refine ⟨_, rfl, ?_⟩
        rw [eq_ints, decide_eq_true_iff, ← hal]
        omega
      rw [eal]
      have e58 := Ex.tr e57 e8
      have x15 : Xs S H1 H5 := ((x2.tr x3).ex e4).ex e5
      refine ⟨fun σ' H' => σ' = [some (.ref a), some (.int i), some (.ref S), some (.ref c), some v, some (.ref e), some u, some (.bl al), y8, y9] ∧ Xs S H1 H' ∧ Fr K H' v (p, q), ?_, ?_⟩
      · refine ⟨_, rfl, e, p, q, A1, B1, rfl, hE5.mono e58, hU, sa, sb, es, .inr (by omega), fun z2 H9 e9 hUQ => ⟨_, rfl, decide (z2 = .non), al, rfl, _, rfl, ?_⟩⟩
        have ua := uq_alike sa sb es hUQ
        have ez : decide (z2 = .non) = al := by
          cases al with
          | true => exact decide_eq_true (ua.mpr (ial.mp rfl))
          | false => exact decide_eq_false fun q => by cases ial.mpr (ua.mp q)
        rw [decide_eq_true ez]
        refine iteF ?_
        have e59 := Ex.tr e58 e9
        refine ⟨_, rfl, _, rfl, rfl, _, rfl, ?_⟩
        rw [hu.non]
        by_cases hun : unitOf A1 B1 = none
        · rw [decide_eq_true hun]
          refine iteF ?_
          refine ⟨_, rfl, e, p, q, A1, B1, rfl, hE5.mono e59, hU, sa, sb, es, by omega, fun f H10 e10 hb => ⟨rfl, rfl, _, rfl, ?_⟩⟩
          have ba := best_alike sa sb es hUQ hun hb
          have eb : decide (V.int (f (2 ^ (A1.length + B1.length) - 1)) = V.int 1) = al := by
            rw [eq_ints]
            cases al with
            | true => exact decide_eq_true (ba.mp (ial.mp rfl))
            | false => exact decide_eq_false fun q => by cases ial.mpr (ba.mpr q)
          rw [eb, decide_eq_true rfl]
          refine iteF (nxt ?_)
          exact ⟨rfl, x15.ex (Ex.tr e59 e10), hv4.mono (Ex.tr e5 (Ex.tr e59 e10))⟩
        · rw [decide_eq_false hun]
          refine iteT ⟨rfl, _, rfl, ?_⟩
          have : al = true := ial.mpr (alike_units sa.pos sb.pos es ((unit_iff sa sb).mp hun))
          rw [this, decide_eq_true rfl]
          refine iteF (nxt ?_)
          exact ⟨rfl, x15.ex e59, hv4.mono (Ex.tr e5 e59)⟩
      · rintro σ' H10 ⟨rfl, x10, hv10⟩
        refine ⟨_, rfl, S, rfl, x10.src, fun c2 H11 A2 B2 x11 hc2 b1 b2 es2 => ?_⟩
        have hv11 := hv10.monoT (x11.t x10.src)
        have x111 := x10.tr x11
        obtain ⟨ca, cb, hc, ha, hb⟩ := id hc2
        have eback : ∀ {H' : Hp}, Ex H11 H' → Ex H H' := fun {H'} x => Ex.tr e0 (Xs.back e1 hS0 (x111.ex x))
        refine ⟨_, rfl, c2, _, 0, _, rfl, rfl, hc, rfl, ca, _, rfl, .inr ha, _, _, rfl, rfl, _, rfl, ?_⟩
        rw [List.length_map]
        refine ite2 (fun l1 => ?_) (fun _ => iteF (nxt ⟨_, _, _, _, _, _, _, _, _, rfl, eback (Ex.rf _)⟩))
        refine ⟨_, rfl, c2, _, 1, _, rfl, rfl, hc, rfl, cb, _, rfl, .inr hb, _, _, rfl, rfl, _, rfl, ?_⟩
        rw [List.length_map]
        refine ite2 (fun l2 => ?_) (fun _ => nxt ⟨_, _, _, _, _, _, _, _, _, rfl, eback (Ex.rf _)⟩)
        have la : A2.length < 41 := by have : (A2.length : Int) < 41 := of_decide_eq_true l1
                                       omega
        have lb : B2.length < 41 := by have : (B2.length : Int) < 41 := of_decide_eq_true l2
                                       omega
        have sa2 := b1.sums la
        have sb2 := b2.sums lb
        refine ⟨_, rfl, _, rfl, c2, v, p, q, A2, B2, rfl, hc2, hv11, hU, sa2, sb2, es2, fun e2 H12 e12 hE2 => ?_⟩
        refine ⟨_, rfl, _, rfl, c2, v, p, q, A2, B2, rfl, hc2.monoT (ExT.of e12), hv11.mono e12, hU, sa2, sb2, fun u2 H13 e13 hu2 => ?_⟩
        have hE13 := hE2.mono e13
        refine ⟨_, rfl, e2, p, q, A2, B2, rfl, hE13, hU, sa2, sb2, es2, fun z3 H14 e14 hz3 => ⟨_, rfl, z3, u2, rfl, same_units hz3 (hu2.mono e14), fun H15 e15 => ⟨_, rfl, ?_⟩⟩⟩
        refine iteF (nxt ?_)
        try dsimp only
        have e1115 := Ex.tr e12 (Ex.tr e13 (Ex.tr e14 e15))
        refine ⟨_, rfl, rfl, _, rfl, ?_⟩
        rw [hu2.non]
        by_cases hun : unitOf A2 B2 = none
        · rw [decide_eq_true hun]
          exact iteF (iteF (nxt ⟨_, _, _, _, _, _, _, _, _, rfl, eback e1115⟩))
        · rw [decide_eq_false hun]
          refine iteT ?_
          have hE15 := hE13.mono (Ex.tr e14 e15)
          refine ⟨_, rfl, e2, p, q, A2, B2, rfl, hE15, hU, sa2, sb2, es2, .inl hun, fun z4 H16 e16 hUQ => ⟨decide (z4 = .non), true, rfl, _, rfl, ?_⟩⟩
          rw [decide_eq_true (hUQ.1 hun), decide_eq_true rfl]
          refine iteF ?_
          refine ⟨_, rfl, e2, p, q, A2, B2, rfl, hE15.mono e16, hU, sa2, sb2, es2, .inl hun, fun z5 H17 e17 hUQ2 => ⟨rfl, _, rfl, ?_⟩⟩
          rw [decide_eq_true (hUQ2.1 hun)]
          exact iteF (nxt ⟨_, _, _, _, _, _, _, _, _, rfl, eback (Ex.tr e1115 (Ex.tr e16 e17))⟩)
    · rintro σ H' ⟨_, _, _, _, _, _, _, _, _, rfl, e'⟩
      exact k H'
end
end K70
end
section
set_option Elab.async false
set_option linter.all false
set_option maxRecDepth 100000
set_option maxHeartbeats 4000000
set_option pp.maxSteps 400
namespace K70
open PySem PySem.Spec PyProof.Rows L2
/-! ### what the top has written, used one by one -/
def HB (x qual : Str) (st : Stmt) (ps : List Str) : Prop := ∀ (kV doc pm : Value) (an : Option Addr) (cdv ct : Value) (us : List Value), us.length = ps.length → bindArgs (PySem.W.fnOf x qual (defArgs st) (defBody st) (defScope st) .none kV doc pm an cdv ct) ⟨us, []⟩ = pure (ps.zip us)
theorem hb_isinteger : HB "is_integer" "is_integer" s_isinteger ["thing"] := fun _ _ _ _ _ _ us hl => match us, hl with | [_], _ => rfl
theorem hb_ispair : HB "is_pair" "is_pair" s_ispair ["thing"] := fun _ _ _ _ _ _ us hl => match us, hl with | [_], _ => rfl
theorem hb_checkmost : HB "check_most" "check_most" s_checkmost ["many", "most"] := fun _ _ _ _ _ _ us hl => match us, hl with | [_, _], _ => rfl
theorem hb_commondivisor : HB "common_divisor" "common_divisor" s_commondivisor ["one", "other"] := fun _ _ _ _ _ _ us hl => match us, hl with | [_, _], _ => rfl
theorem hb_made : HB "made" "made" s_made ["top", "bottom"] := fun _ _ _ _ _ _ us hl => match us, hl with | [_, _], _ => rfl
theorem hb_whole : HB "whole" "whole" s_whole ["number"] := fun _ _ _ _ _ _ us hl => match us, hl with | [_], _ => rfl
theorem hb_plus : HB "plus" "plus" s_plus ["one", "other"] := fun _ _ _ _ _ _ us hl => match us, hl with | [_, _], _ => rfl
theorem hb_minus : HB "minus" "minus" s_minus ["one", "other"] := fun _ _ _ _ _ _ us hl => match us, hl with | [_, _], _ => rfl
theorem hb_times : HB "times" "times" s_times ["one", "other"] := fun _ _ _ _ _ _ us hl => match us, hl with | [_, _], _ => rfl
theorem hb_over : HB "over" "over" s_over ["one", "other"] := fun _ _ _ _ _ _ us hl => match us, hl with | [_, _], _ => rfl
theorem hb_totalof : HB "total_of" "total_of" s_totalof ["fractions"] := fun _ _ _ _ _ _ us hl => match us, hl with | [_], _ => rfl
theorem hb_measureof : HB "measure_of" "measure_of" s_measureof ["amounts"] := fun _ _ _ _ _ _ us hl => match us, hl with | [_], _ => rfl
theorem hb_isfraction : HB "is_fraction" "is_fraction" s_isfraction ["thing"] := fun _ _ _ _ _ _ us hl => match us, hl with | [_], _ => rfl
theorem hb_isamount : HB "is_amount" "is_amount" s_isamount ["thing"] := fun _ _ _ _ _ _ us hl => match us, hl with | [_], _ => rfl
theorem hb_aresums : HB "are_sums" "are_sums" s_aresums ["thing"] := fun _ _ _ _ _ _ us hl => match us, hl with | [_], _ => rfl
theorem hb_Eveninginit : HB "__init__" "Evening.__init__" s_Eveninginit ["self", "owed", "due"] := fun _ _ _ _ _ _ us hl => match us, hl with | [_, _, _], _ => rfl
theorem hb_allsums : HB "all_sums" "all_sums" s_allsums ["evening"] := fun _ _ _ _ _ _ us hl => match us, hl with | [_], _ => rfl
theorem hb_people : HB "people" "people" s_people ["evening"] := fun _ _ _ _ _ _ us hl => match us, hl with | [_], _ => rfl
theorem hb_measure : HB "measure" "measure" s_measure ["evening"] := fun _ _ _ _ _ _ us hl => match us, hl with | [_], _ => rfl
theorem hb_wholesums : HB "whole_sums" "whole_sums" s_wholesums ["evening"] := fun _ _ _ _ _ _ us hl => match us, hl with | [_], _ => rfl
theorem hb_restby : HB "rest_by" "rest_by" s_restby ["sum_here", "amount"] := fun _ _ _ _ _ _ us hl => match us, hl with | [_, _], _ => rfl
theorem hb_fitsunit : HB "fits_unit" "fits_unit" s_fitsunit ["ones", "others"] := fun _ _ _ _ _ _ us hl => match us, hl with | [_, _], _ => rfl
theorem hb_queueunit : HB "queue_unit" "queue_unit" s_queueunit ["evening"] := fun _ _ _ _ _ _ us hl => match us, hl with | [_], _ => rfl
theorem hb_Jointsinit : HB "__init__" "Joints.__init__" s_Jointsinit ["self", "evening"] := fun _ _ _ _ _ _ us hl => match us, hl with | [_, _], _ => rfl
theorem hb_Jointsnextones : HB "next_ones" "Joints.next_ones" s_Jointsnextones ["self", "lot"] := fun _ _ _ _ _ _ us hl => match us, hl with | [_, _], _ => rfl
theorem hb_Jointsfollow : HB "follow" "Joints.follow" s_Jointsfollow ["self", "wants_few"] := fun _ _ _ _ _ _ us hl => match us, hl with | [_, _], _ => rfl
theorem hb_Jointslaterlots : HB "later_lots" "Joints.later_lots" s_Jointslaterlots ["self", "lot"] := fun _ _ _ _ _ _ us hl => match us, hl with | [_, _], _ => rfl
theorem hb_Jointsorders : HB "orders" "Joints.orders" s_Jointsorders ["self", "wants_few"] := fun _ _ _ _ _ _ us hl => match us, hl with | [_, _], _ => rfl
theorem hb_queuesalike : HB "queues_alike" "queues_alike" s_queuesalike ["evening"] := fun _ _ _ _ _ _ us hl => match us, hl with | [_], _ => rfl
theorem hb_unlikequeues : HB "unlike_queues" "unlike_queues" s_unlikequeues ["evening"] := fun _ _ _ _ _ _ us hl => match us, hl with | [_], _ => rfl
theorem hb_unitsof : HB "units_of" "units_of" s_unitsof ["evening"] := fun _ _ _ _ _ _ us hl => match us, hl with | [_], _ => rfl
theorem hb_checkpeople : HB "check_people" "check_people" s_checkpeople ["evening", "most"] := fun _ _ _ _ _ _ us hl => match us, hl with | [_, _], _ => rfl
theorem hb_sumsbymask : HB "sums_by_mask" "sums_by_mask" s_sumsbymask ["evening"] := fun _ _ _ _ _ _ us hl => match us, hl with | [_], _ => rfl
theorem hb_bestof : HB "best_of" "best_of" s_bestof ["sums", "many"] := fun _ _ _ _ _ _ us hl => match us, hl with | [_, _], _ => rfl
theorem hb_bestbymask : HB "best_by_mask" "best_by_mask" s_bestbymask ["evening"] := fun _ _ _ _ _ _ us hl => match us, hl with | [_], _ => rfl
theorem hb_mostparts : HB "most_parts" "most_parts" s_mostparts ["evening"] := fun _ _ _ _ _ _ us hl => match us, hl with | [_], _ => rfl
theorem hb_Lisinteger : HB "_law_is_integer" "_law_is_integer" s_Lisinteger ["_law_thing"] := fun _ _ _ _ _ _ us hl => match us, hl with | [_], _ => rfl
theorem hb_Lsource : HB "_law_source" "_law_source" s_Lsource ["_law_script", "_law_k"] := fun _ _ _ _ _ _ us hl => match us, hl with | [_, _], _ => rfl
theorem hb_Ldraw : HB "_law_draw" "_law_draw" s_Ldraw ["_law_source_here", "_law_many"] := fun _ _ _ _ _ _ us hl => match us, hl with | [_, _], _ => rfl
theorem hb_Lmade : HB "_law_made" "_law_made" s_Lmade ["_law_top", "_law_bottom"] := fun _ _ _ _ _ _ us hl => match us, hl with | [_, _], _ => rfl
theorem hb_Lunit : HB "_law_unit" "_law_unit" s_Lunit ["_law_source_here"] := fun _ _ _ _ _ _ us hl => match us, hl with | [_], _ => rfl
theorem hb_Ltimes : HB "_law_times" "_law_times" s_Ltimes ["_law_number", "_law_unit_here"] := fun _ _ _ _ _ _ us hl => match us, hl with | [_, _], _ => rfl
theorem hb_Lsplit : HB "_law_split" "_law_split" s_Lsplit ["_law_source_here", "_law_whole", "_law_many"] := fun _ _ _ _ _ _ us hl => match us, hl with | [_, _, _], _ => rfl
theorem hb_Lperm : HB "_law_perm" "_law_perm" s_Lperm ["_law_source_here", "_law_many"] := fun _ _ _ _ _ _ us hl => match us, hl with | [_, _], _ => rfl
theorem hb_Lside : HB "_law_side" "_law_side" s_Lside ["_law_source_here", "_law_many"] := fun _ _ _ _ _ _ us hl => match us, hl with | [_, _], _ => rfl
theorem hb_Lsums : HB "_law_sums" "_law_sums" s_Lsums ["_law_source_here", "_law_owers", "_law_takers"] := fun _ _ _ _ _ _ us hl => match us, hl with | [_, _, _], _ => rfl
theorem hb_Lcrowd : HB "_law_crowd" "_law_crowd" s_Lcrowd ["_law_source_here", "_law_most"] := fun _ _ _ _ _ _ us hl => match us, hl with | [_, _], _ => rfl
theorem hb_Levening : HB "_law_evening" "_law_evening" s_Levening ["_law_sums_here", "_law_unit_here"] := fun _ _ _ _ _ _ us hl => match us, hl with | [_, _], _ => rfl
theorem hb_Lpay : HB "_law_pay" "_law_pay" s_Lpay ["_law_state", "_law_pair"] := fun _ _ _ _ _ _ us hl => match us, hl with | [_, _], _ => rfl
theorem hb_Lflag : HB "_law_flag" "_law_flag" s_Lflag ["_law_told", "_law_due_here"] := fun _ _ _ _ _ _ us hl => match us, hl with | [_, _], _ => rfl
theorem hb_Lsame : HB "_law_same" "_law_same" s_Lsame ["_law_told", "_law_due_here"] := fun _ _ _ _ _ _ us hl => match us, hl with | [_, _], _ => rfl
theorem hb_Lorders : HB "_law_orders" "_law_orders" s_Lorders ["_law_many"] := fun _ _ _ _ _ _ us hl => match us, hl with | [_], _ => rfl
theorem hb_Lqueueway : HB "_law_queue_way" "_law_queue_way" s_Lqueueway ["_law_sums_here", "_law_owers", "_law_takers"] := fun _ _ _ _ _ _ us hl => match us, hl with | [_, _, _], _ => rfl
theorem hb_Lqueueunit : HB "_law_queue_unit" "_law_queue_unit" s_Lqueueunit ["_law_sums_here"] := fun _ _ _ _ _ _ us hl => match us, hl with | [_], _ => rfl
theorem hb_Lqueuenumbers : HB "_law_queue_numbers" "_law_queue_numbers" s_Lqueuenumbers ["_law_sums_here"] := fun _ _ _ _ _ _ us hl => match us, hl with | [_], _ => rfl
theorem hb_Lunitsside : HB "_law_units_side" "_law_units_side" s_Lunitsside ["_law_source_here"] := fun _ _ _ _ _ _ us hl => match us, hl with | [_], _ => rfl
theorem hb_Ldue : HB "_law_due" "_law_due" s_Ldue ["_law_sums_here", "_law_unit_here"] := fun _ _ _ _ _ _ us hl => match us, hl with | [_, _], _ => rfl
theorem hb_law : HB "law" "law" s_law ["_law_script"] := fun _ _ _ _ _ _ us hl => match us, hl with | [_], _ => rfl
section
variable {K : PySem.W.Frag} {h : Heap} {mg : Str → Option Value} {goal : Prop} {x qual : Str} {st : Stmt} {ps : List Str} {f C : Addr} {od an : Option Addr} {sl : Array (Option Value)} {oc kV dc pm cd ct : Value}
theorem dn_use (X : K.In h) (G : h.Ns mainGlobals mg) (hb : HB x qual st ps) (a : PySem.W.nsIn K mainGlobals x = some (some (.ref f)))
    (l : K.lookup f = some ⟨oc, od, .func (PySem.W.fnOf x qual (defArgs st) (defBody st) (defScope st) .none kV dc pm an cd ct), sl⟩) (c : PySem.W.codeIn K cd qual = true) (k : PySem.W.keepIn K (.ref f) = true)
    (next : ∀ D : Dn K x qual st ps, mg x = some (.ref D.f) → (∀ (s : Shared) (us : List Value), us.length = ps.length → BindsTo s D.fd ⟨us, []⟩ (ps.zip us)) → goal) : goal :=
  have F := fun_mk (st := st) l c k
  next ⟨f, _, F, F.binds hb⟩ (PySem.W.mg_of X G a) fun s us hl => .of_eq (hb _ _ _ _ _ _ us hl)
theorem dm_useC (_ : Cls K C) (hb : HB x qual st ps) (a : PySem.W.findIn K (.ref C) x = some (some (.ref f))) (i : PySem.W.isFn K (.ref f) = true)
    (l : K.lookup f = some ⟨oc, od, .func (PySem.W.fnOf x qual (defArgs st) (defBody st) (defScope st) .none kV dc pm an cd ct), sl⟩) (c : PySem.W.codeIn K cd qual = true) (k : PySem.W.keepIn K (.ref f) = true)
    (next : ∀ D : Dn K x qual st ps, Meth K C x D.f → goal) : goal :=
  have F := fun_mk (st := st) l c k
  next ⟨f, _, F, F.binds hb⟩ ⟨a, i, k⟩
theorem cls_use (X : K.In h) (G : h.Ns mainGlobals mg) (a : PySem.W.nsIn K mainGlobals x = some (some (.ref C))) (pg : PySem.W.plainGet K C Str.empty = true) (hd : PySem.W.hasDictIn K C = true) (po : PySem.W.plainOver K C = true)
    (sa : PySem.W.findIn K (.ref C) "__setattr__" = some (some (.builtin "object.__setattr__"))) (mk : PySem.W.makesIn K C = true) (kc : PySem.W.keepIn K (.ref C) = true)
    (next : Cls K C → mg x = some (.ref C) → PySem.W.makesIn K C = true → PySem.W.keepIn K (.ref C) = true → goal) : goal := next ⟨pg, hd, po, sa⟩ (PySem.W.mg_of X G a) mk kc
theorem no_use (_ : Cls K C) (n : PySem.W.findIn K (.ref C) x = some none) (next : NoAttr K C x → goal) : goal := next n
theorem fr_use (X : K.In h) (G : h.Ns mainGlobals mg) (e : PySem.W.nsIn K mainGlobals x = some none) (next : mg x = none → goal) : goal := next (PySem.W.mg_none_of X G e)
theorem int_use {i : Int} {t : Tok} (X : K.In h) (G : h.Ns mainGlobals mg) (e : PySem.W.nsIn K mainGlobals x = some (some (.int i t))) (next : mg x = some (.int i t) → goal) : goal := next (PySem.W.mg_of X G e)
theorem zero_use {z : Addr} {t0 t1 : Tok} {n : Nat} (X : K.In h) (G : h.Ns mainGlobals mg) (e : PySem.W.nsIn K mainGlobals x = some (some (.ref z))) (l : K.lookup z = some ⟨.type "tuple", od, .seq #[.int 0 t0, .int 1 t1] n, sl⟩)
    (next : mg x = some (.ref z) → (∀ H, SqT K H z [.int 0, .int 1]) → goal) : goal :=
  next (PySem.W.mg_of X G e) fun H => .inr ⟨_, _, n, l, rfl, rfl, by show 2 ≤ sizeLine; decide, .cons ⟨_, rfl⟩ (.cons ⟨_, rfl⟩ .nil)⟩
end
theorem fin {l : PySem.W.OpenLaw} {w : World} {K : PySem.W.Frag} {mg : Str → Option Value} {fa : Addr} (hmg : mg "law" = some (.ref fa)) (T : Tx K mg) (hb : ∀ (s : Shared) (us : List Value), us.length = [("_law_script" : Str)].length → BindsTo s T.law.fd ⟨us, []⟩ ([("_law_script" : Str)].zip us)) :
    ∃ fd : FuncData, (∀ (s : Shared) (u : Value), BindsTo s fd ⟨[u], []⟩ [("_law_script", u)]) ∧ ∀ base : Heap, K.In base → base.Ns mainGlobals mg → FnOk l.prog w K mg base CX0 10 fa fd ["_law_script"] (spLaw K) := by
  have e := hmg.symm.trans T.g_law
  cases e
  exact ⟨T.law.fd, fun s u => hb s [u] rfl, fun base _ _ => ok_law T⟩
theorem walk {l : PySem.W.OpenLaw} {q : Program} {loose : List Str} {XP : (Str → Option Value) → Heap → Prop} {YP : World → Heap → Prop} {d : DefRec} {K : Params → PySem.W.Frag} (hn : l.most = some 63) (hdf : d.params.defaults = [])
    (hY : ∀ (w : World) (h : Heap), YP w h → (K w.params).In h)
    (F : ∀ (w : World) (mg : Str → Option Value) (fa : Addr) (h : Heap), (K w.params).In h → h.Ns mainGlobals mg → mg d.name = some (.ref fa) →
      ∃ fd : FuncData, (∀ (s : Shared) (u : Value), BindsTo s fd ⟨[u], []⟩ [("_law_script", u)]) ∧ ∀ base : Heap, (K w.params).In base → base.Ns mainGlobals mg → FnOk l.prog w (K w.params) mg base CX0 10 fa fd ["_law_script"] (spLaw (K w.params))) :
    PySem.W.WalkO q loose XP YP l.row.toRowW d [] (fun f vs => PySem.call f vs) :=
  L2.walk_of (n := 63) (k := 10) (x := "_law_script") (CX := fun _ => CX0) (sp := fun w => spLaw (K w.params)) hn (by decide) hdf ⟨rfl, by decide, by decide⟩ hY F (fun _ _ a ns hl _ hS => ⟨a, ns, rfl, hS, hl, fun _ => rfl⟩) fun _ _ _ _ _ z => z
end K70
end
section
set_option Elab.async false
set_option linter.all false
open PySem PySem.W PyProof.Rows in
set_option maxRecDepth 100000 in
set_option maxHeartbeats 0 in
theorem PySem.Challenge.cw_quitsways_k70_whole_queue_units_and_alik_holds : PySem.Challenge.rw_quitsways_k70_whole_queue_units_and_alik.Holds := by
  w_on; o_law; k_head; (case hw => w_witness2)
  k_fill
  refine K70.walk (l := PySem.Challenge.rw_quitsways_k70_whole_queue_units_and_alik) rfl rfl (fun w h Y => PySem.W.kIn_of Y) ?F
  case F =>
    intro w mg fa h KX G hmg
    refine' K70.cls_use (x := "Evening") KX G ?a1 ?pg1 ?hd1 ?po1 ?sa1 ?mk1 ?kc1 ?nx1; (case a1 => k_is); (case pg1 => k_is); (case hd1 => k_is); (case po1 => k_is); (case sa1 => k_is); (case mk1 => k_is); (case kc1 => k_is); intro cl_Evening c_Evening mk0_Evening kc_Evening
    refine' K70.no_use (x := "owed") cl_Evening ?n2 ?nx2; (case n2 => k_is); intro a_Evening_owed
    refine' K70.no_use (x := "due") cl_Evening ?n3 ?nx3; (case n3 => k_is); intro a_Evening_due
    refine' K70.cls_use (x := "Joints") KX G ?a4 ?pg4 ?hd4 ?po4 ?sa4 ?mk4 ?kc4 ?nx4; (case a4 => k_is); (case pg4 => k_is); (case hd4 => k_is); (case po4 => k_is); (case sa4 => k_is); (case mk4 => k_is); (case kc4 => k_is); intro cl_Joints c_Joints mk0_Joints kc_Joints
    refine' K70.no_use (x := "many") cl_Joints ?n5 ?nx5; (case n5 => k_is); intro a_Joints_many
    refine' K70.no_use (x := "everyone") cl_Joints ?n6 ?nx6; (case n6 => k_is); intro a_Joints_everyone
    refine' K70.no_use (x := "gaps") cl_Joints ?n7 ?nx7; (case n7 => k_is); intro a_Joints_gaps
    refine' K70.no_use (x := "everybody") cl_Joints ?n8 ?nx8; (case n8 => k_is); intro a_Joints_everybody
    refine' K70.dn_use KX G K70.hb_isinteger ?a9 ?l9 ?c9 ?k9 ?nx9; (case a9 => k_is); (case l9 => k_is); (case c9 => k_is); (case k9 => k_is); intro isinteger g_isinteger _
    refine' K70.dn_use KX G K70.hb_ispair ?a10 ?l10 ?c10 ?k10 ?nx10; (case a10 => k_is); (case l10 => k_is); (case c10 => k_is); (case k10 => k_is); intro ispair g_ispair _
    refine' K70.dn_use KX G K70.hb_checkmost ?a11 ?l11 ?c11 ?k11 ?nx11; (case a11 => k_is); (case l11 => k_is); (case c11 => k_is); (case k11 => k_is); intro checkmost g_checkmost _
    refine' K70.dn_use KX G K70.hb_commondivisor ?a12 ?l12 ?c12 ?k12 ?nx12; (case a12 => k_is); (case l12 => k_is); (case c12 => k_is); (case k12 => k_is); intro commondivisor g_commondivisor _
    refine' K70.dn_use KX G K70.hb_made ?a13 ?l13 ?c13 ?k13 ?nx13; (case a13 => k_is); (case l13 => k_is); (case c13 => k_is); (case k13 => k_is); intro made g_made _
    refine' K70.dn_use KX G K70.hb_whole ?a14 ?l14 ?c14 ?k14 ?nx14; (case a14 => k_is); (case l14 => k_is); (case c14 => k_is); (case k14 => k_is); intro whole g_whole _
    refine' K70.dn_use KX G K70.hb_plus ?a15 ?l15 ?c15 ?k15 ?nx15; (case a15 => k_is); (case l15 => k_is); (case c15 => k_is); (case k15 => k_is); intro plus g_plus _
    refine' K70.dn_use KX G K70.hb_minus ?a16 ?l16 ?c16 ?k16 ?nx16; (case a16 => k_is); (case l16 => k_is); (case c16 => k_is); (case k16 => k_is); intro minus g_minus _
    refine' K70.dn_use KX G K70.hb_times ?a17 ?l17 ?c17 ?k17 ?nx17; (case a17 => k_is); (case l17 => k_is); (case c17 => k_is); (case k17 => k_is); intro times g_times _
    refine' K70.dn_use KX G K70.hb_over ?a18 ?l18 ?c18 ?k18 ?nx18; (case a18 => k_is); (case l18 => k_is); (case c18 => k_is); (case k18 => k_is); intro over g_over _
    refine' K70.dn_use KX G K70.hb_totalof ?a19 ?l19 ?c19 ?k19 ?nx19; (case a19 => k_is); (case l19 => k_is); (case c19 => k_is); (case k19 => k_is); intro totalof g_totalof _
    refine' K70.dn_use KX G K70.hb_measureof ?a20 ?l20 ?c20 ?k20 ?nx20; (case a20 => k_is); (case l20 => k_is); (case c20 => k_is); (case k20 => k_is); intro measureof g_measureof _
    refine' K70.dn_use KX G K70.hb_isfraction ?a21 ?l21 ?c21 ?k21 ?nx21; (case a21 => k_is); (case l21 => k_is); (case c21 => k_is); (case k21 => k_is); intro isfraction g_isfraction _
    refine' K70.dn_use KX G K70.hb_isamount ?a22 ?l22 ?c22 ?k22 ?nx22; (case a22 => k_is); (case l22 => k_is); (case c22 => k_is); (case k22 => k_is); intro isamount g_isamount _
    refine' K70.dn_use KX G K70.hb_aresums ?a23 ?l23 ?c23 ?k23 ?nx23; (case a23 => k_is); (case l23 => k_is); (case c23 => k_is); (case k23 => k_is); intro aresums g_aresums _
    refine' K70.dm_useC cl_Evening K70.hb_Eveninginit ?a24 ?i24 ?l24 ?c24 ?k24 ?nx24; (case a24 => k_is); (case i24 => k_is); (case l24 => k_is); (case c24 => k_is); (case k24 => k_is); intro Eveninginit m_Eveninginit
    refine' K70.dn_use KX G K70.hb_allsums ?a25 ?l25 ?c25 ?k25 ?nx25; (case a25 => k_is); (case l25 => k_is); (case c25 => k_is); (case k25 => k_is); intro allsums g_allsums _
    refine' K70.dn_use KX G K70.hb_people ?a26 ?l26 ?c26 ?k26 ?nx26; (case a26 => k_is); (case l26 => k_is); (case c26 => k_is); (case k26 => k_is); intro people g_people _
    refine' K70.dn_use KX G K70.hb_measure ?a27 ?l27 ?c27 ?k27 ?nx27; (case a27 => k_is); (case l27 => k_is); (case c27 => k_is); (case k27 => k_is); intro measure g_measure _
    refine' K70.dn_use KX G K70.hb_wholesums ?a28 ?l28 ?c28 ?k28 ?nx28; (case a28 => k_is); (case l28 => k_is); (case c28 => k_is); (case k28 => k_is); intro wholesums g_wholesums _
    refine' K70.dn_use KX G K70.hb_restby ?a29 ?l29 ?c29 ?k29 ?nx29; (case a29 => k_is); (case l29 => k_is); (case c29 => k_is); (case k29 => k_is); intro restby g_restby _
    refine' K70.dn_use KX G K70.hb_fitsunit ?a30 ?l30 ?c30 ?k30 ?nx30; (case a30 => k_is); (case l30 => k_is); (case c30 => k_is); (case k30 => k_is); intro fitsunit g_fitsunit _
    refine' K70.dn_use KX G K70.hb_queueunit ?a31 ?l31 ?c31 ?k31 ?nx31; (case a31 => k_is); (case l31 => k_is); (case c31 => k_is); (case k31 => k_is); intro queueunit g_queueunit _
    refine' K70.dm_useC cl_Joints K70.hb_Jointsinit ?a32 ?i32 ?l32 ?c32 ?k32 ?nx32; (case a32 => k_is); (case i32 => k_is); (case l32 => k_is); (case c32 => k_is); (case k32 => k_is); intro Jointsinit m_Jointsinit
    refine' K70.dm_useC cl_Joints K70.hb_Jointsnextones ?a33 ?i33 ?l33 ?c33 ?k33 ?nx33; (case a33 => k_is); (case i33 => k_is); (case l33 => k_is); (case c33 => k_is); (case k33 => k_is); intro Jointsnextones m_Jointsnextones
    refine' K70.dm_useC cl_Joints K70.hb_Jointsfollow ?a34 ?i34 ?l34 ?c34 ?k34 ?nx34; (case a34 => k_is); (case i34 => k_is); (case l34 => k_is); (case c34 => k_is); (case k34 => k_is); intro Jointsfollow m_Jointsfollow
    refine' K70.dm_useC cl_Joints K70.hb_Jointslaterlots ?a35 ?i35 ?l35 ?c35 ?k35 ?nx35; (case a35 => k_is); (case i35 => k_is); (case l35 => k_is); (case c35 => k_is); (case k35 => k_is); intro Jointslaterlots m_Jointslaterlots
    refine' K70.dm_useC cl_Joints K70.hb_Jointsorders ?a36 ?i36 ?l36 ?c36 ?k36 ?nx36; (case a36 => k_is); (case i36 => k_is); (case l36 => k_is); (case c36 => k_is); (case k36 => k_is); intro Jointsorders m_Jointsorders
    refine' K70.dn_use KX G K70.hb_queuesalike ?a37 ?l37 ?c37 ?k37 ?nx37; (case a37 => k_is); (case l37 => k_is); (case c37 => k_is); (case k37 => k_is); intro queuesalike g_queuesalike _
    refine' K70.dn_use KX G K70.hb_unlikequeues ?a38 ?l38 ?c38 ?k38 ?nx38; (case a38 => k_is); (case l38 => k_is); (case c38 => k_is); (case k38 => k_is); intro unlikequeues g_unlikequeues _
    refine' K70.dn_use KX G K70.hb_unitsof ?a39 ?l39 ?c39 ?k39 ?nx39; (case a39 => k_is); (case l39 => k_is); (case c39 => k_is); (case k39 => k_is); intro unitsof g_unitsof _
    refine' K70.dn_use KX G K70.hb_checkpeople ?a40 ?l40 ?c40 ?k40 ?nx40; (case a40 => k_is); (case l40 => k_is); (case c40 => k_is); (case k40 => k_is); intro checkpeople g_checkpeople _
    refine' K70.dn_use KX G K70.hb_sumsbymask ?a41 ?l41 ?c41 ?k41 ?nx41; (case a41 => k_is); (case l41 => k_is); (case c41 => k_is); (case k41 => k_is); intro sumsbymask g_sumsbymask _
    refine' K70.dn_use KX G K70.hb_bestof ?a42 ?l42 ?c42 ?k42 ?nx42; (case a42 => k_is); (case l42 => k_is); (case c42 => k_is); (case k42 => k_is); intro bestof g_bestof _
    refine' K70.dn_use KX G K70.hb_bestbymask ?a43 ?l43 ?c43 ?k43 ?nx43; (case a43 => k_is); (case l43 => k_is); (case c43 => k_is); (case k43 => k_is); intro bestbymask g_bestbymask _
    refine' K70.dn_use KX G K70.hb_mostparts ?a44 ?l44 ?c44 ?k44 ?nx44; (case a44 => k_is); (case l44 => k_is); (case c44 => k_is); (case k44 => k_is); intro mostparts g_mostparts _
    refine' K70.dn_use KX G K70.hb_Lisinteger ?a45 ?l45 ?c45 ?k45 ?nx45; (case a45 => k_is); (case l45 => k_is); (case c45 => k_is); (case k45 => k_is); intro Lisinteger g_Lisinteger _
    refine' K70.dn_use KX G K70.hb_Lsource ?a46 ?l46 ?c46 ?k46 ?nx46; (case a46 => k_is); (case l46 => k_is); (case c46 => k_is); (case k46 => k_is); intro Lsource g_Lsource _
    refine' K70.dn_use KX G K70.hb_Ldraw ?a47 ?l47 ?c47 ?k47 ?nx47; (case a47 => k_is); (case l47 => k_is); (case c47 => k_is); (case k47 => k_is); intro Ldraw g_Ldraw _
    refine' K70.dn_use KX G K70.hb_Lmade ?a48 ?l48 ?c48 ?k48 ?nx48; (case a48 => k_is); (case l48 => k_is); (case c48 => k_is); (case k48 => k_is); intro Lmade g_Lmade _
    refine' K70.dn_use KX G K70.hb_Lunit ?a49 ?l49 ?c49 ?k49 ?nx49; (case a49 => k_is); (case l49 => k_is); (case c49 => k_is); (case k49 => k_is); intro Lunit g_Lunit _
    refine' K70.dn_use KX G K70.hb_Ltimes ?a50 ?l50 ?c50 ?k50 ?nx50; (case a50 => k_is); (case l50 => k_is); (case c50 => k_is); (case k50 => k_is); intro Ltimes g_Ltimes _
    refine' K70.dn_use KX G K70.hb_Lsplit ?a51 ?l51 ?c51 ?k51 ?nx51; (case a51 => k_is); (case l51 => k_is); (case c51 => k_is); (case k51 => k_is); intro Lsplit g_Lsplit _
    refine' K70.dn_use KX G K70.hb_Lperm ?a52 ?l52 ?c52 ?k52 ?nx52; (case a52 => k_is); (case l52 => k_is); (case c52 => k_is); (case k52 => k_is); intro Lperm g_Lperm _
    refine' K70.dn_use KX G K70.hb_Lside ?a53 ?l53 ?c53 ?k53 ?nx53; (case a53 => k_is); (case l53 => k_is); (case c53 => k_is); (case k53 => k_is); intro Lside g_Lside _
    refine' K70.dn_use KX G K70.hb_Lsums ?a54 ?l54 ?c54 ?k54 ?nx54; (case a54 => k_is); (case l54 => k_is); (case c54 => k_is); (case k54 => k_is); intro Lsums g_Lsums _
    refine' K70.dn_use KX G K70.hb_Lcrowd ?a55 ?l55 ?c55 ?k55 ?nx55; (case a55 => k_is); (case l55 => k_is); (case c55 => k_is); (case k55 => k_is); intro Lcrowd g_Lcrowd _
    refine' K70.dn_use KX G K70.hb_Levening ?a56 ?l56 ?c56 ?k56 ?nx56; (case a56 => k_is); (case l56 => k_is); (case c56 => k_is); (case k56 => k_is); intro Levening g_Levening _
    refine' K70.dn_use KX G K70.hb_Lpay ?a57 ?l57 ?c57 ?k57 ?nx57; (case a57 => k_is); (case l57 => k_is); (case c57 => k_is); (case k57 => k_is); intro Lpay g_Lpay _
    refine' K70.dn_use KX G K70.hb_Lflag ?a58 ?l58 ?c58 ?k58 ?nx58; (case a58 => k_is); (case l58 => k_is); (case c58 => k_is); (case k58 => k_is); intro Lflag g_Lflag _
    refine' K70.dn_use KX G K70.hb_Lsame ?a59 ?l59 ?c59 ?k59 ?nx59; (case a59 => k_is); (case l59 => k_is); (case c59 => k_is); (case k59 => k_is); intro Lsame g_Lsame _
    refine' K70.dn_use KX G K70.hb_Lorders ?a60 ?l60 ?c60 ?k60 ?nx60; (case a60 => k_is); (case l60 => k_is); (case c60 => k_is); (case k60 => k_is); intro Lorders g_Lorders _
    refine' K70.dn_use KX G K70.hb_Lqueueway ?a61 ?l61 ?c61 ?k61 ?nx61; (case a61 => k_is); (case l61 => k_is); (case c61 => k_is); (case k61 => k_is); intro Lqueueway g_Lqueueway _
    refine' K70.dn_use KX G K70.hb_Lqueueunit ?a62 ?l62 ?c62 ?k62 ?nx62; (case a62 => k_is); (case l62 => k_is); (case c62 => k_is); (case k62 => k_is); intro Lqueueunit g_Lqueueunit _
    refine' K70.dn_use KX G K70.hb_Lqueuenumbers ?a63 ?l63 ?c63 ?k63 ?nx63; (case a63 => k_is); (case l63 => k_is); (case c63 => k_is); (case k63 => k_is); intro Lqueuenumbers g_Lqueuenumbers _
    refine' K70.dn_use KX G K70.hb_Lunitsside ?a64 ?l64 ?c64 ?k64 ?nx64; (case a64 => k_is); (case l64 => k_is); (case c64 => k_is); (case k64 => k_is); intro Lunitsside g_Lunitsside _
    refine' K70.dn_use KX G K70.hb_Ldue ?a65 ?l65 ?c65 ?k65 ?nx65; (case a65 => k_is); (case l65 => k_is); (case c65 => k_is); (case k65 => k_is); intro Ldue g_Ldue _
    refine' K70.dn_use KX G K70.hb_law ?a66 ?l66 ?c66 ?k66 ?nx66; (case a66 => k_is); (case l66 => k_is); (case c66 => k_is); (case k66 => k_is); intro law g_law hbLaw
    refine' K70.fr_use (x := "len") KX G ?e67 ?nx67; (case e67 => k_is); intro n_len
    refine' K70.fr_use (x := "abs") KX G ?e68 ?nx68; (case e68 => k_is); intro n_abs
    refine' K70.fr_use (x := "min") KX G ?e69 ?nx69; (case e69 => k_is); intro n_min
    refine' K70.fr_use (x := "max") KX G ?e70 ?nx70; (case e70 => k_is); intro n_max
    refine' K70.fr_use (x := "sum") KX G ?e71 ?nx71; (case e71 => k_is); intro n_sum
    refine' K70.fr_use (x := "all") KX G ?e72 ?nx72; (case e72 => k_is); intro n_all
    refine' K70.fr_use (x := "sorted") KX G ?e73 ?nx73; (case e73 => k_is); intro n_sorted
    refine' K70.fr_use (x := "isinstance") KX G ?e74 ?nx74; (case e74 => k_is); intro n_isinstance
    refine' K70.fr_use (x := "int") KX G ?e75 ?nx75; (case e75 => k_is); intro n_int
    refine' K70.fr_use (x := "bool") KX G ?e76 ?nx76; (case e76 => k_is); intro n_bool
    refine' K70.fr_use (x := "str") KX G ?e77 ?nx77; (case e77 => k_is); intro n_str
    refine' K70.fr_use (x := "list") KX G ?e78 ?nx78; (case e78 => k_is); intro n_list
    refine' K70.fr_use (x := "tuple") KX G ?e79 ?nx79; (case e79 => k_is); intro n_tuple
    refine' K70.fr_use (x := "range") KX G ?e80 ?nx80; (case e80 => k_is); intro n_range
    refine' K70.fr_use (x := "zip") KX G ?e81 ?nx81; (case e81 => k_is); intro n_zip
    refine' K70.int_use (x := "MOST_SIDE") (i := 100) KX G ?e82 ?nx82; (case e82 => k_is); intro v_MOST_SIDE
    refine' K70.int_use (x := "MOST_JOINED") (i := 14) KX G ?e83 ?nx83; (case e83 => k_is); intro v_MOST_JOINED
    refine' K70.int_use (x := "MOST_PEOPLE") (i := 14) KX G ?e84 ?nx84; (case e84 => k_is); intro v_MOST_PEOPLE
    refine' K70.zero_use (x := "ZERO") KX G ?e85 ?l85 ?nx85; (case e85 => k_is); (case l85 => k_is); intro v_ZERO zT
    exact K70.fin hmg { cl_Evening := cl_Evening, c_Evening := c_Evening, a_Evening_owed := a_Evening_owed, a_Evening_due := a_Evening_due, cl_Joints := cl_Joints, c_Joints := c_Joints, a_Joints_many := a_Joints_many, a_Joints_everyone := a_Joints_everyone, a_Joints_gaps := a_Joints_gaps, a_Joints_everybody := a_Joints_everybody, isinteger := isinteger, g_isinteger := g_isinteger, ispair := ispair, g_ispair := g_ispair, checkmost := checkmost, g_checkmost := g_checkmost, commondivisor := commondivisor, g_commondivisor := g_commondivisor, made := made, g_made := g_made, whole := whole, g_whole := g_whole, plus := plus, g_plus := g_plus, minus := minus, g_minus := g_minus, times := times, g_times := g_times, over := over, g_over := g_over, totalof := totalof, g_totalof := g_totalof, measureof := measureof, g_measureof := g_measureof, isfraction := isfraction, g_isfraction := g_isfraction, isamount := isamount, g_isamount := g_isamount, aresums := aresums, g_aresums := g_aresums, Eveninginit := Eveninginit, CEvening := _, mk_Evening := ⟨mk0_Evening, m_Eveninginit.at_, m_Eveninginit.fn, kc_Evening⟩, allsums := allsums, g_allsums := g_allsums, people := people, g_people := g_people, measure := measure, g_measure := g_measure, wholesums := wholesums, g_wholesums := g_wholesums, restby := restby, g_restby := g_restby, fitsunit := fitsunit, g_fitsunit := g_fitsunit, queueunit := queueunit, g_queueunit := g_queueunit, Jointsinit := Jointsinit, CJoints := _, mk_Joints := ⟨mk0_Joints, m_Jointsinit.at_, m_Jointsinit.fn, kc_Joints⟩, Jointsnextones := Jointsnextones, m_Jointsnextones := m_Jointsnextones, Jointsfollow := Jointsfollow, m_Jointsfollow := m_Jointsfollow, Jointslaterlots := Jointslaterlots, m_Jointslaterlots := m_Jointslaterlots, Jointsorders := Jointsorders, m_Jointsorders := m_Jointsorders, queuesalike := queuesalike, g_queuesalike := g_queuesalike, unlikequeues := unlikequeues, g_unlikequeues := g_unlikequeues, unitsof := unitsof, g_unitsof := g_unitsof, checkpeople := checkpeople, g_checkpeople := g_checkpeople, sumsbymask := sumsbymask, g_sumsbymask := g_sumsbymask, bestof := bestof, g_bestof := g_bestof, bestbymask := bestbymask, g_bestbymask := g_bestbymask, mostparts := mostparts, g_mostparts := g_mostparts, Lisinteger := Lisinteger, g_Lisinteger := g_Lisinteger, Lsource := Lsource, g_Lsource := g_Lsource, Ldraw := Ldraw, g_Ldraw := g_Ldraw, Lmade := Lmade, g_Lmade := g_Lmade, Lunit := Lunit, g_Lunit := g_Lunit, Ltimes := Ltimes, g_Ltimes := g_Ltimes, Lsplit := Lsplit, g_Lsplit := g_Lsplit, Lperm := Lperm, g_Lperm := g_Lperm, Lside := Lside, g_Lside := g_Lside, Lsums := Lsums, g_Lsums := g_Lsums, Lcrowd := Lcrowd, g_Lcrowd := g_Lcrowd, Levening := Levening, g_Levening := g_Levening, Lpay := Lpay, g_Lpay := g_Lpay, Lflag := Lflag, g_Lflag := g_Lflag, Lsame := Lsame, g_Lsame := g_Lsame, Lorders := Lorders, g_Lorders := g_Lorders, Lqueueway := Lqueueway, g_Lqueueway := g_Lqueueway, Lqueueunit := Lqueueunit, g_Lqueueunit := g_Lqueueunit, Lqueuenumbers := Lqueuenumbers, g_Lqueuenumbers := g_Lqueuenumbers, Lunitsside := Lunitsside, g_Lunitsside := g_Lunitsside, Ldue := Ldue, g_Ldue := g_Ldue, law := law, g_law := g_law, n_len := n_len, n_abs := n_abs, n_min := n_min, n_max := n_max, n_sum := n_sum, n_all := n_all, n_sorted := n_sorted, n_isinstance := n_isinstance, n_int := n_int, n_bool := n_bool, n_str := n_str, n_list := n_list, n_tuple := n_tuple, n_range := n_range, n_zip := n_zip, k_MOST_SIDE := _, v_MOST_SIDE := v_MOST_SIDE, k_MOST_JOINED := _, v_MOST_JOINED := v_MOST_JOINED, k_MOST_PEOPLE := _, v_MOST_PEOPLE := v_MOST_PEOPLE, zero := _, v_ZERO := v_ZERO, zT := zT } hbLaw
#print axioms PySem.Challenge.cw_quitsways_k70_whole_queue_units_and_alik_holds
end
