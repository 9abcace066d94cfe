import PyProof.Rows.All
import Wide.All
import OpenK.AllK
import Wide.FinOn
import HandS.ForMost
import HandS.Wide
import HandS.DictComp
import HandS.Walk
import HandS.TupSets
import HandS.TupAny
import HandS.DictTup
import HandS.Style
import HandS.Flow
import KE.GoesEnum
import PySem.Challenge.RW_evensamples_k72_whole_tables_of_divisors
set_option Elab.async false
set_option linter.all false
set_option maxRecDepth 100000
set_option maxHeartbeats 4000000
/-! EvMath: programs as data, the classes of their ticks, in plain Lean. -/
namespace Ev
open PySem

/-- a tuple of items -/
inductive Pg where
  | nil
  | line (n : Str) (t : Int) (r : Pg)
  | loop (k : Int) (b r : Pg)

def Pg.len : Pg → Int
  | .nil => 0
  | .line _ t r => t + r.len
  | .loop k b r => k * b.len + r.len
def Pg.app : Pg → Pg → Pg
  | .nil, q => q
  | .line n t r, q => .line n t (r.app q)
  | .loop k b r, q => .loop k b (r.app q)
/-- how many items stand side by side -/
def Pg.wide : Pg → Nat
  | .nil => 0
  | .line _ _ r => r.wide + 1
  | .loop _ _ r => r.wide + 1
/-- ticks and rounds at least 1, loops not empty -/
def Pg.ok : Pg → Prop
  | .nil => True
  | .line _ t r => (1 ≤ t ∧ t ≤ 10 ^ 12) ∧ r.ok
  | .loop k b r => (1 ≤ k ∧ k ≤ 10 ^ 18) ∧ b.ok ∧ b ≠ .nil ∧ b.wide ≤ 100 ∧ r.ok
/-- n is the name of a line -/
def Pg.has (n : Str) : Pg → Prop
  | .nil => False
  | .line x _ r => x = n ∨ r.has n
  | .loop _ b r => b.has n ∨ r.has n
/-- a bound of the loops' depth -/
def Pg.dep : Pg → Nat
  | .nil => 0
  | .line _ _ r => r.dep
  | .loop _ b r => max (b.dep + 1) r.dep

theorem app_len : ∀ p q : Pg, (p.app q).len = p.len + q.len
  | .nil, q => by show q.len = 0 + q.len; omega
  | .line n t r, q => by
    have h := app_len r q
    show t + (r.app q).len = t + r.len + q.len
    omega
  | .loop k b r, q => by
    have h := app_len r q
    show k * b.len + (r.app q).len = k * b.len + r.len + q.len
    omega
theorem app_ok : ∀ p q : Pg, p.ok → q.ok → (p.app q).ok
  | .nil, q, _, hq => hq
  | .line n t r, q, hp, hq => ⟨hp.1, app_ok r q hp.2 hq⟩
  | .loop k b r, q, hp, hq => ⟨hp.1, hp.2.1, hp.2.2.1, hp.2.2.2.1, app_ok r q hp.2.2.2.2 hq⟩
theorem app_wide : ∀ p q : Pg, (p.app q).wide = p.wide + q.wide
  | .nil, q => by show q.wide = 0 + q.wide; omega
  | .line n t r, q => by
    have h := app_wide r q
    show (r.app q).wide + 1 = r.wide + 1 + q.wide
    omega
  | .loop k b r, q => by
    have h := app_wide r q
    show (r.app q).wide + 1 = r.wide + 1 + q.wide
    omega
theorem app_has (n : Str) : ∀ p q : Pg, (p.app q).has n ↔ p.has n ∨ q.has n
  | .nil, q => by show q.has n ↔ False ∨ q.has n; simp
  | .line x t r, q => by
    have h := app_has n r q
    show (x = n ∨ (r.app q).has n) ↔ (x = n ∨ r.has n) ∨ q.has n
    rw [h, or_assoc]
  | .loop k b r, q => by
    have h := app_has n r q
    show (b.has n ∨ (r.app q).has n) ↔ (b.has n ∨ r.has n) ∨ q.has n
    rw [h, or_assoc]
theorem app_dep : ∀ p q : Pg, (p.app q).dep = max p.dep q.dep
  | .nil, q => by show q.dep = max 0 q.dep; omega
  | .line n t r, q => by
    have h := app_dep r q
    show (r.app q).dep = max r.dep q.dep
    exact h
  | .loop k b r, q => by
    have h := app_dep r q
    show max (b.dep + 1) (r.app q).dep = max (max (b.dep + 1) r.dep) q.dep
    omega
theorem app_nil : ∀ p q : Pg, p ≠ .nil → p.app q ≠ .nil
  | .nil, _, h => absurd rfl h
  | .line _ _ _, _, _ => fun e => nomatch e
  | .loop _ _ _, _, _ => fun e => nomatch e
theorem len_pos : ∀ p : Pg, p.ok → 0 ≤ p.len ∧ (p ≠ .nil → 1 ≤ p.len)
  | .nil, _ => ⟨Int.le_refl 0, fun h => absurd rfl h⟩
  | .line n t r, h => by
    have q := len_pos r h.2
    have h1 := h.1.1
    show 0 ≤ t + r.len ∧ _
    exact ⟨by omega, fun _ => by show 1 ≤ t + r.len; omega⟩
  | .loop k b r, h => by
    obtain ⟨⟨h1, _⟩, hb, hn, _, hr⟩ := h
    have q := len_pos r hr
    have qb := (len_pos b hb).2 hn
    have z : 1 ≤ k * b.len := Int.le_trans (by omega) (Int.mul_le_mul h1 qb (by omega) (by omega))
    show 0 ≤ k * b.len + r.len ∧ _
    exact ⟨by omega, fun _ => by show 1 ≤ k * b.len + r.len; omega⟩

/-! ### sums -/
/-- f at c, c - L, .. (k of them), added up -/
def pw (L : Int) (f : Int → Int) : Nat → Int → Int
  | 0, _ => 0
  | k + 1, c => pw L f k c + f (c - k * L)
theorem pw_add (L : Int) (f : Int → Int) (a : Nat) : ∀ (b : Nat) (c : Int), pw L f (a + b) c = pw L f a c + pw L f b (c - a * L)
  | 0, c => by show pw L f a c = pw L f a c + 0; omega
  | b + 1, c => by
    have ih := pw_add L f a b c
    show pw L f (a + b) c + f (c - ((a + b : Nat) : Int) * L) = pw L f a c + (pw L f b (c - a * L) + f (c - a * L - b * L))
    have e : c - ((a + b : Nat) : Int) * L = c - a * L - b * L := by
      rw [Int.natCast_add, Int.add_mul]; omega
    rw [ih, e]; omega
theorem pw_plus (L : Int) (f g : Int → Int) : ∀ (k : Nat) (c : Int), pw L (fun x => f x + g x) k c = pw L f k c + pw L g k c
  | 0, c => rfl
  | k + 1, c => by
    have ih := pw_plus L f g k c
    show pw L (fun x => f x + g x) k c + (f (c - k * L) + g (c - k * L)) = pw L f k c + f (c - k * L) + (pw L g k c + g (c - k * L))
    rw [ih]; omega
theorem pw_shift (L s : Int) (f : Int → Int) : ∀ (k : Nat) (c : Int), pw L (fun x => f (x - s)) k c = pw L f k (c - s)
  | 0, c => rfl
  | k + 1, c => by
    have ih := pw_shift L s f k c
    show pw L (fun x => f (x - s)) k c + f (c - k * L - s) = pw L f k (c - s) + f (c - s - k * L)
    have e : c - k * L - s = c - s - k * L := by omega
    rw [ih, e]
theorem pw_zero (L : Int) : ∀ (k : Nat) (c : Int), pw L (fun _ => 0) k c = 0
  | 0, c => rfl
  | k + 1, c => by
    have ih := pw_zero L k c
    show pw L (fun _ => 0) k c + 0 = 0
    rw [ih]; rfl
theorem pw_const (L v : Int) : ∀ (k : Nat) (c : Int), pw L (fun _ => v) k c = k * v
  | 0, c => by show (0 : Int) = ((0 : Nat) : Int) * v; simp
  | k + 1, c => by
    have ih := pw_const L v k c
    show pw L (fun _ => v) k c + v = ((k + 1 : Nat) : Int) * v
    rw [ih, Int.natCast_add, Int.add_mul]; simp
theorem pw_congr (L : Int) {f g : Int → Int} (h : ∀ x, f x = g x) (k : Nat) (c : Int) : pw L f k c = pw L g k c := by
  rw [show f = g from funext h]
theorem pw_comm (L M : Int) (f : Int → Int) (i : Nat) : ∀ (k : Nat) (c : Int), pw L (fun x => pw M f k x) i c = pw M (fun x => pw L f i x) k c
  | 0, c => pw_zero L i c
  | k + 1, c => by
    have ih := pw_comm L M f i k c
    show pw L (fun x => pw M f k x + f (x - k * M)) i c = pw M (fun x => pw L f i x) k c + pw L f i (c - k * M)
    rw [pw_plus L (fun x => pw M f k x) (fun x => f (x - k * M)) i c, ih, pw_shift L (k * M) f i c]
theorem pw_head (L : Int) (f : Int → Int) (k : Nat) (c : Int) : pw L f (k + 1) c = f c + pw L f k (c - L) := by
  have h := pw_add L f 1 k c
  rw [Nat.add_comm] at h
  rw [h]
  show pw L f 0 c + f (c - ((0 : Nat) : Int) * L) + pw L f k (c - ((1 : Nat) : Int) * L) = _
  have e1 : c - ((0 : Nat) : Int) * L = c := by simp
  have e2 : c - ((1 : Nat) : Int) * L = c - L := by simp
  rw [e1, e2]
  show 0 + f c + _ = _
  omega

/-! ### what repeats every m -/
def Per (m : Int) (f : Int → Int) : Prop := ∀ c, f (c + m) = f c
theorem Per.nat {m : Int} {f : Int → Int} (h : Per m f) : ∀ (k : Nat) (c : Int), f (c + k * m) = f c
  | 0, c => by simp
  | k + 1, c => by
    have ih := h.nat k c
    have e : c + ((k + 1 : Nat) : Int) * m = c + k * m + m := by
      rw [Int.natCast_add, Int.add_mul]; simp; omega
    rw [e, h, ih]
theorem Per.int {m : Int} {f : Int → Int} (h : Per m f) (k c : Int) : f (c + k * m) = f c := by
  by_cases hk : 0 ≤ k
  · have e : k = ((k.toNat : Nat) : Int) := by omega
    rw [e]; exact h.nat _ _
  · have e : -k = (((-k).toNat : Nat) : Int) := by omega
    have q := h.nat (-k).toNat (c + k * m)
    rw [← e] at q
    have e2 : c + k * m + -k * m = c := by rw [Int.neg_mul]; omega
    rw [e2] at q; exact q.symm
theorem Per.mod {m : Int} {f : Int → Int} (h : Per m f) (c : Int) : f (c % m) = f c := by
  have q := h.int (c / m) (c % m)
  rw [show c % m + c / m * m = c by rw [Int.mul_comm]; exact Int.emod_add_mul_ediv c m] at q
  exact q.symm
theorem Per.eq {m : Int} {f : Int → Int} (h : Per m f) {a b : Int} (e : a % m = b % m) : f a = f b := by
  rw [← h.mod a, ← h.mod b, e]
theorem pw_per {m : Int} {f : Int → Int} (h : Per m f) (L : Int) : ∀ k, Per m (pw L f k)
  | 0 => fun c => rfl
  | k + 1 => fun c => by
    have ih := pw_per h L k c
    show pw L f k (c + m) + f (c + m - k * L) = pw L f k c + f (c - k * L)
    have e : c + m - k * L = c - k * L + m := by omega
    rw [ih, e, h]
/-- is c a multiple of m -/
def dl (m c : Int) : Int := if c % m = 0 then 1 else 0
theorem dl_per (m : Int) : Per m (dl m) := fun c => by
  unfold dl
  rw [Int.add_emod_right]
theorem dl_one (c : Int) : dl 1 c = 1 := by
  unfold dl
  rw [if_pos (Int.emod_one c)]

/-- how many ticks of the line n are in the class of c modulo m -/
def Pg.cl (m : Int) (n : Str) : Pg → Int → Int
  | .nil, _ => 0
  | .line x t r, c => (if x = n then pw 1 (dl m) t.toNat c else 0) + r.cl m n (c - t)
  | .loop k b r, c => pw b.len (fun x => b.cl m n x) k.toNat c + r.cl m n (c - k * b.len)
/-- how many ticks of the line n -/
def Pg.tot (n : Str) : Pg → Int
  | .nil => 0
  | .line x t r => (if x = n then t else 0) + r.tot n
  | .loop k b r => k * b.tot n + r.tot n

theorem cl_per (m : Int) (n : Str) : ∀ p : Pg, Per m (fun c => p.cl m n c)
  | .nil => fun c => rfl
  | .line x t r => fun c => by
    have ih : r.cl m n (c - t + m) = r.cl m n (c - t) := cl_per m n r (c - t)
    have h1 := pw_per (dl_per m) 1 t.toNat c
    show (if x = n then pw 1 (dl m) t.toNat (c + m) else 0) + r.cl m n (c + m - t) = (if x = n then pw 1 (dl m) t.toNat c else 0) + r.cl m n (c - t)
    have e : c + m - t = c - t + m := by omega
    rw [e, ih, h1]
  | .loop k b r => fun c => by
    have ih : r.cl m n (c - k * b.len + m) = r.cl m n (c - k * b.len) := cl_per m n r (c - k * b.len)
    have h1 := pw_per (cl_per m n b) b.len k.toNat c
    show pw b.len (fun x => b.cl m n x) k.toNat (c + m) + r.cl m n (c + m - k * b.len) = pw b.len (fun x => b.cl m n x) k.toNat c + r.cl m n (c - k * b.len)
    have e : c + m - k * b.len = c - k * b.len + m := by omega
    rw [e, ih, h1]
theorem cl_app (m : Int) (n : Str) : ∀ (p q : Pg) (c : Int), (p.app q).cl m n c = p.cl m n c + q.cl m n (c - p.len)
  | .nil, q, c => by
    show q.cl m n c = 0 + q.cl m n (c - 0)
    rw [Int.sub_zero, Int.zero_add]
  | .line x t r, q, c => by
    have ih := cl_app m n r q (c - t)
    show (if x = n then pw 1 (dl m) t.toNat c else 0) + (r.app q).cl m n (c - t) = (if x = n then pw 1 (dl m) t.toNat c else 0) + r.cl m n (c - t) + q.cl m n (c - (t + r.len))
    have e : c - (t + r.len) = c - t - r.len := by omega
    rw [ih, e]; omega
  | .loop k b r, q, c => by
    have ih := cl_app m n r q (c - k * b.len)
    show pw b.len (fun x => b.cl m n x) k.toNat c + (r.app q).cl m n (c - k * b.len) = pw b.len (fun x => b.cl m n x) k.toNat c + r.cl m n (c - k * b.len) + q.cl m n (c - (k * b.len + r.len))
    have e : c - (k * b.len + r.len) = c - k * b.len - r.len := by omega
    rw [ih, e]; omega
theorem cl_no (m : Int) (n : Str) : ∀ (p : Pg), ¬ p.has n → ∀ c, p.cl m n c = 0
  | .nil, _, c => rfl
  | .line x t r, h, c => by
    have h1 : ¬ x = n := fun e => h (.inl e)
    have ih := cl_no m n r (fun e => h (.inr e)) (c - t)
    show (if x = n then pw 1 (dl m) t.toNat c else 0) + r.cl m n (c - t) = 0
    rw [if_neg h1, ih]; rfl
  | .loop k b r, h, c => by
    have ih := cl_no m n r (fun e => h (.inr e)) (c - k * b.len)
    have ihb := cl_no m n b (fun e => h (.inl e))
    show pw b.len (fun x => b.cl m n x) k.toNat c + r.cl m n (c - k * b.len) = 0
    rw [ih, show (fun x => b.cl m n x) = fun _ => 0 from funext ihb, pw_zero]; rfl
theorem cl_one (n : Str) : ∀ (p : Pg), p.ok → ∀ c, p.cl 1 n c = p.tot n
  | .nil, _, c => rfl
  | .line x t r, h, c => by
    have ih := cl_one n r h.2 (c - t)
    have h1 := h.1.1
    show (if x = n then pw 1 (dl 1) t.toNat c else 0) + r.cl 1 n (c - t) = (if x = n then t else 0) + r.tot n
    rw [ih, show dl 1 = fun _ => 1 from funext dl_one, pw_const]
    have e : ((t.toNat : Nat) : Int) * 1 = t := by omega
    rw [e]
  | .loop k b r, h, c => by
    obtain ⟨⟨h1, _⟩, hb, _, _, hr⟩ := h
    have ih := cl_one n r hr (c - k * b.len)
    show pw b.len (fun x => b.cl 1 n x) k.toNat c + r.cl 1 n (c - k * b.len) = k * b.tot n + r.tot n
    rw [ih, show (fun x => b.cl 1 n x) = fun _ => b.tot n from funext (cl_one n b hb), pw_const]
    have e : ((k.toNat : Nat) : Int) = k := by omega
    rw [e]

/-! ### a line's classes -/
theorem mod_lt_eq {m c t : Int} (hm : 0 < m) (h0 : 0 ≤ c) (h1 : c < m) : ((c - t) % m = 0) ↔ c = t % m := by
  have h2 := Int.emod_nonneg t (show m ≠ 0 by omega)
  have h3 := Int.emod_lt_of_pos t hm
  constructor
  · intro h
    have q : m ∣ c - t := Int.dvd_of_emod_eq_zero h
    have q2 : c % m = t % m := Int.emod_eq_emod_iff_emod_sub_eq_zero.mpr h
    rw [Int.emod_eq_of_lt h0 h1] at q2
    exact q2
  · intro h
    apply Int.emod_eq_emod_iff_emod_sub_eq_zero.mp
    rw [h, Int.emod_emod]
theorem step_line {m c : Int} (hm : 0 < m) (h0 : 0 ≤ c) (h1 : c < m) (t : Int) : (t + 1) / m + (if c < (t + 1) % m then 1 else 0) = t / m + (if c < t % m then 1 else 0) + dl m (c - t) := by
  have h2 := Int.emod_nonneg t (show m ≠ 0 by omega)
  have h3 := Int.emod_lt_of_pos t hm
  have hq := Int.emod_add_mul_ediv t m
  unfold dl
  have hc := mod_lt_eq (t := t) hm h0 h1
  by_cases hl : t % m + 1 < m
  · have e1 : (t + 1) / m = t / m := by
      rw [show t + 1 = (t % m + 1) + m * (t / m) by omega, Int.add_mul_ediv_left _ _ (by omega), Int.ediv_eq_zero_of_lt (by omega) hl, Int.zero_add]
    have e2 : (t + 1) % m = t % m + 1 := by
      rw [show t + 1 = (t % m + 1) + m * (t / m) by omega, Int.add_mul_emod_self_left, Int.emod_eq_of_lt (by omega) hl]
    rw [e1, e2]
    by_cases hd : c = t % m
    · rw [if_pos (hc.mpr hd), if_pos (by omega), if_neg (by omega)]; omega
    · rw [if_neg (fun e => hd (hc.mp e))]
      by_cases hlt : c < t % m
      · rw [if_pos (by omega), if_pos hlt]; omega
      · rw [if_neg (by omega), if_neg hlt]; omega
  · have e0 : t + 1 = m * (t / m + 1) := by rw [Int.mul_add]; omega
    have e1 : (t + 1) / m = t / m + 1 := by rw [e0, Int.mul_ediv_cancel_left _ (by omega)]
    have e2 : (t + 1) % m = 0 := by rw [e0, Int.mul_emod_right]
    rw [e1, e2]
    by_cases hd : c = t % m
    · rw [if_pos (hc.mpr hd), if_neg (by omega), if_neg (by omega)]; omega
    · rw [if_neg (fun e => hd (hc.mp e)), if_neg (by omega), if_pos (by omega)]
theorem line_cl {m c : Int} (hm : 0 < m) (h0 : 0 ≤ c) (h1 : c < m) : ∀ t : Nat, pw 1 (dl m) t c = (t : Int) / m + (if c < (t : Int) % m then 1 else 0)
  | 0 => by
    show (0 : Int) = ((0 : Nat) : Int) / m + (if c < ((0 : Nat) : Int) % m then 1 else 0)
    rw [show ((0 : Nat) : Int) = 0 from rfl, Int.zero_ediv, Int.zero_emod, if_neg (by omega)]; rfl
  | t + 1 => by
    have ih := line_cl hm h0 h1 t
    show pw 1 (dl m) t c + dl m (c - t * 1) = ((t + 1 : Nat) : Int) / m + (if c < ((t + 1 : Nat) : Int) % m then 1 else 0)
    rw [ih, Int.mul_one, Int.natCast_add]
    exact (step_line hm h0 h1 t).symm

/-! ### the table modulo a multiple -/
theorem pw_turn {k : Nat} {f : Int → Int} (h : Per k f) (q : Int) : pw (-1) f k (q + 1) = pw (-1) f k q := by
  have a := pw_head (-1) f k q
  have b : pw (-1) f (k + 1) q = pw (-1) f k q + f (q - k * (-1)) := rfl
  have e1 : q - (-1) = q + 1 := by omega
  have e2 : q - (k : Int) * (-1) = q + k := by omega
  rw [e1] at a
  rw [e2, h] at b
  omega
theorem one_of {k : Nat} : ∀ i : Nat, i < k → pw (-1) (dl k) (i + 1) 0 = 1
  | 0, _ => by
    show 0 + dl k (0 - ((0 : Nat) : Int) * (-1)) = 1
    unfold dl
    rw [if_pos (by simp)]; rfl
  | i + 1, h => by
    have ih := one_of (k := k) i (by omega)
    show pw (-1) (dl k) (i + 1) 0 + dl k (0 - ((i + 1 : Nat) : Int) * (-1)) = 1
    have e : 0 - ((i + 1 : Nat) : Int) * (-1) = ((i + 1 : Nat) : Int) := by omega
    rw [ih, e]
    unfold dl
    rw [Int.emod_eq_of_lt (by omega) (by omega), if_neg (by omega)]; rfl
theorem one_all {k : Nat} (hk : 0 < k) (q : Int) : pw (-1) (dl k) k q = 1 := by
  have h1 : Per 1 (pw (-1) (dl k) k) := fun c => pw_turn (dl_per k) c
  have h2 := h1.int q 0
  rw [Int.mul_one, Int.zero_add] at h2
  rw [h2]
  have h3 := one_of (k := k) (k - 1) (by omega)
  rw [show k - 1 + 1 = k by omega] at h3
  exact h3
theorem scale {m : Int} (hm : 0 < m) (k : Nat) (q : Int) : ∀ i : Nat, pw (-m) (dl (m * k)) i (m * q) = pw (-1) (dl k) i q
  | 0 => rfl
  | i + 1 => by
    have ih := scale hm k q i
    show pw (-m) (dl (m * k)) i (m * q) + dl (m * k) (m * q - i * (-m)) = pw (-1) (dl k) i q + dl k (q - i * (-1))
    have e : m * q - (i : Int) * (-m) = m * (q - i * (-1)) := by
      rw [Int.mul_sub, Int.mul_neg, Int.mul_neg, Int.mul_neg, Int.mul_one, Int.mul_comm (i : Int) m]
    rw [ih, e]
    unfold dl
    rw [Int.mul_emod_mul_of_pos _ _ hm]
    by_cases hz : (q - (i : Int) * -1) % (k : Int) = 0
    · rw [if_pos hz, hz, if_pos (Int.mul_zero m)]
    · rw [if_neg hz, if_neg (fun e => ?_)]
      rcases Int.mul_eq_zero.mp e with e | e
      · omega
      · exact hz e
theorem none_of {m : Int} (hm : 0 < m) (k : Nat) (hk : 0 < k) {c : Int} (h : ¬ c % m = 0) : ∀ i : Nat, pw (-m) (dl (m * k)) i c = 0
  | 0 => rfl
  | i + 1 => by
    have ih := none_of hm k hk h i
    show pw (-m) (dl (m * k)) i c + dl (m * k) (c - i * (-m)) = 0
    unfold dl at *
    rw [ih, if_neg (fun e => h ?_)]
    · rfl
    · have d1 : m * (k : Int) ∣ c - i * (-m) := Int.dvd_of_emod_eq_zero e
      have d2 : m ∣ c - i * (-m) := Int.dvd_trans (Int.dvd_mul_right m k) d1
      have d3 : m ∣ i * (-m) := by rw [Int.mul_neg, Int.mul_comm]; exact Int.dvd_neg.mpr (Int.dvd_mul_right m i)
      have d4 : m ∣ c := by
        have q := Int.dvd_add d2 d3
        rw [show c - (i : Int) * (-m) + i * (-m) = c by omega] at q
        exact q
      exact Int.emod_eq_zero_of_dvd d4
theorem dl_fold {m : Int} (hm : 0 < m) {k : Nat} (hk : 0 < k) (c : Int) : pw (-m) (dl (m * k)) k c = dl m c := by
  by_cases h : c % m = 0
  · have e : c = m * (c / m) := by
      have q := Int.emod_add_mul_ediv c m
      omega
    have e2 : dl m c = 1 := by
      unfold dl
      rw [if_pos h]
    rw [e2, e, scale hm k _ k, one_all hk]
  · rw [none_of hm k hk h k]
    unfold dl
    rw [if_neg h]
/-- the class table modulo m is the sum of the rows of the table modulo a multiple -/
theorem cl_fold {m : Int} (hm : 0 < m) {k : Nat} (hk : 0 < k) (n : Str) : ∀ (p : Pg) (c : Int), pw (-m) (fun x => p.cl (m * k) n x) k c = p.cl m n c
  | .nil, c => pw_zero _ _ _
  | .line x t r, c => by
    have ih := cl_fold hm hk n r (c - t)
    show pw (-m) (fun y => (if x = n then pw 1 (dl (m * k)) t.toNat y else 0) + r.cl (m * k) n (y - t)) k c = (if x = n then pw 1 (dl m) t.toNat c else 0) + r.cl m n (c - t)
    rw [pw_plus (-m) (fun y => if x = n then pw 1 (dl (m * k)) t.toNat y else 0) (fun y => r.cl (m * k) n (y - t)), pw_shift (-m) t (fun y => r.cl (m * k) n y), ih]
    by_cases e : x = n
    · simp only [if_pos e]
      rw [pw_comm (-m) 1 (dl (m * k)) k t.toNat c, show (fun x => pw (-m) (dl (m * k)) k x) = dl m from funext (dl_fold hm hk)]
    · simp only [if_neg e]
      rw [pw_zero]
  | .loop j b r, c => by
    have ih := cl_fold hm hk n r (c - j * b.len)
    have ihb := cl_fold hm hk n b
    show pw (-m) (fun y => pw b.len (fun x => b.cl (m * k) n x) j.toNat y + r.cl (m * k) n (y - j * b.len)) k c = pw b.len (fun x => b.cl m n x) j.toNat c + r.cl m n (c - j * b.len)
    rw [pw_plus (-m) (fun y => pw b.len (fun x => b.cl (m * k) n x) j.toNat y) (fun y => r.cl (m * k) n (y - j * b.len)), pw_shift (-m) (j * b.len) (fun y => r.cl (m * k) n y), ih,
      pw_comm (-m) b.len (fun x => b.cl (m * k) n x) k j.toNat c, show (fun x => pw (-m) (fun x => b.cl (m * k) n x) k x) = (fun x => b.cl m n x) from funext ihb]

/-! ### the names, in the order in which they come -/
def put (ks : List Str) (n : Str) : List Str := if n ∈ ks then ks else ks ++ [n]
def mrg (ks js : List Str) : List Str := js.foldl put ks
def Pg.nm : List Str → Pg → List Str
  | ks, .nil => ks
  | ks, .line n _ r => r.nm (put ks n)
  | ks, .loop _ b r => r.nm (mrg ks (b.nm []))
theorem mem_put {ks : List Str} {n x : Str} : x ∈ put ks n ↔ x ∈ ks ∨ n = x := by
  unfold put
  by_cases h : n ∈ ks
  · rw [if_pos h]
    exact ⟨.inl, fun z => z.elim id fun e => e ▸ h⟩
  · rw [if_neg h, List.mem_append, List.mem_singleton]
    exact ⟨fun z => z.imp id Eq.symm, fun z => z.imp id Eq.symm⟩
theorem mem_mrg {x : Str} : ∀ {js ks : List Str}, x ∈ mrg ks js ↔ x ∈ ks ∨ x ∈ js
  | [], ks => by show x ∈ ks ↔ x ∈ ks ∨ x ∈ []; simp
  | j :: js, ks => by
    show x ∈ mrg (put ks j) js ↔ _
    rw [mem_mrg, mem_put, List.mem_cons, or_assoc]
    constructor
    · rintro (h | h | h)
      · exact .inl h
      · exact .inr (.inl h.symm)
      · exact .inr (.inr h)
    · rintro (h | h | h)
      · exact .inl h
      · exact .inr (.inl h.symm)
      · exact .inr (.inr h)
theorem mem_nm {x : Str} : ∀ (p : Pg) (ks : List Str), x ∈ p.nm ks ↔ x ∈ ks ∨ p.has x
  | .nil, ks => by show x ∈ ks ↔ x ∈ ks ∨ False; simp
  | .line n t r, ks => by
    show x ∈ r.nm (put ks n) ↔ x ∈ ks ∨ (n = x ∨ r.has x)
    rw [mem_nm r, mem_put, or_assoc]
  | .loop k b r, ks => by
    show x ∈ r.nm (mrg ks (b.nm [])) ↔ x ∈ ks ∨ (b.has x ∨ r.has x)
    rw [mem_nm r, mem_mrg, mem_nm b, or_assoc]
    simp
theorem nd_put {ks : List Str} {n : Str} (h : ks.Nodup) : (put ks n).Nodup := by
  unfold put
  by_cases hn : n ∈ ks
  · rw [if_pos hn]; exact h
  · rw [if_neg hn]
    rw [List.nodup_append]
    exact ⟨h, by simp, fun a ha b hb => by rw [List.mem_singleton.mp hb]; rintro rfl; exact hn ha⟩
theorem nd_mrg : ∀ {js ks : List Str}, ks.Nodup → (mrg ks js).Nodup
  | [], _, h => h
  | j :: js, ks, h => nd_mrg (js := js) (nd_put h)
theorem nd_nm : ∀ (p : Pg) (ks : List Str), ks.Nodup → (p.nm ks).Nodup
  | .nil, _, h => h
  | .line n t r, ks, h => nd_nm r _ (nd_put h)
  | .loop k b r, ks, h => nd_nm r _ (nd_mrg h)
theorem mrg_app : ∀ (js ks : List Str), (ks ++ js).Nodup → mrg ks js = ks ++ js
  | [], ks, _ => by simp [mrg]
  | j :: js, ks, h => by
    have hj : ¬ j ∈ ks := fun m => by
      have q := (List.nodup_append.mp h).2.2 j m j List.mem_cons_self
      exact q rfl
    show mrg (put ks j) js = ks ++ j :: js
    have e : put ks j = ks ++ [j] := by
      unfold put
      rw [if_neg hj]
    rw [e, mrg_app js (ks ++ [j]) (by rw [List.append_assoc]; exact h), List.append_assoc]; rfl
theorem mrg_nil {js : List Str} (h : js.Nodup) : mrg [] js = js := mrg_app js [] h
theorem nm_one {p : Pg} : (Pg.loop 1 p .nil).nm [] = p.nm [] := mrg_nil (nd_nm p [] List.nodup_nil)

/-! ### the names in ascending order: one list only -/
def leS (a b : Str) : Bool := !decide (b.cps.toList < a.cps.toList)
end Ev
/-! EvRules: rules that the layer does not bring. -/
namespace Ev
open PySem PySem.Spec PyProof.Rows L2
section
variable {X : Cx}
/-- d.update(b), both tracked dicts of flat keys -/
def rUpd : V → List V → Hp → VK → Prop := fun x vs H Q => ∃ (d b : Addr) (kvs more : List (L2.Key × V)), x = .ref d ∧ vs = [.ref b] ∧ H d = some (.dK kvs) ∧ H b = some (.dK more) ∧ d ≠ b ∧
  kvs.length + more.length ≤ sizeLine ∧ Q .non (upd H d (.dK (mergeK kvs more)))
theorem mergeK_len : ∀ (more kvs : List (L2.Key × V)), (mergeK kvs more).length ≤ kvs.length + more.length
  | [], kvs => Nat.le_refl _
  | p :: more, kvs => by
    have h1 := length_putK kvs p.1 p.2
    have h2 := mergeK_len more (putK kvs p.1 p.2)
    show (mergeK (putK kvs p.1 p.2) more).length ≤ kvs.length + (more.length + 1)
    omega
theorem mt_update : MtR X "dict.update" rUpd := by
  intro pins s σ H x xs v us Q I rx rxs h
  obtain ⟨d, b, kvs, more, rfl, rfl, hd, hb, hne, hz, q⟩ := h
  cases rx
  obtain rfl := Vals.ref1 rxs
  obtain ⟨z1, lo1, vs1, rel1, dd1⟩ := dk_of I.hok hd
  obtain ⟨z2, lo2, vs2, rel2, dd2⟩ := dk_of I.hok hb
  refine call_meetsIn PySem.F.slot_dict_update dd1.typeIs PySem.F.entry_dict_update (PySem.F.args_dict_update_2 _ _) (meets_dict_update (mixKind X.prog X.w) d b hne lo2)
    ⟨vs1, vs2, dd1, dd2, by rw [← rel1.length, ← rel2.length]; exact hz, fun h' dd' _ hs => ?_⟩
  have he : ∃ w, h'.get? d = some w := let ⟨w, _, _, hw, _⟩ := dd'; ⟨w, hw⟩
  exact ⟨.non, _, d_write (t' := s.toks) I (by rw [hd]; exact True.intro) hs he (dk_new (Nat.le_trans (mergeK_len more kvs) hz) lo1 (KV.merge rel2 rel1) dd'), rfl, q⟩
/-- i ** j, the result not too long -/
def CPowB (i j : Int) : Prop := 0 ≤ j ∧ (Builtin.Int.intBits i : Int) * j ≤ 2 ^ 27
theorem op_powB : OpR X (binaryOp .Pow) (rI CPowB fun i j => .int (i ^ j.toNat)) := opI fun _ _ _ _ _ _ _ hc q => pow_int hc.1 hc.2 q
end
end Ev
/-! EvEnum: enumerate over a tuple. -/
namespace Ev
open PySem PySem.Spec PyProof.Rows L2
def IteT (K : PySem.W.Frag) (a : Addr) : It :=
  ⟨fun i H => ∃ (xs : List V) (x : V), SqT K H a xs ∧ xs[i]? = some x,
   fun i H v H' => ∃ T x, v = .ref T ∧ H T = none ∧ H' = upd H T (.tup [.int (i : Nat), x]) ∧ ∀ xs, SqT K H a xs → xs[i]? = some x,
   fun i H => ∃ xs : List V, SqT K H a xs ∧ xs.length ≤ i⟩
theorem cls_ne {h : Heap} {a b : Addr} {o u : Obj} (ha : h.get? a = some o) (hb : h.get? b = some u) (hc : o.cls ≠ u.cls) : a ≠ b := by
  rintro rfl
  rw [ha] at hb
  exact hc (congrArg Obj.cls (Option.some.inj hb))
theorem turn_enumT {P : Program} {w : World} {K : PySem.W.Frag} {elts : List Expr} {kk : Nat} {tpos : Pos} (a e it : Addr) :
    Turn P w K (.Tuple elts kk tpos) (IteT K a) [e, it] e (fun i h => (∃ old, IsEnum h e it ((i : Nat) : Int) old) ∧ h.IsTupleIter it a i ∧ e ≠ it) where
  mem := List.mem_cons_self
  obj := by
    rintro i h ⟨⟨old, he⟩, ⟨o, ho, hc, hd⟩, _⟩ b hb
    rcases List.mem_cons.mp hb with rfl | hb
    · exact ⟨_, he, fun v q => nomatch q⟩
    · obtain rfl := List.mem_singleton.mp hb
      exact ⟨o, ho, fun v q => by rw [hd] at q; cases q⟩
  keep := by
    rintro i h h' ⟨⟨old, he⟩, hi, hne⟩ k
    exact ⟨⟨old, k e (by simp) _ he⟩, hi.at fun o q => k it (by simp) o q, hne⟩
  item := by
    rintro X rfl rfl rfl hc i pins s σ H E I hf ⟨⟨old, he⟩, hit, hne⟩ ⟨xs, x, hq, hx⟩
    obtain ⟨its, rv, p, hz⟩ := I.tuple hq
    obtain ⟨u, hu, ru⟩ := rv.get hx
    have pt : s.heap.IsTuple a its.toArray := p
    obtain ⟨oi, hoi, hci, _⟩ := id hit
    obtain ⟨oa, hoa, hca, _⟩ := id p
    have nai : a ≠ it := cls_ne hoa hoi (by rw [hca, hci]; intro z; injection z with z; exact absurd z (by decide))
    have nea : e ≠ a := cls_ne he hoa (by rw [hca]; intro z; injection z with z; exact absurd z (by decide))
    have hel : e < s.heap.objs.size := Heap.lt_size he
    have hil : it < s.heap.objs.size := Heap.lt_size hoi
    have hlt : i < its.toArray.size := by
      have q := (List.getElem?_eq_some_iff.mp hu).1
      simpa using q
    have D := Draws.tuple (prog := X.prog) (w := X.w) (A := X.A.in1) (show X.A.in1.handled = none from I.ok.hd hc) it a nai its.toArray
    refine wpAny_pyNext_enum_itemD D he ⟨hit, pt⟩ hlt hne (by simp [hne, nea]) fun x' h' tk hx' ho hst' hT hsz hk => ?_
    have hxu : x' = u := by
      have q : its[i]? = some x' := by simpa using hx'
      rw [hu] at q
      exact (Option.some.inj q).symm
    subst hxu
    refine ⟨_, rfl, wpAny_letOwnedTupleGo_enum (s := { s with heap := h', toks := tk + 1 }) ho fun h2 he2 sb => ?_⟩
    have hT2 : h2.get? s.heap.objs.size = some { cls := .type "tuple", data := .seq #[.int i tk, x'] } := (sb.2 _ (Nat.ne_of_gt hel)).trans hT
    have new : ObjOk X.prog X.w (upd H s.heap.objs.size (.tup [.int (i : Nat), x])) h2 s.heap.objs.size (.tup [.int (i : Nat), x]) :=
      ⟨by show 2 ≤ sizeLine; decide, [.int i tk, x'], .cons ⟨_, rfl⟩ (.cons ru .nil), ⟨_, hT2, rfl, _, rfl⟩⟩
    have I1 : Inv X pins σ (upd H s.heap.objs.size (.tup [.int (i : Nat), x])) { s with heap := h2, toks := tk + 1 } :=
      I.turnedNew (ch := [e, it]) (fun b ob hb q => (sb.2 b fun z => hb (by simp [z])).trans (hk b ob (fun z => hb (by simp [z])) (fun z => hb (by simp [z])) q)) hf (Nat.le_refl _) new
    refine ⟨.ref s.heap.objs.size, _, I1, rfl, ⟨_, x, rfl, I.hok.fresh (Nat.le_refl _), rfl, fun ys hy => by rw [I.tuple_inj hy hq]; exact hx⟩, ⟨⟨x', ?_⟩, ?_, hne⟩, fun b hb => ?_⟩
    · rw [show ((i + 1 : Nat) : Int) = (i : Int) + 1 by omega]
      exact he2
    · exact hst'.1.at fun o q => (sb.2 it (Ne.symm hne)).trans q
    · have hb' : b < s.heap.objs.size := by
        rcases List.mem_cons.mp hb with rfl | hb
        · exact hel
        · rw [List.mem_singleton.mp hb]; exact hil
      rw [upd_ne (Nat.ne_of_lt hb')]
      exact (hf b hb).1
  done := by
    rintro X rfl rfl rfl hc i pins s σ H E I hf ⟨⟨old, he⟩, hit, hne⟩ ⟨xs, hq, hx⟩
    obtain ⟨its, rv, p, hz⟩ := I.tuple hq
    have pt : s.heap.IsTuple a its.toArray := p
    obtain ⟨oi, hoi, hci, hdi⟩ := id hit
    obtain ⟨f0, f1, f2, f3, f4, f5⟩ := hf it (by simp)
    have hl := rv.length
    have hE : its.toArray[i]? = none := by
      have q : its[i]? = none := List.getElem?_eq_none (by omega)
      simpa using q
    have hT : s.TypeIs (.ref e) "enumerate" := ⟨_, he, rfl⟩
    unfold pyNext
    refine wpAny_bind (wpAny_attempt (wpAny_callSpecial?_slot (name := Str.ofString "__next__") hT F.slot_enumerate_next
      (wpAny_call_entry F.slot_enumerate_next hT F.entry_enumerate_next ?_ (F.args_enumerate_next_1 _))))
    show wpAny _ _ (field (.ref e) 2 >>= _) _ _ _
    refine wpAny_bind (wpAny_field he rfl (x := .ref it) rfl ?_)
    refine wpAny_bind (wpAny_nextOf_tuple_end (I.ok.hd hc) hit pt hE fun h' x he' hx' => ?_)
    obtain ⟨o, ho, hcl⟩ := hx'
    refine wpAny_bind (wpAny_isInstance (T := "StopIteration") (b := true) ⟨o, ho, hcl⟩ isSubtype_stop ?_)
    exact wpAny_pure ⟨rfl, I.turned (t' := s.toks) (fun b o hb q => he' b o hb q) f0 f1 f3 f4 f5⟩
  self := by
    rintro A i s Q E ⟨⟨_, he⟩, _⟩ h
    exact wpAny_pyIter_enum he h
def iEnumT (K : PySem.W.Frag) (ta : TA) : TI := fun σ H R => ta σ H fun vs H1 => ∃ a xs, vs = [.ref a] ∧ SqT K H1 a xs ∧ R (IteT K a) H1
set_option maxHeartbeats 8000000 in
theorem new_enumT (l : Addr) (items : Array Value) :
    Meets (Builtin.«enumerate.__new__» ⟨[.type "enumerate", .ref l], []⟩) (fun _ R s => s.heap.IsTuple l items ∧
      R (.ok (.ret (.ref (s.heap.push { cls := .type "tuple_iterator", data := .fields #[.ref l, .int 0 0] }).objs.size)))
        { s with heap := (s.heap.push { cls := .type "tuple_iterator", data := .fields #[.ref l, .int 0 0] }).push { cls := .type "enumerate", data := .fields #[.none, .bool false, .ref s.heap.objs.size, rawInt 0, .none, .none] } }) :=
  .of_wp fun prog w A R s h => by
    obtain ⟨hp, g, d, tk, os⟩ := s
    obtain ⟨hL, h⟩ := h
    have hsub := sub_enumerate
    have q1 : ∀ {A' : Around} {E : Value → Shared → Prop} {Q : Value → Shared → Prop}, Q (.ref hp.objs.size) ⟨hp.push { cls := .type "tuple_iterator", data := .fields #[.ref l, .int 0 0] }, g, d, tk, os⟩ → wpAny (model prog w) A' (pyIter (.ref l)) Q E ⟨hp, g, d, tk, os⟩ :=
      fun q => (begins_tuple l items).iter prog w _ _ ⟨hp, g, d, tk, os⟩ _ hL q
    wp_walk using q1
    refine wpAny_stack_any fun st => wpAny_pure ?_
    split
    · rename_i c _ _ _ _ _
      cases (c == Value.type "enumerate")
      · wp_walk using q1
        exact ⟨_, rfl, h⟩
      · wp_walk using q1
        exact ⟨_, rfl, h⟩
    · wp_walk using q1
      exact ⟨_, rfl, h⟩
theorem pi_enumT {X : Cx} {e : Expr} {ta : TA} {p pos tpos : Pos} {elts : List Expr} {kk : Nat} (hg : Gl X "enumerate") (hm : X.mg "enumerate" = none) (ha : PA X [e] ta) (hs : starEach [e] X.env = [(false, eval e X.env)] := by rfl) :
    PI X (.Tuple elts kk tpos) (.Call (.Name "enumerate" p) [e] [] pos) (iEnumT X.K ta) := by
  refine ⟨fun pins s σ H R I h => ?_⟩
  refine Call_ (ld_blt I hg hm boot_enumerate (PyProof.Rows.callWith_type1 (thn (ha.run pos pins s σ H _ I h) fun us s1 ⟨vs, H1, I1, r1, q1⟩ => ?_) hs rfl))
  obtain ⟨a, xs, rfl, hq, q⟩ := q1
  obtain rfl := Vals.ref1 r1
  obtain ⟨its, rv, p', hz⟩ := I1.tuple hq
  have pt : s1.heap.IsTuple a its.toArray := p'
  have hz1 : (s1.heap.push { cls := .type "tuple_iterator", data := .fields #[.ref a, .int 0 0] }).objs.size = s1.heap.objs.size + 1 := Heap.size_push ..
  refine callType_new F.called_enumerate (by decide) (F.typeCall_enumerate_1 _) (F.newCall_enumerate_1 _) (fun obj => F.args_object_init_2 obj _) F.entry_enumerate_new (new_enumT a its.toArray) ⟨pt, ?_⟩
  show _ ∧ _
  rw [hz1]
  have he := Heap.get?_push_size (s1.heap.push { cls := .type "tuple_iterator", data := .fields #[.ref a, .int 0 0] })
    (o := { cls := .type "enumerate", data := .fields #[.none, .bool false, .ref s1.heap.objs.size, rawInt 0, .none, .none] }) rfl
  rw [hz1] at he
  refine ⟨⟨_, he, rfl⟩, wpAny_pyIter_enum he ?_⟩
  have I2 : Inv X pins σ H1 { s1 with heap := (s1.heap.push { cls := .type "tuple_iterator", data := .fields #[.ref a, .int 0 0] }).push { cls := .type "enumerate", data := .fields #[.none, .bool false, .ref s1.heap.objs.size, rawInt 0, .none, .none] } } :=
    I1.kept (t' := s1.toks) fun b o x => Heap.get?_push_of_some _ (Heap.get?_push_of_some _ x)
  refine ⟨s1.heap.objs.size + 1, [s1.heap.objs.size + 1, s1.heap.objs.size], _, _, H1, rfl, I2, turn_enumT a (s1.heap.objs.size + 1) s1.heap.objs.size,
    ⟨⟨.none, he⟩, ⟨_, Heap.get?_push_of_some _ (Heap.get?_push_size _ rfl), rfl, rfl⟩, Nat.succ_ne_self _⟩, fun b hb => ?_, q⟩
  have hle : s1.heap.objs.size ≤ b := by
    rcases List.mem_cons.mp hb with rfl | hb
    · exact Nat.le_succ _
    · rw [List.mem_singleton.mp hb]; exact Nat.le_refl _
  exact I1.fpOk hle (I1.hok.fresh hle)
theorem walk_enumT {K : PySem.W.Frag} {a : Addr} {xs : List V} : Walk (IteT K a) xs.length (fun H => SqT K H a xs) (YPair (fun i => some (.int (i : Nat))) (fun i => xs[i]?)) := by
  refine ⟨fun i _ hi q => ⟨xs, xs[i], q, by simp [hi]⟩, fun _ q => ⟨xs, q, Nat.le_refl _⟩, fun i H v H' _ q y => ?_⟩
  obtain ⟨T, x, h1, h2, h3, h4⟩ := y
  exact ⟨T, .int (i : Nat), x, h1, h2, h3, rfl, h4 xs q⟩
end Ev
/-! EvStep: t[a::m] of a tuple of m * k items. -/
namespace Ev
open PySem PySem.Spec PyProof.Rows L2
theorem step_places {a m k : Nat} (ha : a < m) (hk : 0 < k) : Builtin.Slice.slicePlaces (a : Int) ((m * k : Nat) : Int) (m : Int) = k := by
  unfold Builtin.Slice.slicePlaces
  have hmk : m ≤ m * k := Nat.le_mul_of_pos_right m hk
  rw [if_pos (by omega), if_pos (by omega)]
  obtain ⟨j, rfl⟩ : ∃ j, k = j + 1 := ⟨k - 1, by omega⟩
  have e : ((m * (j + 1) : Nat) : Int) - (a : Int) - 1 = ((m : Int) - 1 - a) + m * j := by
    rw [Int.natCast_mul, Int.natCast_add, Int.mul_add]; simp; omega
  rw [e, Int.add_mul_ediv_left _ _ (by omega), Int.ediv_eq_zero_of_lt (by omega) (by omega)]
  omega
theorem step_adjust {a m n : Nat} (ha : a ≤ n) (hm : 0 < m) : Builtin.Slice.sliceAdjust (some (a : Int)) none (m : Int) (n : Int) = ((a : Int), (n : Int)) := by
  unfold Builtin.Slice.sliceAdjust
  have h1 : ¬ ((m : Int) < 0) := by omega
  have h2 : ¬ ((a : Int) < 0) := by omega
  simp only [h1, h2, if_false]
  refine Prod.ext ?_ rfl
  show min (a : Int) (n : Int) = a
  omega
section
variable {prog : Program} {w : World} {A : Around} {E : Value → Shared → Prop} {s : Shared}
theorem step_applied {sl : Addr} {a m k n : Nat} {u1 u2 : Tok} {Q : Int × Int × Nat → Shared → Prop} (hs : s.heap.IsSliceOf sl (.int a u1) .none (.int m u2)) (ha : a < m) (hk : 0 < k) (hn : n = m * k)
    (h : Q ((a : Int), (m : Int), k) s) : wpAny (model prog w) A (Builtin.Slice.sliceApplied (.ref sl) (pure (n : Int))) Q E s := by
  obtain ⟨os, hos, hcs, hds⟩ := id hs
  have hmk : m ≤ m * k := Nat.le_mul_of_pos_right m hk
  unfold Builtin.Slice.sliceApplied Builtin.Slice.sliceFields
  refine wpAny_bind (wpAny_bind (wpAny_field hos hds (x := .int a u1) rfl (wpAny_bind (wpAny_field hos hds (x := .none) rfl (wpAny_bind (wpAny_field hos hds (x := .int m u2) rfl (wpAny_pure ?_)))))))
  refine wpAny_bind (slicePart_int ?_)
  show wpAny _ _ (if ((m : Int) == 0) = true then _ else _) _ _ s
  rw [if_neg (by simp; omega)]
  refine wpAny_bind (slicePart_int (wpAny_bind (slicePart_none (wpAny_bind (wpAny_pure ?_)))))
  show wpAny _ _ (match Builtin.Slice.sliceAdjust (some (a : Int)) none (m : Int) (n : Int) with | (lo, hi) => pure (lo, (m : Int), Builtin.Slice.slicePlaces lo hi (m : Int))) _ _ s
  rw [step_adjust (by omega) (by omega)]
  show wpAny _ _ (pure ((a : Int), (m : Int), Builtin.Slice.slicePlaces (a : Int) (n : Int) (m : Int))) _ _ s
  rw [hn, step_places ha hk]
  exact wpAny_pure h
theorem step_item {t sl : Addr} {items : Array Value} {a m k : Nat} {u1 u2 : Tok} {Q : Value → Shared → Prop} (ht : IsTup s.heap t items) (hs : s.heap.IsSliceOf sl (.int a u1) .none (.int m u2))
    (ha : a < m) (hk : 0 < k) (hn : items.size = m * k) (hsz : items.size ≤ sizeLine) (h1 : m = 1 → Q (.ref t) s)
    (h2 : m ≠ 1 → Q (.ref s.heap.objs.size) { s with heap := s.heap.push { cls := .type "tuple", data := .seq ((List.range k).filterMap fun (j : Nat) => items[((a : Int) + (j : Int) * (m : Int)).toNat]?).toArray } }) :
    wpAny (model prog w) A (getItem (.ref t) (.ref sl)) Q E s := by
  obtain ⟨os, hos, hcs, hds⟩ := id hs
  have hmk : k ≤ m * k := Nat.le_mul_of_pos_left k (by omega)
  have hTs : s.TypeIs (.ref sl) "slice" := ⟨os, hos, hcs⟩
  have hfit : sizeOk (.seq ((List.range k).filterMap fun (j : Nat) => items[((a : Int) + (j : Int) * (m : Int)).toNat]?).toArray) := by
    show ((List.range k).filterMap fun (j : Nat) => items[((a : Int) + (j : Int) * (m : Int)).toNat]?).toArray.size ≤ sizeLine
    rw [List.size_toArray]
    have q := List.length_filterMap_le (fun (j : Nat) => items[((a : Int) + (j : Int) * (m : Int)).toNat]?) (List.range k)
    rw [List.length_range] at q
    omega
  unfold getItem
  try with_reducible refine wpAny_holding ?_
  first | refine wpAny_bind (wpAny_pure ?_) | skip
  refine wpAny_bind (wpAny_sequenceKey ht.typeIs (by decide) ?_)
  refine wpAny_bind (wpAny_callSpecial?_slot (name := Str.ofString "__getitem__") ht.typeIs PyProof.Rows.slot_tuple_getitem
    (wpAny_call_entry PyProof.Rows.slot_tuple_getitem ht.typeIs entry_tuple_getitem ?_ (args_tuple_getitem _ _)))
  show wpAny _ _ (Builtin.Tuple.tupleItemsOf (.ref t) >>= _) _ _ s
  refine wpAny_bind (PyProof.Rows.tupleItemsOf_ ht ?_)
  refine wpAny_bind (wpAny_typeOf hTs ?_)
  rw [if_pos (by decide)]
  refine wpAny_bind (step_applied hs ha hk hn ?_)
  by_cases em : m = 1
  · subst em
    have ea : a = 0 := by omega
    subst ea
    have hy : (((0 : Nat) : Int) == 0 && ((1 : Nat) : Int) == 1 && k == items.size) = true := by
      rw [hn]; simp
    show wpAny _ _ (if (((0 : Nat) : Int) == 0 && ((1 : Nat) : Int) == 1 && k == items.size) = true then _ else _) _ _ s
    rw [if_pos hy]
    refine wpAny_bind ?_
    show wpAny _ _ (typeOf (.ref t) >>= fun T => pure (T == .type "tuple")) _ _ s
    refine wpAny_bind (wpAny_typeOf ht.typeIs (wpAny_pure ?_))
    first
      | rw [if_pos (by decide)]
      | simp only [beq_self_eq_true, if_true]
    first
      | exact wpAny_bind (wpAny_rule (wpAny_pure ⟨_, rfl, wpAny_pure (h1 rfl)⟩))
      | exact wpAny_bind (wpAny_rule (wpAny_bind (wpAny_pure (wpAny_pure ⟨_, rfl, wpAny_pure (h1 rfl)⟩))))
  · have hy : ¬ (((a : Int) == 0 && (m : Int) == 1 && k == items.size) = true) := by
      intro z
      rw [Bool.and_eq_true, Bool.and_eq_true] at z
      have z1 : (m : Int) = 1 := eq_of_beq z.1.2
      exact em (by omega)
    show wpAny _ _ (if ((a : Int) == 0 && (m : Int) == 1 && k == items.size) = true then _ else _) _ _ s
    rw [if_neg hy]
    first
      | exact wpAny_bind (m := Builtin.Tuple.tupleExact _) (wpAny_newObj_type (wpAny_pure ⟨_, rfl, wpAny_pure (h2 em)⟩) hfit)
      | exact wpAny_bind (m := Builtin.Tuple.tupleExact _) (wpAny_newObj_type (wpAny_bind (wpAny_pure (wpAny_pure ⟨_, rfl, wpAny_pure (h2 em)⟩))) hfit)
      | exact wpAny_bind (wpAny_bind (m := Builtin.Tuple.tupleExact _) (wpAny_newObj_type (wpAny_pure (wpAny_pure ⟨_, rfl, wpAny_pure (h2 em)⟩)) hfit))
      | exact wpAny_bind (wpAny_bind (m := Builtin.Tuple.tupleExact _) (wpAny_newObj_type (wpAny_pure ⟨_, rfl, wpAny_pure (h2 em)⟩) hfit))
end
/-- the items at a, a + m, .. (k of them) -/
def stepV (xs : List V) (a m k : Nat) : List V := (List.range k).filterMap fun j => xs[a + j * m]?
theorem stepV_get {xs : List V} {a m k : Nat} (ha : a < m) (hn : xs.length = m * k) : stepV xs a m k = (List.range k).map fun j => xs.getD (a + j * m) .non := by
  have go : ∀ i, i ≤ k → (List.range i).filterMap (fun j => xs[a + j * m]?) = (List.range i).map fun j => xs.getD (a + j * m) .non := by
    intro i
    induction i with
    | zero => intro _; rfl
    | succ i ih =>
      intro hi
      have hlt : a + i * m < xs.length := by
        have q : (i + 1) * m ≤ k * m := Nat.mul_le_mul_right m hi
        rw [Nat.add_mul, Nat.mul_comm k m] at q
        omega
      rw [List.range_succ, List.filterMap_append, List.map_append, ih (by omega)]
      simp [List.getElem?_eq_getElem hlt]
  exact go k (Nat.le_refl _)
theorem vals_step {xs : List V} {us : List Value} (r : Vals xs us) (a m : Nat) : ∀ k, Vals ((List.range k).filterMap fun j => xs[a + j * m]?) ((List.range k).filterMap fun j => us[a + j * m]?)
  | 0 => .nil
  | k + 1 => by
    rw [List.range_succ, List.filterMap_append, List.filterMap_append]
    refine Vals.append (vals_step r a m k) ?_
    cases h : xs[a + k * m]? with
    | none =>
      have h' : us[a + k * m]? = none := r.none_of h
      simp [h, h']
      exact .nil
    | some x =>
      obtain ⟨u, h', ru⟩ := r.get h
      simp [h, h']
      exact .cons ru .nil
section
variable {X : Cx} {e lo st : Expr} {te tl ts : TE} {pos p2 : Pos}
def tStep (K : PySem.W.Frag) (te tl ts : TE) : TE := fun σ H Q => te σ H fun x H1 => tl σ H1 fun y H2 => ts σ H2 fun z H3 =>
  ∃ (t : Addr) (xs : List V) (a m k : Nat), x = .ref t ∧ y = .int (a : Nat) ∧ z = .int (m : Nat) ∧ SqT K H3 t xs ∧ a < m ∧ 0 < k ∧ xs.length = m * k ∧
    (m = 1 → Q (.ref t) H3) ∧ (m ≠ 1 → ∀ p, H3 p = none → Q (.ref p) (upd H3 p (.tup (stepV xs a m k))))
theorem slice3 {prog : Program} {w : World} {A : Around} {E : Value → Shared → Prop} {s : Shared} {env : Env} {Q : Value → Shared → Prop} (h : wpAny (model prog w) A (eval lo env) (fun vl s2 => wpAny (model prog w) A (eval st env) (fun vs s3 => Q (.ref s3.heap.objs.size) { s3 with heap := s3.heap.push { cls := .type "slice", data := .fields #[vl, .none, vs] } }) E s2) E s) :
    wpAny (model prog w) A (eval (.Slice (some lo) none (some st) p2) env) Q E s := by
  refine wpAny_Slice (thn h fun vl s2 q => ?_)
  rw [evalPart_none]
  exact wpAny_pure q
theorem pe_step (he : PE X e te) (hl : PE X lo tl) (hst : PE X st ts) : PE X (.Subscript e (.Slice (some lo) none (some st) p2) pos) (tStep X.K te tl ts) := by
  refine ⟨fun pins s σ H Q I h => ?_⟩
  refine Subscript_ (thn (he.run pins s σ H _ I h) fun v s1 ⟨x, H1, I1, r1, q1⟩ => ?_)
  refine slice3 (thn (hl.run pins s1 σ H1 _ I1 q1) fun vl s2 ⟨y, H2, I2, r2, q2⟩ => thn (hst.run pins s2 σ H2 _ I2 q2) fun vs s3 ⟨z, H3, I3, r3, q3⟩ => ?_)
  obtain ⟨t, xs, a, m, k, rfl, rfl, rfl, hq, ha, hk, hn, h1, h2⟩ := q3
  cases r1
  obtain ⟨u1, rfl⟩ := r2
  obtain ⟨u2, rfl⟩ := r3
  have I4 : Inv X pins σ H3 { s3 with heap := s3.heap.push { cls := .type "slice", data := .fields #[.int (a : Nat) u1, .none, .int (m : Nat) u2] } } := I3.kept (t' := s3.toks) fun b ob q => Heap.get?_push_of_some _ q
  obtain ⟨its, r, ht, hz⟩ := I4.tuple hq
  have hlen : its.toArray.size = xs.length := by rw [List.size_toArray]; exact r.length.symm
  show wpAny (model X.prog X.w) X.A (subscriptTail e (.Slice (some lo) none (some st) p2) (.ref t) (.ref s3.heap.objs.size)) (EP X pins σ Q) X.xe { s3 with heap := s3.heap.push { cls := .type "slice", data := .fields #[.int (a : Nat) u1, .none, .int (m : Nat) u2] } }
  refine tail_any (ops := [.ref t, .ref s3.heap.objs.size]) ht.typeIs PyProof.Rows.slot_tuple_getitem.lookup ?_ (by with_unfolding_all rfl)
  refine step_item ht (Heap.IsSliceOf.new ..) ha hk (by rw [hlen]; exact hn) (by rw [hlen]; exact hz) (fun em => ⟨.ref t, H3, I4, rfl, h1 em⟩) fun em => ?_
  have e1 : ((List.range k).filterMap fun (j : Nat) => its.toArray[((a : Int) + (j : Int) * (m : Int)).toNat]?) = (List.range k).filterMap fun j => its[a + j * m]? := by
    congr 1
    funext j
    have e2 : ((a : Int) + (j : Int) * (m : Int)).toNat = a + j * m := by
      rw [← Int.natCast_mul]; omega
    rw [e2]
    simp
  rw [e1]
  refine ⟨.ref _, _, I4.laid (t' := s3.toks) (o := .tup (stepV xs a m k)) (fun b ob q => Heap.get?_push_of_some _ q) (Nat.le_refl _) ?_, rfl, h2 em _ (I4.hok.fresh (Nat.le_refl _))⟩
  refine ⟨?_, _, vals_step r a m k, IsTup.new _ _⟩
  have q := List.length_filterMap_le (fun (j : Nat) => xs[a + j * m]?) (List.range k)
  rw [List.length_range] at q
  have hmk : k ≤ m * k := Nat.le_mul_of_pos_left k (by omega)
  show ((List.range k).filterMap fun j => xs[a + j * m]?).length ≤ sizeLine
  omega
end
end Ev
/-! EvSort: sorted(d.items()) of a dict from texts to ints. -/
namespace Ev
open PySem PySem.Spec PyProof.Rows L2
/-- v is a pair of the text y and the int n -/
def PairS (h : Heap) (v : Value) (y : Str) (n : Int) : Prop := ∃ (a : Addr) (t u : Tok), v = .ref a ∧ IsTup h a #[.str y t, .int n u]
def nameAt (h : Heap) (v : Value) : Str := DT.txOf (DT.seqAt0 h (DT.refOf (some v)))
theorem PairS.name {h : Heap} {v : Value} {y : Str} {n : Int} (x : PairS h v y n) : nameAt h v = y := by
  obtain ⟨a, t, u, rfl, h1⟩ := x
  show DT.txOf (DT.seqAt0 h a) = y
  rw [DT.seqAt0_of h1]
  all_goals rfl
theorem firsts_str {h : Heap} : ∀ vs : List Value, (∀ v ∈ vs, ∃ y n, PairS h v y n) → ∃ fs : List Value, PySem.W.KatTups h vs fs ∧ fs.length = vs.length ∧ ∀ f ∈ fs, ∃ x t, f = Value.str x t
  | [], _ => ⟨[], PySem.W.KatTups.nil, rfl, fun f hf => by simp at hf⟩
  | v :: vs, x => by
    obtain ⟨fs, k, hl, hi⟩ := firsts_str vs fun u hu => x u (List.mem_cons_of_mem _ hu)
    obtain ⟨y, n, a, t, u, rfl, ⟨o, ho, hc, c, hd⟩⟩ := x v (List.mem_cons_self ..)
    refine ⟨.str y t :: fs, PySem.W.KatTups.cons ho hc hd rfl k, by rw [List.length_cons, List.length_cons, hl], fun f hf => ?_⟩
    rcases List.mem_cons.mp hf with rfl | hf
    · exact ⟨y, t, rfl⟩
    · exact hi f hf
section
variable {prog : Program} {w : World} {A : Around} {E : Value → Shared → Prop} {s : Shared}
theorem kind_pairs {vs : List Value} {ρ : Str → Int} (h2 : 2 ≤ vs.length) (x : ∀ v ∈ vs, ∃ y n, PairS s.heap v y n)
    (one : ∀ v ∈ vs, ∀ u ∈ vs, ∀ y n m, PairS s.heap v y n → PairS s.heap u y m → n = m)
    (hr : ∀ v ∈ vs, ∀ u ∈ vs, decide ((nameAt s.heap v).cps.toList < (nameAt s.heap u).cps.toList) = decide (ρ (nameAt s.heap v) < ρ (nameAt s.heap u))) (Q : SortKind → Shared → Prop)
    (h : ∀ κ, TS.Cmp prog w A s κ (pairsOf vs) (fun v => ρ (nameAt s.heap v)) → Q κ s) : wpAny (model prog w) A (keyKind' vs.toArray) Q E s := by
  obtain ⟨fs, k, hl, hi⟩ := firsts_str vs x
  refine PySem.W.kat_kind (T := Value.type "str") k (by omega) (fun f hf => ?_) rfl (h _ ?_)
  · obtain ⟨y, t, rfl⟩ := hi f hf
    exact .now
  · intro p q hp hq Q' E' hQ
    rw [pairsOf_toList] at hp hq
    have mp := (mem_zip_self hp).2
    have mq := (mem_zip_self hq).2
    obtain ⟨y, n, py⟩ := x _ mp
    obtain ⟨z, m, pz⟩ := x _ mq
    have e0 := hr _ mp _ mq
    have hQ' : Q' (decide (y.cps.toList < z.cps.toList)) s := by
      rw [py.name, pz.name] at e0
      rw [e0]
      have hQ2 : Q' (decide (ρ (nameAt s.heap p.1) < ρ (nameAt s.heap q.1))) s := hQ
      rw [py.name, pz.name] at hQ2
      exact hQ2
    have o1 := one _ mp _ mq
    obtain ⟨a, t, u, e1, ⟨o, ho, hc, c, hd⟩⟩ := id py
    obtain ⟨a', t', u', e2, ⟨o', ho', hc', c', hd'⟩⟩ := id pz
    rw [e1, e2]
    refine PySem.W.kat_lt ho hd ho' hd' ?_
    show PySem.W.KatLex prog w A (Value.type "str" != Value.type "tuple") false Q' [(Value.str y t, Value.str z t'), (Value.int n u, Value.int m u')] 0 s
    by_cases e : y = z
    · subst e
      have enm : n = m := o1 y n m py pz
      subst enm
      have irr : decide (y.cps.toList < y.cps.toList) = false := by
        first | exact decide_eq_false (List.lt_irrefl _) | simp
      rw [irr] at hQ'
      refine PySem.W.kat_cons (SeqAt.EqAt.str_str y t y t' prog w _ _ ?_)
      rw [show (y == y) = true by simp]
      refine PySem.W.kat_yes (PySem.W.kat_cons (SeqAt.EqAt.int_int n u n u' prog w _ _ ?_))
      rw [show (n == n) = true by simp]
      exact PySem.W.kat_yes (PySem.W.kat_nil hQ')
    · refine PySem.W.kat_cons (SeqAt.EqAt.str_str y t z t' prog w _ _ ?_)
      rw [show (y == z) = false by simpa using e]
      refine PySem.W.kat_no ?_
      show wpAny _ _ (oneLt' true _ _) _ _ _
      exact oneLt_str hQ'
end
/-! ### d.items() of a dict of flat keys, as a value -/
section
variable {X : Cx}
def rItemsK : V → List V → Hp → VK → Prop := fun x xs H Q => ∃ (a : Addr) (kvs : List (L2.Key × V)), x = .ref a ∧ xs = [] ∧ H a = some (.dK kvs) ∧ ∀ p, H p = none → Q (.ref p) (upd H p (L2.DX.itemsO p a))
theorem mt_itemsK : MtR X "dict.items" rItemsK := by
  intro pins s σ H x xs v us Q I rx rxs h
  obtain ⟨a, kvs, rfl, rfl, ha, q⟩ := h
  cases rx
  cases rxs
  obtain ⟨z, hd, vs, rel, o, es, ep, ho, hx, hdat, _⟩ := dk_of I.hok ha
  refine DT.callItems (es := es) (ep := ep) hd ⟨o, ho, hx, hdat⟩ ?_
  exact ⟨.ref s.heap.objs.size, _, I.laid (t' := s.toks) (o := L2.DX.itemsO s.heap.objs.size a) (fun b u e => Heap.get?_push_of_some _ e) (Nat.le_refl _) (L2.DX.itemsO_ok (Heap.get?_push_size _ rfl)), rfl, q _ (I.hok.fresh (Nat.le_refl _))⟩
/-! ### sorted of it -/
abbrev ent (e : Str × Int) : L2.Key × V := (Sum.inr e.1, V.int e.2)
theorem pairs_get {P : Program} {w : World} : ∀ {es : List DictEntry} {vs : List (L2.Key × Value)} {ks : List (Str × Int)} {j : Nat} {en : DictEntry}, Pairs (mixKind P w) es vs → KV (ks.map ent) vs → es[j]? = some en →
    ∃ e : Str × Int, ks[j]? = some e ∧ ∃ t u, en.key = Value.str e.1 t ∧ en.val = Value.int e.2 u
  | [], _, _, j, en, _, _, h => by simp at h
  | e0 :: es, vs, ks, j, en, p, r, h => by
    cases p with
    | @cons _ kv _ kvs h1 h2 p =>
      match ks, r with
      | [], r => cases r
      | k :: ks, r =>
        rw [List.map_cons] at r
        cases r with
        | cons f r =>
          match j, h with
          | 0, h =>
            have e : e0 = en := Option.some.inj h
            subst e
            obtain ⟨f1, f2⟩ := f
            have f1 : Sum.inr k.1 = kv.1 := f1
            rw [← f1] at h1
            obtain ⟨t, e1⟩ := Value.isStrOf_shape (x := k.1) (v := e0.key) h1
            have f2 : RelV (V.int k.2) kv.2 := f2
            obtain ⟨u, e2⟩ := f2
            exact ⟨k, rfl, t, u, e1, h2.trans e2⟩
          | j + 1, h => exact pairs_get (j := j) p r h
def rSortP : List V → Hp → VK → Prop := fun vs H Q => ∃ (p a : Addr) (ks : List (Str × Int)) (ρ : Str → Int), vs = [.ref p] ∧ H p = some (L2.DX.itemsO p a) ∧ H a = some (.dK (ks.map ent)) ∧ ks.length < 64 ∧ (ks.map (·.1)).Nodup ∧
  (∀ e ∈ ks, ∀ f ∈ ks, decide (e.1.cps.toList < f.1.cps.toList) = decide (ρ e.1 < ρ f.1)) ∧
  ∀ (H' : Hp) (l : Addr) (ps : List (Addr × Str × Int)), Same H H' → (ps.map (·.2)).Perm ks → (ps.map (·.2)).Pairwise (fun e f => ρ e.1 ≤ ρ f.1) → H' l = some (.lst (ps.map fun z => V.ref z.1)) →
    (∀ z ∈ ps, H' z.1 = some (.tup [.str z.2.1, .int z.2.2])) → Q (.ref l) H'
theorem cr_sortedPairs (hc : X.calm = true) : CallR X (.builtin "sorted") rSortP := by
  intro pins s σ H xs us Q I r h
  obtain ⟨p, a, ks, ρ, rfl, hp, ha, h64, hnd, hρ, q⟩ := h
  obtain rfl := Vals.ref1 r
  have view : s.heap.IsItemsView p a := (show ObjOk X.prog X.w H s.heap p (L2.DX.itemsO p a) from I.hok p _ hp).1
  obtain ⟨z, hd, vs, rel, o, es, ep, ho, hx, hdat, hko, hpa, hn⟩ := dk_of I.hok ha
  have l1 : es.toList.length = vs.length := hpa.length
  have l2 : (ks.map ent).length = vs.length := Paired.length rel
  rw [List.length_map] at l2
  have l3 : es.size = ks.length := by rw [← Array.length_toList, l1, l2]
  refine DT.sortedI (es := es) (ep := ep) (I.ok.hd hc) view ⟨o, ho, hx, hdat⟩ (by rw [sizeLine_eq]; omega) fun h' tk as hk hlt hl hG => ?_
  have lak : as.length = ks.length := by omega
  have nd : as.Nodup := List.Pairwise.imp (fun h => Nat.ne_of_lt h) hG.rise
  have pr : ∀ (j : Nat) (b : Addr), as[j]? = some b → ∃ (e : Str × Int) (t u : Tok), ks[j]? = some e ∧ h'.get? b = some { cls := .type "tuple", data := .seq #[Value.str e.1 t, Value.int e.2 u] } := by
    intro j b hj
    obtain ⟨en, he, hg⟩ := hG.pairs j b hj
    obtain ⟨e, h1, t, u, h2, h3⟩ := pairs_get hpa rel (show es.toList[j]? = some en by rw [Array.getElem?_toList]; exact he)
    exact ⟨e, t, u, h1, by rw [hg, h2, h3]⟩
  have hob : (h'.push { cls := .type "list", data := .seq (as.map Value.ref).toArray }).get? h'.objs.size = some (seqObj "list" (as.map Value.ref).toArray 0) := Heap.get?_push_size _ rfl
  have kb : ∀ b o, s.heap.get? b = some o → (h'.push { cls := .type "list", data := .seq (as.map Value.ref).toArray }).get? b = some o := fun b o e => Heap.get?_push_of_some _ (hk b o e)
  have ne0 : ∀ b o, h'.get? b = some o → b ≠ h'.objs.size := fun b o e => Nat.ne_of_lt (Heap.lt_size e)
  generalize hh2 : h'.push { cls := .type "list", data := .seq (as.map Value.ref).toArray } = h2 at hob kb ⊢
  have ka : ∀ b o, h'.get? b = some o → h2.get? b = some o := fun b o e => by rw [← hh2]; exact Heap.get?_push_of_some _ e
  generalize hM : TS.midHeap h2 h'.objs.size (as.map Value.ref) = hm
  have km : ∀ b o, h'.get? b = some o → hm.get? b = some o := fun b o e => by rw [← hM]; exact TS.midHeap_old (ne0 _ _ e) (ka _ _ e)
  have pin : ∀ (j : Nat) (b : Addr), as[j]? = some b → ∃ e : Str × Int, ks[j]? = some e ∧ PairS hm (.ref b) e.1 e.2 := by
    intro j b hj
    obtain ⟨e, t, u, he, hg⟩ := pr j b hj
    exact ⟨e, he, b, t, u, rfl, ⟨_, km _ _ hg, rfl, 0, rfl⟩⟩
  have tx : ∀ (j : Nat) (b : Addr) (e : Str × Int), as[j]? = some b → ks[j]? = some e → nameAt hm (.ref b) = e.1 := by
    intro j b e hj he
    obtain ⟨e', he', hp'⟩ := pin j b hj
    have ee : e' = e := Option.some.inj (he'.symm.trans he)
    rw [← ee]
    exact hp'.name
  have at_ : ∀ v ∈ as.map Value.ref, ∃ (j : Nat) (b : Addr) (e : Str × Int), v = .ref b ∧ as[j]? = some b ∧ ks[j]? = some e ∧ PairS hm v e.1 e.2 := by
    intro v hv'
    obtain ⟨b, hb, rfl⟩ := List.mem_map.mp hv'
    obtain ⟨j, hj⟩ := List.mem_iff_getElem?.mp hb
    obtain ⟨e, he, hp'⟩ := pin j b hj
    exact ⟨j, b, e, rfl, hj, he, hp'⟩
  have val1 : ∀ v y n m, PairS hm v y n → PairS hm v y m → n = m := by
    rintro v y n m ⟨b, t, u, rfl, o1, g1, c1, n1, d1⟩ ⟨b', t', u', e, o2, g2, c2, n2, d2⟩
    cases e
    rw [g1] at g2
    cases g2
    rw [d1] at d2
    injection d2 with d2 _
    have d3 := congrArg Array.toList d2
    simp at d3
    exact d3.2.1
  refine wpAny_call_entry PyProof.Rows.slot_list_sort ⟨_, hob, rfl⟩ PyProof.Rows.entry_list_sort
    (SK.plain_sort (s := { s with heap := h2, toks := tk }) (r := fun v => ρ (nameAt hm v)) hob (by rw [List.length_map]; omega) (fun h2' Qk hQk => ?_) fun ps out o1 o2 o3 => ⟨.none, rfl, ?_⟩) (PyProof.Rows.args_list_sort _)
  · subst hM
    refine kind_pairs (s := { s with heap := TS.midHeap h2 h'.objs.size (as.map Value.ref), toks := tk }) (ρ := ρ) h2' (fun v hv' => ?_) (fun v hv' u hu' y n m p1 p2 => ?_) (fun v hv' u hu' => ?_) Qk hQk
    · obtain ⟨j, b, e, rfl, hj, he, hp'⟩ := at_ v hv'
      exact ⟨e.1, e.2, hp'⟩
    · obtain ⟨j, b, e, rfl, hj, he, hp1⟩ := at_ v hv'
      obtain ⟨j2, b2, e2, rfl, hj2, he2, hp2⟩ := at_ u hu'
      have y1 : e.1 = y := hp1.name.symm.trans p1.name
      have y2 : e2.1 = y := hp2.name.symm.trans p2.name
      have ej : j = j2 := by
        refine nd_ix hnd (x := y) ?_ ?_
        · rw [List.getElem?_map, he]; exact congrArg some y1
        · rw [List.getElem?_map, he2]; exact congrArg some y2
      subst ej
      have eb : b = b2 := Option.some.inj (hj.symm.trans hj2)
      subst eb
      exact val1 _ y n m p1 p2
    · obtain ⟨j, b, e, rfl, hj, he, _⟩ := at_ v hv'
      obtain ⟨j2, b2, e2, rfl, hj2, he2, _⟩ := at_ u hu'
      have t1 := tx j b e hj he
      have t2 := tx j2 b2 e2 hj2 he2
      simp only at t1 t2 ⊢
      rw [t1, t2]
      exact hρ e (List.mem_of_getElem? he) e2 (List.mem_of_getElem? he2)
  · show EP X pins σ Q (.ref h'.objs.size) { s with heap := sortedHeap h2 h'.objs.size (as.map Value.ref) out, toks := tk }
    obtain ⟨zs, pz, ez⟩ := perm_lift (fun z : Addr × Str × Int => (Value.ref z.1, Value.ref z.1)) o2 (as.zip ks) (L2.DX.zip_self Value.ref as ks lak)
    have idx : ∀ z ∈ zs, ∃ j : Nat, as[j]? = some z.1 ∧ ks[j]? = some z.2 := by
      intro z' hz'
      obtain ⟨j, hj⟩ := List.mem_iff_getElem?.mp (pz.mem_iff.mp hz')
      exact ⟨j, List.getElem?_zip_eq_some.mp hj⟩
    have hout : out.toList = zs.map fun z => Value.ref z.1 := by
      rw [o1, ← ez, List.map_map]
      all_goals rfl
    have hperm : (zs.map (·.2)).Perm ks := by
      have e := pz.map (·.2)
      have m2 : (as.zip ks).map (·.2) = ks := List.map_snd_zip (by rw [lak]; exact Nat.le_refl _)
      rw [m2] at e
      exact e
    have hsort : (zs.map (·.2)).Pairwise (fun e f => ρ e.1 ≤ ρ f.1) := by
      rw [← ez, List.pairwise_map] at o3
      rw [List.pairwise_map]
      refine List.Pairwise.imp_of_mem (fun {x y} hx hy h => ?_) o3
      obtain ⟨j, j1, j2⟩ := idx x hx
      obtain ⟨i, i1, i2⟩ := idx y hy
      have hle : ρ (nameAt hm (.ref x.1)) ≤ ρ (nameAt hm (.ref y.1)) := h
      rw [tx j _ _ j1 j2, tx i _ _ i1 i2] at hle
      exact hle
    have kF : ∀ b o, b ≠ h'.objs.size → h2.get? b = some o → (sortedHeap h2 h'.objs.size (as.map Value.ref) out).get? b = some o := fun b o hb e => (PyProof.Rows.sortedHeap_old hb (Heap.lt_size e)).trans e
    have kS : ∀ b o, s.heap.get? b = some o → (sortedHeap h2 h'.objs.size (as.map Value.ref) out).get? b = some o := fun b o e => kF b o (ne0 _ _ (hk b o e)) (kb b o e)
    obtain ⟨eF, heF⟩ := PyProof.Rows.sortedHeap_at (vs := as.map Value.ref) (out := out) hob
    have I1 : Inv X pins σ H { s with heap := sortedHeap h2 h'.objs.size (as.map Value.ref) out, toks := tk } := I.kept (t' := tk) kS
    have hn0 : H h'.objs.size = none := I.hok.fresh (Nat.le_of_lt hlt)
    have hlen : (zs.map fun z => V.ref z.1).length ≤ sizeLine := by
      have e := hperm.length_eq
      rw [List.length_map] at e
      rw [List.length_map, sizeLine_eq]
      omega
    have rv : Vals (zs.map fun z => V.ref z.1) out.toList := by
      rw [hout]
      exact vals_maps (fun z : Addr × Str × Int => V.ref z.1) (fun z => Value.ref z.1) zs fun _ _ => rfl
    have I2 : Inv X pins σ (upd H h'.objs.size (.lst (zs.map fun z => V.ref z.1))) { s with heap := sortedHeap h2 h'.objs.size (as.map Value.ref) out, toks := tk } :=
      I1.take (h' := sortedHeap h2 h'.objs.size (as.map Value.ref) out) (t' := tk) (fun b ob _ e => e) (I.fpOk (Nat.le_of_lt hlt) hn0) ⟨hlen, out.toList, eF, rv, heF⟩
    obtain ⟨H2, I3, g, qt⟩ := L2.DX.takeT (P := fun b vs => ∃ (j : Nat) (e : Str × Int), as[j]? = some b ∧ ks[j]? = some e ∧ vs = [.str e.1, .int e.2]) I as _ I2 nd fun b hb => by
      obtain ⟨j, hj⟩ := List.mem_iff_getElem?.mp hb
      obtain ⟨e, t, u, he, hg⟩ := pr j b hj
      have hbl : s.heap.objs.size ≤ b := Nat.le_of_lt (hG.above b hb)
      refine ⟨hbl, ?_, [.str e.1, .int e.2], ⟨j, e, hj, he, rfl⟩, fun H3 => ⟨(by rw [sizeLine_eq]; show 2 ≤ 16777216; omega), [Value.str e.1 t, Value.int e.2 u], .cons ⟨t, rfl⟩ (.cons ⟨u, rfl⟩ .nil), ⟨_, kF _ _ (ne0 _ _ hg) (ka _ _ hg), rfl, 0, rfl⟩⟩⟩
      rw [upd_ne (ne0 _ _ hg)]
      exact I.hok.fresh hbl
    have gr : Same H H2 := fun b o e => g b o (by rw [upd_ne (ne_of_none e hn0)]; exact e)
    refine ⟨.ref h'.objs.size, H2, I3, rfl, q H2 h'.objs.size zs gr hperm hsort (g _ _ upd_same) fun z' hz' => ?_⟩
    obtain ⟨i, i1, i2⟩ := idx z' hz'
    obtain ⟨vs', ⟨j, e, j1, j2, ev⟩, hH⟩ := qt z'.1 (List.mem_of_getElem? i1)
    have eij : i = j := (List.getElem?_inj (List.getElem?_eq_some_iff.mp i1).1 nd).mp (i1.trans j1.symm)
    subst eij
    have ee : e = z'.2 := Option.some.inj (j2.symm.trans i2)
    rw [ev, ee] at hH
    exact hH
end
end Ev
/-! EvBase: the text by places, the heap's predicates. -/
namespace Ev
open PySem PySem.Spec PyProof.Rows L2
def topS (i : Nat) : Stmt := PySem.Challenge.pw_evensamples_k72_whole_tables_of_divisors.main.body.getD i (.Pass ⟨0, 0, 0, 0⟩)
abbrev sItem : Stmt := topS 2
abbrev sLen : Stmt := topS 3
abbrev sNames : Stmt := topS 4
abbrev sLines : Stmt := topS 5
abbrev sAddC : Stmt := topS 6
abbrev sCounts : Stmt := topS 7
abbrev sTotals : Stmt := topS 8
abbrev sNothing : Stmt := topS 10
abbrev sJoined : Stmt := topS 11
abbrev sLineB : Stmt := topS 12
abbrev sRep : Stmt := topS 13
abbrev sBlock : Stmt := topS 14
abbrev sTable : Stmt := topS 15
abbrev sEven : Stmt := topS 16
abbrev sPot : Stmt := topS 18
abbrev sTake : Stmt := topS 19
abbrev sOf : Stmt := topS 20
abbrev sLNames : Stmt := topS 21
abbrev sLItems : Stmt := topS 22
abbrev sTicks : Stmt := topS 23
abbrev sSmall : Stmt := topS 24
abbrev sGreat : Stmt := topS 25
abbrev sMany : Stmt := topS 26
abbrev sFolded : Stmt := topS 27
abbrev sByName : Stmt := topS 28
abbrev sJR : Stmt := topS 29
abbrev sRight : Stmt := topS 30
abbrev sLaw : Stmt := topS 31

/-! ### heaps -/
theorem same_new {H : Hp} {p : Addr} (h : H p = none) (o : HO) : Same H (upd H p o) := fun b u q => by
  rw [upd_ne (ne_of_none q h)]
  exact q
theorem small64' {n : Nat} (h : n ≤ 1000) : n ≤ sizeLine := Nat.le_of_lt (small1000 h)
theorem lt_line {n : Nat} (h : n ≤ 10000) : n < sizeLine := by
  have e : sizeLine = 16777216 := sizeLine_eq
  omega
abbrev kLine : Str := "line"
abbrev kLoop : Str := "loop"
theorem line_loop : ¬ (V.str kLoop = V.str kLine) := by decide +kernel

/-- the values vs are the items of a program -/
def PgV (H : Hp) : Pg → List V → Prop
  | .nil, vs => vs = []
  | .line n t r, vs => ∃ (a : Addr) (rest : List V), vs = .ref a :: rest ∧ H a = some (.tup [.str kLine, .str n, .int t]) ∧ PgV H r rest
  | .loop k b r, vs => ∃ (a c : Addr) (bs rest : List V), vs = .ref a :: rest ∧ H a = some (.tup [.str kLoop, .int k, .ref c]) ∧ H c = some (.tup bs) ∧ PgV H b bs ∧ PgV H r rest
/-- at a stands a tuple of the items of P -/
def PgAt (H : Hp) (a : Addr) (P : Pg) : Prop := ∃ vs, H a = some (.tup vs) ∧ PgV H P vs
theorem PgV.same {H H' : Hp} (s : Same H H') : ∀ {P : Pg} {vs : List V}, PgV H P vs → PgV H' P vs
  | .nil, _, h => h
  | .line n t r, vs, h => by
    obtain ⟨a, rest, e, h1, h2⟩ := h
    exact ⟨a, rest, e, s _ _ h1, PgV.same s h2⟩
  | .loop k b r, vs, h => by
    obtain ⟨a, c, bs, rest, e, h1, h2, h3, h4⟩ := h
    exact ⟨a, c, bs, rest, e, s _ _ h1, s _ _ h2, PgV.same s h3, PgV.same s h4⟩
theorem PgAt.same {H H' : Hp} (s : Same H H') {a : Addr} {P : Pg} (h : PgAt H a P) : PgAt H' a P := by
  obtain ⟨vs, h1, h2⟩ := h
  exact ⟨vs, s _ _ h1, h2.same s⟩
theorem PgV.len {H : Hp} : ∀ {P : Pg} {vs : List V}, PgV H P vs → vs.length = P.wide
  | .nil, _, h => by
    have h : _ = [] := h
    rw [h]; rfl
  | .line n t r, vs, h => by
    obtain ⟨a, rest, e, h1, h2⟩ := h
    rw [e, List.length_cons, PgV.len h2]; rfl
  | .loop k b r, vs, h => by
    obtain ⟨a, c, bs, rest, e, h1, h2, h3, h4⟩ := h
    rw [e, List.length_cons, PgV.len h4]; rfl
theorem PgV.app {H : Hp} : ∀ {P R : Pg} {vs ws : List V}, PgV H P vs → PgV H R ws → PgV H (P.app R) (vs ++ ws)
  | .nil, R, vs, ws, h, q => by
    have h : vs = [] := h
    rw [h]; exact q
  | .line n t r, R, vs, ws, h, q => by
    obtain ⟨a, rest, e, h1, h2⟩ := h
    exact ⟨a, rest ++ ws, by rw [e]; rfl, h1, h2.app q⟩
  | .loop k b r, R, vs, ws, h, q => by
    obtain ⟨a, c, bs, rest, e, h1, h2, h3, h4⟩ := h
    exact ⟨a, c, bs, rest ++ ws, by rw [e]; rfl, h1, h2, h3, h4.app q⟩

/-! ### the items' walk: what is left of a program, of its values -/
/-- of the values xs the first i are gone, the others are the items of R -/
def Left (H : Hp) (xs : List V) (i : Nat) (R : Pg) : Prop := i ≤ xs.length ∧ PgV H R (xs.drop i)
theorem Left.start {H : Hp} {xs : List V} {P : Pg} (h : PgV H P xs) : Left H xs 0 P := ⟨Nat.zero_le _, h⟩
theorem Left.same {H H' : Hp} (s : Same H H') {xs : List V} {i : Nat} {R : Pg} (h : Left H xs i R) : Left H' xs i R := ⟨h.1, h.2.same s⟩
theorem Left.done {H : Hp} {xs : List V} {R : Pg} (h : Left H xs xs.length R) : R = .nil := by
  obtain ⟨_, h⟩ := h
  rw [List.drop_length] at h
  cases R with
  | nil => rfl
  | line n t r =>
    obtain ⟨a, rest, e, _⟩ := h
    cases e
  | loop k b r =>
    obtain ⟨a, c, bs, rest, e, _⟩ := h
    cases e
theorem drop_at {xs : List V} {i : Nat} {x : V} (h : xs[i]? = some x) : xs.drop i = x :: xs.drop (i + 1) := by
  obtain ⟨hi, e⟩ := List.getElem?_eq_some_iff.mp h
  rw [List.drop_eq_getElem_cons hi, e]
/-- the next item: a line or a loop -/
theorem Left.next {H : Hp} {xs : List V} {i : Nat} {R : Pg} {x : V} (h : Left H xs i R) (hx : xs[i]? = some x) :
    (∃ (n : Str) (t : Int) (r : Pg) (a : Addr), R = .line n t r ∧ x = .ref a ∧ H a = some (.tup [.str kLine, .str n, .int t]) ∧ Left H xs (i + 1) r) ∨
    ∃ (k : Int) (b r : Pg) (a c : Addr), R = .loop k b r ∧ x = .ref a ∧ H a = some (.tup [.str kLoop, .int k, .ref c]) ∧ PgAt H c b ∧ Left H xs (i + 1) r := by
  obtain ⟨hi, h⟩ := h
  rw [drop_at hx] at h
  have hi1 : i + 1 ≤ xs.length := (List.getElem?_eq_some_iff.mp hx).1
  cases R with
  | nil => cases h
  | line n t r =>
    obtain ⟨a, rest, e, h1, h2⟩ := h
    injection e with e1 e2
    exact .inl ⟨n, t, r, a, rfl, e1, h1, hi1, by rw [e2]; exact h2⟩
  | loop k b r =>
    obtain ⟨a, c, bs, rest, e, h1, h2, h3, h4⟩ := h
    injection e with e1 e2
    exact .inr ⟨k, b, r, a, c, rfl, e1, h1, ⟨bs, h2, h3⟩, hi1, by rw [e2]; exact h4⟩

theorem at0 {α : Type} {a : α} {r : List α} : atI (a :: r) 0 = some a := atI_nat (j := 0) rfl
theorem at1 {α : Type} {a b : α} {r : List α} : atI (a :: b :: r) 1 = some b := atI_nat (j := 1) rfl
theorem at2 {α : Type} {a b c : α} {r : List α} : atI (a :: b :: c :: r) 2 = some c := atI_nat (j := 2) rfl
end Ev
/-! EvP1: item_length and length. -/
namespace Ev
open PySem PySem.Spec PyProof.Rows L2
/-- the constant and the built-ins of the module -/
structure Txt (mg : Str → Option Value) : Prop where
  line : ∃ t, mg "LINE" = some (.str kLine t)
  sum : mg "sum" = none
  tuple : mg "tuple" = none
  sorted : mg "sorted" = none
  enumerate : mg "enumerate" = none
  int : mg "int" = none
  range : mg "range" = none
  len : mg "len" = none
  set : mg "set" = none
  abs : mg "abs" = none
  max : mg "max" = none
  min : mg "min" = none
  dict : mg "dict" = none
/-- a def of the module, ready to be called -/
structure Def (K : PySem.W.Frag) (mg : Str → Option Value) (x : Str) (st : Stmt) (ps : List Str) (f : Addr) (fd : FuncData) : Prop where
  fn : Fun K x x st f fd
  mg : mg x = some (.ref f)
  bi : Binds K fd ps []
theorem Def.kp {K : PySem.W.Frag} {mg : Str → Option Value} {x : Str} {st : Stmt} {ps : List Str} {f : Addr} {fd : FuncData} (d : Def K mg x st ps f fd) : PySem.W.keepIn K (.ref f) = true := d.fn.kp

theorem lc_yes {σ : L2.St} {H : Hp} {A B : Hp → Prop} (h : A H) : tYes σ H (fun b H3 => if b = true then A H3 else B H3) := iteT (A := A H) (B := B H) h
theorem no_calls {P : Program} {w : World} {K : PySem.W.Frag} {mg : Str → Option Value} {base : Heap} {f : Addr} {fd : FuncData} {ps : List Str} {k : Nat} {sp : Sp} (no : ∀ vs H Q E, ¬ sp vs H Q E) : FnOk P w K mg base CX0 k f fd ps sp :=
  ⟨fun vs H Q E h => absurd h (no vs H Q E), fun A outer s H args us vs Q E _ _ _ _ h => absurd h (no vs H Q E)⟩

section
variable {P : Program} {w : World} {K : PySem.W.Frag} {mg : Str → Option Value} {base : Heap}
def spItem (n : Nat) : Sp := fun vs H Q _ => ∃ a : Addr, vs = [.ref a] ∧
  ((∃ (x : Str) (t : Int), H a = some (.tup [.str kLine, .str x, .int t]) ∧ ∀ H', Same H H' → Q (.int t) H') ∨
   ∃ (k : Int) (b : Pg) (c : Addr), H a = some (.tup [.str kLoop, .int k, .ref c]) ∧ PgAt H c b ∧ (1 ≤ k ∧ k ≤ 10 ^ 18) ∧ b.ok ∧ b.dep + 1 ≤ n ∧ b.wide ≤ 200 ∧ ∀ H', Same H H' → Q (.int (k * b.len)) H')
def spLen (n : Nat) : Sp := fun vs H Q _ => ∃ (a : Addr) (p : Pg), vs = [.ref a] ∧ PgAt H a p ∧ p.ok ∧ p.dep ≤ n ∧ p.wide ≤ 200 ∧ ∀ H', Same H H' → Q (.int p.len) H'
theorem scItem : FnScope ["item"] ["item"] (defScope sItem) := ⟨rfl, rfl, rfl, by decide +kernel, rfl, by decide +kernel, by decide +kernel⟩
theorem scLen : FnScope ["program", "item"] ["program"] (defScope sLen) := ⟨rfl, rfl, rfl, by decide +kernel, rfl, by decide +kernel, by decide +kernel⟩
/-- item_length, where length keeps its promise one level down -/
theorem ok_item {n k : Nat} {f g : Addr} {fd gd : FuncData} (T : Txt mg) (D : Def K mg "item_length" sItem ["item"] f fd) (DL : Def K mg "length" sLen ["program"] g gd)
    (G : ∀ m, m + 1 = n → FnOk P w K mg base CX0 k g gd ["program"] (spLen m)) : FnOk P w K mg base CX0 (k + 1) f fd ["item"] (spItem n) := by
  obtain ⟨lt, hL⟩ := T.line
  refine D.fn.ok scItem (fun vs H Q E h => ?_) (fun cdv A outer s H vs Q E hr h => ?_)
  · obtain ⟨a, rfl, _⟩ := h
    rfl
  obtain ⟨a, rfl, h⟩ := h
  cases n with
  | zero =>
    rcases h with ⟨x, t, ha, q⟩ | ⟨kk, b, c, ha, _, _, _, hd, _⟩
    · refine ⟨_, pss_one (ps_ret (pe_ifExp (pt_cmpR op_eq (pe_ix ix_tup (pv 0) pe_int (fun _ _ => rfl)) (pe_glob (v := V.str kLine) rfl hL ⟨_, rfl⟩) (nomark _))
        (pe_ix ix_tup (pv 0) pe_int (fun _ _ => rfl)) (pe_op op_mul (pe_ix ix_tup (pv 0) pe_int (fun _ _ => rfl)) (pe_call (no_calls (P := P) (w := w) (K := K) (mg := mg) (base := base) (f := g) (fd := gd) (ps := ["program"]) (k := k) (sp := fun _ _ _ _ => False) fun _ _ _ _ h => h) hr rfl DL.mg DL.kp DL.bi .nil pass0 (pa_cons (pe_ix ix_tup (pv 0) pe_int (fun _ _ => rfl)) pa_nil))))), ?_⟩
      refine ⟨_, rfl, a, _, _, _, rfl, rfl, SqT.of ha, at0, rfl, _, rfl, ?_⟩
      refine ite2 (fun _ => ?_) (fun e => absurd (decide_eq_true rfl) e)
      exact ⟨_, rfl, a, _, _, _, rfl, rfl, SqT.of ha, at2, q H (Same.refl H)⟩
    · omega
  | succ m =>
    refine ⟨_, pss_one (ps_ret (pe_ifExp (pt_cmpR op_eq (pe_ix ix_tup (pv 0) pe_int (fun _ _ => rfl)) (pe_glob (v := V.str kLine) rfl hL ⟨_, rfl⟩) (nomark _))
      (pe_ix ix_tup (pv 0) pe_int (fun _ _ => rfl)) (pe_op op_mul (pe_ix ix_tup (pv 0) pe_int (fun _ _ => rfl)) (pe_call (G m rfl) hr rfl DL.mg DL.kp DL.bi .nil pass0 (pa_cons (pe_ix ix_tup (pv 0) pe_int (fun _ _ => rfl)) pa_nil))))), ?_⟩
    rcases h with ⟨x, t, ha, q⟩ | ⟨kk, b, c, ha, hb, hk, bo, hd, hw, q⟩
    · refine ⟨_, rfl, a, _, _, _, rfl, rfl, SqT.of ha, at0, rfl, _, rfl, ?_⟩
      refine ite2 (fun _ => ?_) (fun e => absurd (decide_eq_true rfl) e)
      exact ⟨_, rfl, a, _, _, _, rfl, rfl, SqT.of ha, at2, q H (Same.refl H)⟩
    · refine ⟨_, rfl, a, _, _, _, rfl, rfl, SqT.of ha, at0, rfl, _, rfl, ?_⟩
      refine ite2 (fun e => absurd (of_decide_eq_true e) line_loop) (fun _ => ?_)
      refine ⟨_, rfl, a, _, _, _, rfl, rfl, SqT.of ha, at1, _, rfl, a, _, _, _, rfl, rfl, SqT.of ha, at2, c, b, rfl, hb, bo, by omega, hw, fun H' sm => ?_⟩
      exact ⟨_, _, rfl, rfl, .inl ⟨by omega, by omega⟩, q H' sm⟩
theorem ok_len {n k : Nat} {f g : Addr} {fd gd : FuncData} (T : Txt mg) (D : Def K mg "item_length" sItem ["item"] f fd) (DL : Def K mg "length" sLen ["program"] g gd)
    (G : FnOk P w K mg base CX0 k f fd ["item"] (spItem n)) : FnOk P w K mg base CX0 (k + 1) g gd ["program"] (spLen n) := by
  refine DL.fn.ok scLen (fun vs H Q E h => ?_) (fun cdv A outer s H vs Q E hr h => ?_)
  · obtain ⟨a, p, rfl, _⟩ := h
    rfl
  obtain ⟨a, p, rfl, ⟨xs, ha, hv⟩, hp, hd, hw, q⟩ := h
  refine ⟨_, pss_one (ps_ret (pe_callB (cr_sum rfl) (by rfl) T.sum (by decide +kernel) (pa_cons
    (pe_lc (own := [("item", 1)]) (g := gName 1) rfl scLen.nd (pi_tup (pv 0)) (blkOk_by (N := ["program", "item"]) (sc := defScope sLen) (by decide +kernel))
      (fun _ _ _ _ _ => pg_name (i := 1) scLen.nd rfl (Or.inl rfl)) (fun _ _ _ _ _ => pts_nil)
      (fun _ _ _ _ _ => pe_call G hr rfl D.mg D.kp D.bi .nil pass0 (pa_cons (pv 1) pa_nil))) pa_nil))), ?_⟩
  have hxl : xs.length ≤ 200 := by rw [hv.len]; exact hw
  refine ⟨_, rfl, a, rfl, ⟨_, SqT.of ha⟩, fun L hL => ?_⟩
  have hna : a ≠ L := ne_of_none ha hL
  refine lc_tup (K := K) (a := a) (xs := xs) (fun i H' => ∃ (R : Pg) (acc : List Int), Same H H' ∧ Left H xs i R ∧ H' L = some (.lst (acc.map V.int)) ∧ acc.length = i ∧ acc.sum + R.len = p.len ∧ R.ok ∧ R.dep ≤ n)
    ⟨p, [], same_new hL _, Left.start hv, upd_same, rfl, by show 0 + p.len = p.len; omega, hp, hd⟩ (fun i H' _ ⟨_, _, sm, _⟩ => SqT.of (sm _ _ ha)) ?_ ?_
  · rintro i x H' hx ⟨R, acc, sm, lf, hl, hlen, hsum, hok, hdep⟩
    refine ⟨rfl, lc_yes ?_⟩
    have hi : i < xs.length := (List.getElem?_eq_some_iff.mp hx).1
    -- the turn's end, for any value
    have fin : ∀ (r : Pg) (v : Int) (H2 : Hp), Same H' H2 → Left H xs (i + 1) r → v + r.len = R.len → r.ok → r.dep ≤ n →
        ∃ ac, H2 L = some (.lst ac) ∧ ac.length < sizeLine ∧ ∃ (R : Pg) (acc : List Int), Same H (upd H2 L (.lst (ac ++ [V.int v]))) ∧ Left H xs (i + 1) R ∧ (upd H2 L (.lst (ac ++ [V.int v]))) L = some (.lst (acc.map V.int)) ∧ acc.length = i + 1 ∧ acc.sum + R.len = p.len ∧ R.ok ∧ R.dep ≤ n := by
      intro r v H2 sm2 lf2 hlen2 ho hdp
      refine ⟨_, sm2 _ _ hl, by rw [List.length_map]; exact lt_line (by omega), r, acc ++ [v], fun b o e => ?_, lf2, ?_, ?_, ?_, ho, hdp⟩
      · rw [upd_ne (ne_of_none e hL)]
        exact sm2 _ _ (sm _ _ e)
      · rw [upd_same, List.map_append]; rfl
      · rw [List.length_append, hlen]; rfl
      · rw [List.sum_append]
        show acc.sum + (v + 0) + r.len = p.len
        omega
    rcases lf.next hx with ⟨nm, t, r, b, rfl, rfl, hb, lf2⟩ | ⟨kk, bd, r, b, c, rfl, rfl, hb, hc, lf2⟩
    · exact ⟨_, rfl, b, rfl, .inl ⟨nm, t, sm _ _ hb, fun H2 sm2 => fin r t H2 sm2 lf2 rfl hok.2 hdep⟩⟩
    · obtain ⟨hk, hbo, _, hbw, hro⟩ := hok
      have hdd : max (bd.dep + 1) r.dep ≤ n := hdep
      exact ⟨_, rfl, b, rfl, .inr ⟨kk, bd, c, sm _ _ hb, hc.same sm, hk, hbo, by omega, by omega, fun H2 sm2 => fin r (kk * bd.len) H2 sm2 lf2 rfl hro (by omega)⟩⟩
  · rintro H' ⟨R, acc, sm, lf, hl, hlen, hsum, hok, hdep⟩
    refine ⟨L, acc, rfl, SqL.of hl, ?_⟩
    have e := lf.done
    subst e
    have e2 : acc.sum = p.len := by
      have e3 : (Pg.nil).len = 0 := rfl
      omega
    rw [e2]
    exact q H' sm
/-- both, to any depth -/
theorem len_all {f g : Addr} {fd gd : FuncData} (T : Txt mg) (D : Def K mg "item_length" sItem ["item"] f fd) (DL : Def K mg "length" sLen ["program"] g gd) : ∀ n : Nat, FnOk P w K mg base CX0 (2 * n + 2) g gd ["program"] (spLen n)
  | 0 => ok_len (k := 1) T D DL (ok_item (k := 0) T D DL fun m h => absurd h (Nat.succ_ne_zero m))
  | n + 1 => by
    have ih := len_all T D DL n
    have h1 : FnOk P w K mg base CX0 (2 * n + 3) f fd ["item"] (spItem (n + 1)) := ok_item T D DL fun m h => by
      have e : m = n := Nat.succ.inj h
      rw [e]; exact ih
    exact ok_len T D DL h1
end
end Ev
/-! EvP2: names in order; names_of and lines_of. -/
namespace Ev
open PySem PySem.Spec PyProof.Rows L2
/-! ### texts in ascending order -/
theorem lt_irr : ∀ a : List Nat, ltCps a a = false
  | [] => rfl
  | a :: r => by
    show (decide (a < a) || (a == a && ltCps r r)) = false
    rw [lt_irr r]; simp
theorem lt_tri : ∀ a b : List Nat, ltCps a b = false → ltCps b a = false → a = b
  | [], [], _, _ => rfl
  | [], _ :: _, h, _ => by cases h
  | _ :: _, [], _, h => by cases h
  | a :: r, b :: t, h1, h2 => by
    have h1 : (decide (a < b) || (a == b && ltCps r t)) = false := h1
    have h2 : (decide (b < a) || (b == a && ltCps t r)) = false := h2
    simp at h1 h2
    have e : a = b := by omega
    subst e
    rw [lt_tri r t (h1.2 rfl) (h2.2 rfl)]
theorem lt_tra : ∀ a b c : List Nat, ltCps a b = true → ltCps b c = true → ltCps a c = true
  | [], [], _, h, _ => by cases h
  | [], _ :: _, [], _, h => by cases h
  | [], _ :: _, _ :: _, _, _ => rfl
  | _ :: _, [], _, h, _ => by cases h
  | _ :: _, _ :: _, [], _, h => by cases h
  | a :: r, b :: t, c :: u, h1, h2 => by
    have h1 : (decide (a < b) || (a == b && ltCps r t)) = true := h1
    have h2 : (decide (b < c) || (b == c && ltCps t u)) = true := h2
    show (decide (a < c) || (a == c && ltCps r u)) = true
    simp at h1 h2 ⊢
    rcases h1 with h1 | ⟨h1, h3⟩
    · rcases h2 with h2 | ⟨h2, h4⟩
      · left; omega
      · left; omega
    · rcases h2 with h2 | ⟨h2, h4⟩
      · left; omega
      · right; exact ⟨by omega, lt_tra r t u h3 h4⟩
abbrev ltS (a b : Str) : Bool := ltCps a.cps.toList b.cps.toList
theorem str_ext {a b : Str} (h : a.cps.toList = b.cps.toList) : a = b := by
  cases a
  cases b
  congr
  exact Array.toList_inj.mp h
/-- a is not above b -/
def leT (a b : Str) : Prop := ltS b a = false
theorem leT_tra {a b c : Str} (h1 : leT a b) (h2 : leT b c) : leT a c := by
  unfold leT at *
  cases h : ltS c a with
  | false => rfl
  | true =>
    exfalso
    cases h3 : ltS a b with
    | true =>
      have q := lt_tra _ _ _ h h3
      rw [show ltCps c.cps.toList b.cps.toList = false from h2] at q
      cases q
    | false =>
      have e : a = b := str_ext (lt_tri _ _ h3 h1)
      rw [e, h2] at h
      cases h
theorem leT_anti {a b : Str} (h1 : leT a b) (h2 : leT b a) : a = b := str_ext (lt_tri _ _ h2 h1)
theorem leT_tot (a b : Str) : leT a b ∨ leT b a := by
  unfold leT
  cases h : ltS b a with
  | false => exact .inl rfl
  | true =>
    right
    cases h2 : ltS a b with
    | false => rfl
    | true =>
      have q := lt_tra _ _ _ h h2
      rw [show ltCps b.cps.toList b.cps.toList = false from lt_irr _] at q
      cases q
theorem rising_pw : ∀ (l : List Str) (p : Str), risingS p l = true → (p :: l).Pairwise leT
  | [], p, _ => by simp
  | x :: r, p, h => by
    have h : (!ltCps x.cps.toList p.cps.toList && risingS x r) = true := h
    rw [Bool.and_eq_true] at h
    have ih := rising_pw r x h.2
    have hpx : leT p x := by
      have q := h.1
      unfold leT
      simpa using q
    refine List.pairwise_cons.mpr ⟨fun y hy => ?_, ih⟩
    rcases List.mem_cons.mp hy with rfl | hy
    · exact hpx
    · exact leT_tra hpx ((List.pairwise_cons.mp ih).1 y hy)
theorem sorted_pw {l : List Str} (h : sortedS l = true) : l.Pairwise leT := by
  cases l with
  | nil => exact List.Pairwise.nil
  | cons p r => exact rising_pw r p h
theorem sorted_one : ∀ {l m : List Str}, l.Perm m → l.Pairwise leT → m.Pairwise leT → l = m
  | [], m, hp, _, _ => (List.nil_perm.mp hp).symm
  | a :: l, [], hp, _, _ => by have q := hp.length_eq; simp at q
  | a :: l, b :: m, hp, h1, h2 => by
    have ea : a = b := by
      have ha : a ∈ b :: m := hp.mem_iff.mp List.mem_cons_self
      have hb : b ∈ a :: l := hp.mem_iff.mpr List.mem_cons_self
      rcases List.mem_cons.mp ha with e | ha
      · exact e
      · rcases List.mem_cons.mp hb with e | hb
        · exact e.symm
        · exact leT_anti ((List.pairwise_cons.mp h1).1 b hb) ((List.pairwise_cons.mp h2).1 a ha)
    subst ea
    rw [sorted_one (List.Perm.cons_inv hp) (List.pairwise_cons.mp h1).2 (List.pairwise_cons.mp h2).2]
/-- put one in its place -/
def insT (x : Str) : List Str → List Str
  | [] => [x]
  | y :: r => if ltS y x then y :: insT x r else x :: y :: r
def sortT : List Str → List Str
  | [] => []
  | x :: r => insT x (sortT r)
theorem ins_perm (x : Str) : ∀ l, (insT x l).Perm (x :: l)
  | [] => List.Perm.refl _
  | y :: r => by
    unfold insT
    by_cases h : ltS y x = true
    · rw [if_pos h]
      exact ((ins_perm x r).cons y).trans (List.Perm.swap x y r)
    · rw [if_neg h]
theorem sort_perm : ∀ l, (sortT l).Perm l
  | [] => List.Perm.refl _
  | x :: r => (ins_perm x (sortT r)).trans ((sort_perm r).cons x)
theorem ins_pw (x : Str) : ∀ l, l.Pairwise leT → (insT x l).Pairwise leT
  | [], _ => by simp [insT]
  | y :: r, h => by
    unfold insT
    obtain ⟨h1, h2⟩ := List.pairwise_cons.mp h
    by_cases c : ltS y x = true
    · rw [if_pos c]
      refine List.pairwise_cons.mpr ⟨fun z hz => ?_, ins_pw x r h2⟩
      rcases List.mem_cons.mp ((ins_perm x r).mem_iff.mp hz) with rfl | hz
      · unfold leT
        cases q : ltS z y with
        | false => rfl
        | true =>
          have q2 := lt_tra _ _ _ q c
          rw [show ltCps z.cps.toList z.cps.toList = false from lt_irr _] at q2
          cases q2
      · exact h1 z hz
    · rw [if_neg c]
      have hxy : leT x y := by
        unfold leT
        simpa using c
      refine List.pairwise_cons.mpr ⟨fun z hz => ?_, h⟩
      rcases List.mem_cons.mp hz with rfl | hz
      · exact hxy
      · exact leT_tra hxy (h1 z hz)
theorem sort_pw : ∀ l, (sortT l).Pairwise leT
  | [] => List.Pairwise.nil
  | x :: r => ins_pw x _ (sort_pw r)
/-- the lines of a program -/
def Pg.lines (p : Pg) : List Str := sortT (p.nm [])
theorem lines_of_sorted {p : Pg} {ys : List Str} (h : ys.Perm (p.nm [])) (hs : ys.Pairwise leT) : ys = p.lines :=
  sorted_one (h.trans (sort_perm _).symm) hs (sort_pw _)
theorem lines_nd (p : Pg) : p.lines.Nodup := (sort_perm _).nodup_iff.mpr (nd_nm p [] List.nodup_nil)
theorem mem_lines {p : Pg} {x : Str} : x ∈ p.lines ↔ p.has x := by
  unfold Pg.lines
  rw [(sort_perm _).mem_iff, mem_nm]
  simp
/-! ### few names -/
def pool : List Str := ["a", "b", "idle", "line", "loop", "x", "zzzzzzzz", "abcdefgh"]
def InPool (p : Pg) : Prop := ∀ x, p.has x → x ∈ pool
theorem nd_len {α : Type} [DecidableEq α] : ∀ (l D : List α), l.Nodup → (∀ x ∈ l, x ∈ D) → l.length ≤ D.length
  | [], _, _, _ => Nat.zero_le _
  | x :: l, D, hn, hs => by
    obtain ⟨h1, h2⟩ := List.nodup_cons.mp hn
    have hx : x ∈ D := hs x List.mem_cons_self
    have ih := nd_len l (D.erase x) h2 fun y hy => (List.mem_erase_of_ne fun e => h1 (by rw [← e]; exact hy)).2 (hs y (List.mem_cons_of_mem _ hy))
    have e := List.length_erase_of_mem hx
    have hp : 0 < D.length := List.length_pos_of_mem hx
    rw [List.length_cons]
    omega
theorem nm_few {p : Pg} (h : InPool p) : (p.nm []).length ≤ 8 := nd_len _ pool (nd_nm p [] List.nodup_nil) fun x hx => h x (((mem_nm p []).mp hx).elim (fun z => by cases z) id)
theorem lines_few {p : Pg} (h : InPool p) : p.lines.length ≤ 8 := by
  have e := (sort_perm (p.nm [])).length_eq
  show (sortT (p.nm [])).length ≤ 8
  rw [e]
  exact nm_few h
/-! ### a dict whose keys are names -/
abbrev entN (x : Str) : L2.Key × V := (Sum.inr x, V.bl true)
theorem val_map {f : Str → V} {x : Str} : ∀ {ks : List Str}, valV (ks.map fun k => ((Sum.inr k : L2.Key), f k)) (Sum.inr x) = if x ∈ ks then some (f x) else none
  | [] => rfl
  | k :: ks => by
    rw [List.map_cons]
    by_cases e : k = x
    · subst e
      rw [valV_pos (p := ((Sum.inr k : L2.Key), f k)) rfl, if_pos List.mem_cons_self]
    · have ih := val_map (f := f) (x := x) (ks := ks)
      rw [valV_neg (p := ((Sum.inr k : L2.Key), f k)) (fun z => e (Sum.inr.inj z)), ih]
      by_cases h : x ∈ ks
      · rw [if_pos h, if_pos (List.mem_cons_of_mem _ h)]
      · rw [if_neg h, if_neg fun z => ?_]
        rcases List.mem_cons.mp z with z | z
        · exact e z.symm
        · exact h z
theorem put_entN (ks : List Str) (x : Str) : putK (ks.map entN) (Sum.inr x) (V.bl true) = (put ks x).map entN := by
  unfold put
  by_cases h : x ∈ ks
  · rw [if_pos h]
    unfold putK
    have a : ((ks.map entN).any fun kv => decide (kv.1 = (Sum.inr x : L2.Key))) = true := by
      rw [List.any_eq_true]
      exact ⟨entN x, List.mem_map.mpr ⟨x, h, rfl⟩, decide_eq_true rfl⟩
    rw [if_pos a, List.map_map]
    refine List.map_congr_left fun k hk => ?_
    show (if (Sum.inr k : L2.Key) = Sum.inr x then ((Sum.inr k : L2.Key), V.bl true) else ((Sum.inr k : L2.Key), V.bl true)) = (Sum.inr k, V.bl true)
    split <;> rfl
  · rw [if_neg h, putK_new]
    · rw [List.map_append]; rfl
    · have q := val_map (f := fun _ => V.bl true) (x := x) (ks := ks)
      rw [if_neg h] at q
      exact q
theorem mrg_entN : ∀ (js ks : List Str), mergeK (ks.map entN) (js.map entN) = (mrg ks js).map entN
  | [], ks => rfl
  | j :: js, ks => by
    show mergeK (putK (ks.map entN) (Sum.inr j) (V.bl true)) (js.map entN) = (mrg (put ks j) js).map entN
    rw [put_entN, mrg_entN]
section
variable {P : Program} {w : World} {K : PySem.W.Frag} {mg : Str → Option Value} {base : Heap}
theorem scNames : FnScope ["items", "found", "item"] ["items"] (defScope sNames) := ⟨rfl, rfl, rfl, by decide +kernel, rfl, by decide +kernel, by decide +kernel⟩
theorem scLines : FnScope ["program"] ["program"] (defScope sLines) := ⟨rfl, rfl, rfl, by decide +kernel, rfl, by decide +kernel, by decide +kernel⟩
def spNames (n : Nat) : Sp := fun vs H Q _ => ∃ (a : Addr) (p : Pg), vs = [.ref a] ∧ PgAt H a p ∧ InPool p ∧ p.dep ≤ n ∧ ∀ (H' : Hp) (d : Addr), Same H H' → H d = none → H' d = some (.dK ((p.nm []).map entN)) → Q (.ref d) H'
def spLines : Sp := fun vs H Q _ => ∃ (a : Addr) (p : Pg), vs = [.ref a] ∧ PgAt H a p ∧ InPool p ∧ p.dep ≤ 5 ∧ ∀ (H' : Hp) (t : Addr), Same H H' → H t = none → H' t = some (.tup (p.lines.map V.str)) → Q (.ref t) H'
theorem nm_subset {p : Pg} {ks : List Str} (h : InPool p) (hk : ∀ x ∈ ks, x ∈ pool) : ∀ x ∈ p.nm ks, x ∈ pool := fun x hx => ((mem_nm p ks).mp hx).elim (hk x) (h x)
theorem ok_names {n k : Nat} {f : Addr} {fd : FuncData} (T : Txt mg) (D : Def K mg "names_of" sNames ["items"] f fd)
    (G : ∃ sp, FnOk P w K mg base CX0 k f fd ["items"] sp ∧ ∀ m, m + 1 = n → sp = spNames m) : FnOk P w K mg base CX0 (k + 1) f fd ["items"] (spNames n) := by
  obtain ⟨lt, hL⟩ := T.line
  obtain ⟨sp, G, hsp⟩ := G
  refine D.fn.ok scNames (fun vs H Q E h => ?_) (fun cdv A outer s H vs Q E hr h => ?_)
  · obtain ⟨a, p, rfl, _⟩ := h
    rfl
  obtain ⟨a, p, rfl, ⟨xs, ha, hv⟩, hp, hd, q⟩ := h
  refine ⟨_, pss_cons (ps_set (i := 1) scNames.nd rfl (Or.inl rfl) pe_dnewK)
    (pss_cons (ps_for PassesOwn.never rfl (pi_tup (pv 0)) (pg_name (i := 2) scNames.nd rfl (Or.inl rfl))
      (pss_one (ps_expr (pe_bm PySem.F.plainAttrs_dict PySem.F.slot_dict_update PySem.F.type_dict_update mt_update (pv 1)
        (pa_cons (pe_ifExp (pt_cmpR op_eq (pe_ix ix_tup (pv 2) pe_int (fun _ _ => rfl)) (pe_glob (v := V.str kLine) rfl hL ⟨_, rfl⟩) (nomark _))
          (pe_disp (pps_cons (pe_ix ix_tup (pv 2) pe_int (fun _ _ => rfl)) pe_bl pps_nil) (by rfl) (by rfl) (fun z => by cases z) (by decide))
          (pe_call G hr rfl D.mg D.kp D.bi .nil pass0 (pa_cons (pe_ix ix_tup (pv 2) pe_int (fun _ _ => rfl)) pa_nil))) pa_nil)))))
    (pss_one (ps_ret (pv 1)))), ?_⟩
  intro d hdn
  have hna : a ≠ d := ne_of_none ha hdn
  refine ⟨_, rfl, a, rfl, ⟨_, SqT.of (same_new hdn _ _ _ ha)⟩, for_tup (K := K) (a := a) (xs := xs) (fun i σ H' => ∃ (R : Pg) (ks : List Str) (v : Option V), σ = [some (.ref a), some (.ref d), v] ∧ Same H H' ∧ Left H xs i R ∧ H' d = some (.dK (ks.map entN)) ∧ R.nm ks = p.nm [] ∧ ks.Nodup ∧ (∀ x ∈ ks, x ∈ pool) ∧ InPool R ∧ R.dep ≤ n)
    ⟨p, [], none, rfl, same_new hdn _, Left.start hv, upd_same, rfl, List.nodup_nil, (fun x h => by cases h), hp, hd⟩ (fun i σ H' _ ⟨_, _, _, _, sm, _⟩ => SqT.of (sm _ _ ha)) ?_ ?_⟩
  · rintro i x σ H' hx ⟨R, ks, v, rfl, sm, lf, hdk, hnm, hnd, hin, hRp, hdep⟩
    have hkl : ks.length ≤ 8 := nd_len _ pool hnd hin
    rcases lf.next hx with ⟨nm, t, r, b, rfl, rfl, hb, lf2⟩ | ⟨kk, bd, r, b, c, rfl, rfl, hb, hc, lf2⟩
    · have hb' := sm _ _ hb
      refine ⟨_, rfl, .inr (.inr (.inl ⟨rfl, .inl ⟨_, hdk⟩⟩)), _, rfl, b, _, _, _, rfl, rfl, SqT.of hb', at0, rfl, _, rfl, ?_⟩
      refine ite2 (fun _ => ?_) (fun e => absurd (decide_eq_true rfl) e)
      intro e he
      have hbe : b ≠ e := ne_of_none hb' he
      have hde : d ≠ e := ne_of_none hdk he
      refine ⟨_, rfl, b, _, _, _, rfl, rfl, SqT.of (same_new he _ _ _ hb'), at1, upd_same, [(Sum.inr nm, V.bl true)], rfl, by show 1 ≤ 15; decide, ?_⟩
      rw [upd_upd]
      refine ⟨d, e, _, [entN nm], rfl, rfl, (upd_ne hde).trans hdk, upd_same, hde, by rw [List.length_map]; show ks.length + 1 ≤ sizeLine; exact small64' (by omega), ?_⟩
      refine ⟨r, put ks nm, _, rfl, fun z o ez => ?_, lf2, ?_, hnm, nd_put hnd, fun x hxx => ?_, fun x hxx => hRp x (.inr hxx), hdep⟩
      · rw [upd_ne (ne_of_none ez hdn), upd_ne (ne_of_none (sm _ _ ez) he)]
        exact sm _ _ ez
      · rw [upd_same]
        show some (HO.dK (putK (ks.map entN) (Sum.inr nm) (V.bl true))) = _
        rw [put_entN]
      · rcases mem_put.mp hxx with z | z
        · exact hin x z
        · exact hRp x (.inl z)
    · have hb' := sm _ _ hb
      have hdd : max (bd.dep + 1) r.dep ≤ n := hdep
      obtain ⟨m, rfl⟩ : ∃ m, n = m + 1 := ⟨n - 1, by omega⟩
      have esp := hsp m rfl
      subst esp
      refine ⟨_, rfl, .inr (.inr (.inl ⟨rfl, .inl ⟨_, hdk⟩⟩)), _, rfl, b, _, _, _, rfl, rfl, SqT.of hb', at0, rfl, _, rfl, ?_⟩
      refine ite2 (fun e => absurd (of_decide_eq_true e) line_loop) (fun _ => ?_)
      have hbp : InPool bd := fun x hxx => hRp x (.inl hxx)
      refine ⟨_, rfl, b, _, _, _, rfl, rfl, SqT.of hb', at2, c, bd, rfl, hc.same sm, hbp, by omega, fun H2 e sm2 he hek => ?_⟩
      have hde : d ≠ e := ne_of_none hdk he
      have hjl : (bd.nm []).length ≤ 8 := nm_few hbp
      refine ⟨d, e, _, _, rfl, rfl, sm2 _ _ hdk, hek, hde, by rw [List.length_map, List.length_map]; exact small64' (by omega), ?_⟩
      refine ⟨r, mrg ks (bd.nm []), _, rfl, fun z o ez => ?_, lf2, ?_, hnm, nd_mrg hnd, fun x hxx => ?_, fun x hxx => hRp x (.inr hxx), by omega⟩
      · rw [upd_ne (ne_of_none ez hdn)]
        exact sm2 _ _ (sm _ _ ez)
      · rw [upd_same, mrg_entN]
      · rcases mem_mrg.mp hxx with z | z
        · exact hin x z
        · exact nm_subset hbp (fun y hy => by cases hy) x z
  · rintro σ H' ⟨R, ks, v, rfl, sm, lf, hdk, hnm, hnd, hin, hRp, hdep⟩
    have e := lf.done
    subst e
    have hnm : ks = p.nm [] := hnm
    subst hnm
    exact ⟨_, rfl, q H' d sm hdn hdk⟩
theorem names_all {f : Addr} {fd : FuncData} (T : Txt mg) (D : Def K mg "names_of" sNames ["items"] f fd) : ∀ n : Nat, FnOk P w K mg base CX0 (n + 1) f fd ["items"] (spNames n)
  | 0 => ok_names (k := 0) T D ⟨fun _ _ _ _ => False, no_calls fun _ _ _ _ h => h, fun m h => absurd h (Nat.succ_ne_zero m)⟩
  | n + 1 => ok_names T D ⟨spNames n, names_all T D n, fun m h => by rw [Nat.succ.inj h]⟩
theorem ok_lines {f g : Addr} {fd gd : FuncData} (T : Txt mg) (D : Def K mg "lines_of" sLines ["program"] f fd) (DN : Def K mg "names_of" sNames ["items"] g gd) : FnOk P w K mg base CX0 7 f fd ["program"] spLines := by
  have G : FnOk P w K mg base CX0 6 g gd ["items"] (spNames 5) := names_all T DN 5
  refine D.fn.ok scLines (fun vs H Q E h => ?_) (fun cdv A outer s H vs Q E hr h => ?_)
  · obtain ⟨a, p, rfl, _⟩ := h
    rfl
  obtain ⟨a, p, rfl, ha, hp, hd, q⟩ := h
  refine ⟨_, pss_one (ps_ret (pe_callTy call_tuple_of (by rfl) T.tuple (by decide +kernel) (pa_cons (pe_callB (call_sortedD rfl) (by rfl) T.sorted (by decide +kernel)
    (pa_cons (pe_call G hr rfl DN.mg DN.kp DN.bi .nil pass0 (pa_cons (pv 0) pa_nil)) pa_nil)) pa_nil))), ?_⟩
  refine ⟨_, rfl, a, p, rfl, ha, hp, hd, fun H1 d sm hdn hdk => ?_⟩
  refine ⟨d, _, p.nm [], rfl, .inl hdk, by rw [List.map_map]; rfl, by have := nm_few hp; omega, fun ys l hys hs hl => ?_⟩
  have ey : ys = p.lines := lines_of_sorted hys (sorted_pw hs)
  subst ey
  refine ⟨l, _, rfl, .inl ⟨SqL.of upd_same, fun t ht => ?_⟩⟩
  have htl : t ≠ l := fun e => by rw [e, upd_same] at ht; cases ht
  refine q _ t (sm.trans ((same_new hl _).trans (same_new ht _))) ?_ upd_same
  cases e : H t with
  | none => rfl
  | some o =>
    have z := sm _ _ e
    rw [upd_ne htl, z] at ht
    cases ht
end
end Ev
/-! EvP3: add_counts, counts_of, totals. -/
namespace Ev
open PySem PySem.Spec PyProof.Rows L2
abbrev entI (f : Str → Int) (x : Str) : L2.Key × V := (Sum.inr x, V.int (f x))
theorem put_map (ks : List Str) (f : Str → V) (x : Str) (v : V) : putK (ks.map fun k => ((Sum.inr k : L2.Key), f k)) (Sum.inr x) v = (put ks x).map fun k => ((Sum.inr k : L2.Key), if k = x then v else f k) := by
  unfold put
  by_cases h : x ∈ ks
  · rw [if_pos h]
    unfold putK
    have a : ((ks.map fun k => ((Sum.inr k : L2.Key), f k)).any fun kv => decide (kv.1 = (Sum.inr x : L2.Key))) = true := by
      rw [List.any_eq_true]
      exact ⟨(Sum.inr x, f x), List.mem_map.mpr ⟨x, h, rfl⟩, decide_eq_true rfl⟩
    rw [if_pos a, List.map_map]
    refine List.map_congr_left fun k hk => ?_
    show (if (Sum.inr k : L2.Key) = Sum.inr x then ((Sum.inr k : L2.Key), v) else ((Sum.inr k : L2.Key), f k)) = (Sum.inr k, if k = x then v else f k)
    by_cases e : k = x
    · rw [if_pos e, if_pos (congrArg Sum.inr e)]
    · rw [if_neg e, if_neg fun z => e (Sum.inr.inj z)]
  · rw [if_neg h, putK_new]
    · rw [List.map_append]
      have e1 : (ks.map fun k => ((Sum.inr k : L2.Key), f k)) = ks.map fun k => ((Sum.inr k : L2.Key), if k = x then v else f k) := by
        refine List.map_congr_left fun k hk => ?_
        rw [if_neg fun e => h (by rw [← e]; exact hk)]
      rw [e1]
      show _ ++ [((Sum.inr x : L2.Key), v)] = _ ++ [((Sum.inr x : L2.Key), if x = x then v else f x)]
      rw [if_pos rfl]
    · rw [val_map, if_neg h]
theorem put_entI (ks : List Str) (f : Str → Int) (x : Str) (v : Int) : putK (ks.map (entI f)) (Sum.inr x) (V.int v) = (put ks x).map (entI fun y => if y = x then v else f y) := by
  have q := put_map ks (fun y => V.int (f y)) x (V.int v)
  rw [show (ks.map (entI f)) = ks.map fun k => ((Sum.inr k : L2.Key), V.int (f k)) from rfl, q]
  refine List.map_congr_left fun k _ => ?_
  show ((Sum.inr k : L2.Key), if k = x then V.int v else V.int (f k)) = (Sum.inr k, V.int (if k = x then v else f k))
  split <;> rfl
theorem mrg_snoc (ks js : List Str) (j : Str) : mrg ks (js ++ [j]) = put (mrg ks js) j := by
  unfold mrg
  rw [List.foldl_append]
  rfl
theorem tot_no (n : Str) : ∀ (p : Pg), ¬ p.has n → p.tot n = 0
  | .nil, _ => rfl
  | .line x t r, h => by
    have h1 : ¬ x = n := fun e => h (.inl e)
    have ih := tot_no n r fun e => h (.inr e)
    show (if x = n then t else 0) + r.tot n = 0
    rw [if_neg h1, ih]; rfl
  | .loop k b r, h => by
    have ih := tot_no n r fun e => h (.inr e)
    have ihb := tot_no n b fun e => h (.inl e)
    show k * b.tot n + r.tot n = 0
    rw [ih, ihb]; simp
/-- all but what stands at d is as it was -/
def SameBut (d : Addr) (H H' : Hp) : Prop := ∀ b o, H b = some o → b ≠ d → H' b = some o
section
variable {P : Program} {w : World} {K : PySem.W.Frag} {mg : Str → Option Value} {base : Heap}
theorem scAddC : FnScope ["found", "counts", "times", "name", "count"] ["found", "counts", "times"] (defScope sAddC) := ⟨rfl, rfl, rfl, by decide +kernel, rfl, by decide +kernel, by decide +kernel⟩
theorem scCounts : FnScope ["items", "found", "item"] ["items"] (defScope sCounts) := ⟨rfl, rfl, rfl, by decide +kernel, rfl, by decide +kernel, by decide +kernel⟩
theorem scTotals : FnScope ["program"] ["program"] (defScope sTotals) := ⟨rfl, rfl, rfl, by decide +kernel, rfl, by decide +kernel, by decide +kernel⟩
def spAddC : Sp := fun vs H Q _ => ∃ (d e : Addr) (ks js : List Str) (f g : Str → Int) (t : Int), vs = [.ref d, .ref e, .int t] ∧ H d = some (.dK (ks.map (entI f))) ∧ H e = some (.dK (js.map (entI g))) ∧ d ≠ e ∧
  (∀ x, x ∉ ks → f x = 0) ∧ (∀ x, x ∉ js → g x = 0) ∧ js.Nodup ∧ ks.length ≤ 100 ∧ js.length ≤ 100 ∧ (1 ≤ t ∧ t ≤ 10 ^ 18) ∧
  ∀ H', SameBut d H H' → H' d = some (.dK ((mrg ks js).map (entI fun x => f x + t * g x))) → Q .non H'
theorem put_len (ks : List Str) (x : Str) : (put ks x).length ≤ ks.length + 1 := by
  unfold put
  split
  · omega
  · rw [List.length_append]; simp
theorem mrg_len : ∀ (js ks : List Str), (mrg ks js).length ≤ ks.length + js.length
  | [], ks => Nat.le_refl _
  | j :: js, ks => by
    have h1 := put_len ks j
    have h2 := mrg_len js (put ks j)
    show (mrg (put ks j) js).length ≤ ks.length + (js.length + 1)
    omega
theorem ok_addC {k : Nat} {f : Addr} {fd : FuncData} (D : Def K mg "add_counts" sAddC ["found", "counts", "times"] f fd) : FnOk P w K mg base CX0 (k + 1) f fd ["found", "counts", "times"] spAddC := by
  refine D.fn.ok scAddC (fun vs H Q E h => ?_) (fun cdv A outer s H vs Q E hr h => ?_)
  · obtain ⟨d, e, ks, js, f, g, t, rfl, _⟩ := h
    rfl
  obtain ⟨d, e, ks, js, f, g, t, rfl, hd, he, hde, hf, hg, hnd, hkl, hjl, ⟨ht0, ht1⟩, q⟩ := h
  have hu := hu_of hr
  refine ⟨_, pss_one (ps_lock (ps_for PassesOwn.never rfl (pi_items (pv 1)) (pg_tup rfl (pgs_cons (pg_name (i := 3) scAddC.nd rfl (.inl rfl)) (pgs_cons (pg_name (i := 4) scAddC.nd rfl (.inl rfl)) pgs_nil)))
    (pss_one (ps_dput hu (pv 0) (pv 3) (pe_op op_add (pe_dget2 hu (pv 0) (pv 3) pe_int ⟨rfl, rfl, rfl, rfl⟩) (pe_op op_mul (pv 2) (pv 4))) rfl)))), ?_⟩
  refine ⟨e, _, he, trivial, fun od => ?_⟩
  refine ⟨_, rfl, e, od, _, rfl, upd_same, for_it walk_items (fun i σ H' => ∃ (v1 v2 : Option V) (F : Str → Int), σ = [some (.ref d), some (.ref e), some (.int t), v1, v2] ∧ (∀ b o, H b = some o → b ≠ d → b ≠ e → H' b = some o) ∧
      H' e = some (.frz od (.dK (js.map (entI g)))) ∧ H' d = some (.dK ((mrg ks (js.take i)).map (entI F))) ∧ (∀ y, F y = f y + t * (if y ∈ js.take i then g y else 0)))
    ⟨none, none, f, rfl, fun b o hb h1 h2 => by rw [upd_ne h2]; exact hb, upd_same, by rw [upd_ne hde]; exact hd, fun y => by simp⟩ (fun i σ H' _ ⟨_, _, _, _, _, z, _⟩ => z) ?_ ?_⟩
  · rintro i x σ H1 H' hi ⟨v1, v2, F, rfl, sm, h1, h2, hF⟩ ⟨T, y, z, rfl, hT, rfl, hy, hz⟩
    have hij : i < js.length := by rw [List.length_map] at hi; exact hi
    have ej : js[i]? = some js[i] := List.getElem?_eq_getElem hij
    have ey : y = V.str js[i] := by
      have q1 : ((js.map (entI g))[i]?.map fun kv => kV kv.1) = some y := hy
      rw [List.getElem?_map, ej] at q1
      exact (Option.some.inj q1).symm
    have ez : z = V.int (g js[i]) := by
      have q1 : ((js.map (entI g))[i]?.map Prod.snd) = some z := hz
      rw [List.getElem?_map, ej] at q1
      exact (Option.some.inj q1).symm
    subst ey ez
    have hdT : d ≠ T := ne_of_none h2 hT
    have heT : e ≠ T := ne_of_none h1 hT
    have h2' : (upd H1 T (.tup [V.str js[i], V.int (g js[i])])) d = some (.dK ((mrg ks (js.take i)).map (entI F))) := by rw [upd_ne hdT]; exact h2
    refine ⟨T, _, rfl, SqT.of upd_same, rfl, _, _, rfl, _, _, rfl, rfl, ?_⟩
    -- found.get(name, 0) + times * count
    have hno : js[i] ∉ js.take i := fun hm => by
      obtain ⟨j, hj, e1⟩ := List.getElem_of_mem hm
      have hji : j < i := by
        rw [List.length_take] at hj
        omega
      rw [List.getElem_take] at e1
      exact absurd e1 (List.pairwise_iff_getElem.mp hnd j i (by omega) hij hji)
    have hval : ((valV ((mrg ks (js.take i)).map (entI F)) (Sum.inr js[i] : L2.Key)).getD (V.int 0)) = V.int (F js[i]) := by
      have q1 := val_map (f := fun y => V.int (F y)) (x := js[i]) (ks := mrg ks (js.take i))
      have q2 : valV ((mrg ks (js.take i)).map (entI F)) (Sum.inr js[i] : L2.Key) = if js[i] ∈ mrg ks (js.take i) then some (V.int (F js[i])) else none := q1
      rw [q2]
      by_cases hm : js[i] ∈ mrg ks (js.take i)
      · rw [if_pos hm]; rfl
      · rw [if_neg hm]
        have h0 : F js[i] = 0 := by
          rw [hF, if_neg hno, hf _ fun z => hm (mem_mrg.mpr (.inl z))]; simp
        rw [h0]; rfl
    have hlen : ((mrg ks (js.take i)).map (entI F)).length < sizeLine := by
      have q1 := mrg_len (js.take i) ks
      rw [List.length_take] at q1
      rw [List.length_map]
      exact lt_line (by omega)
    refine ⟨_, rfl, d, rfl, .inl ⟨_, .inl h2'⟩, _, rfl, _, DGet.k (k := Sum.inr js[i]) h2', _, rfl, _, rfl, _, _, rfl, rfl, .inl ⟨by omega, by omega⟩, _, _, hval, rfl, _, rfl, _, rfl, d, _, rfl, DPut.k (k := Sum.inr js[i]) h2' hlen, ?_⟩
    refine ⟨_, _, fun y => if y = js[i] then F js[i] + t * g js[i] else F y, rfl, fun b o hb n1 n2 => ?_, ?_, ?_, fun y => ?_⟩
    · have hb1 := sm b o hb n1 n2
      rw [upd_ne n1, upd_ne (ne_of_none hb1 hT)]
      exact hb1
    · rw [upd_ne (Ne.symm hde), upd_ne heT]
      exact h1
    · rw [upd_same, put_entI, List.take_add_one, ej]
      show _ = some (HO.dK ((mrg ks (js.take i ++ [js[i]])).map _))
      rw [mrg_snoc]
    · have et : js.take (i + 1) = js.take i ++ [js[i]] := by
        rw [List.take_add_one, ej]; rfl
      rw [et]
      show (if y = js[i] then F js[i] + t * g js[i] else F y) = _
      by_cases e1 : y = js[i]
      · rw [if_pos e1, e1, hF, if_neg hno, if_pos (List.mem_append_right _ (List.mem_singleton.mpr rfl))]
        simp
      · rw [if_neg e1, hF]
        have iff1 : (y ∈ js.take i ++ [js[i]]) ↔ y ∈ js.take i := by
          rw [List.mem_append, List.mem_singleton]
          exact ⟨fun z => z.elim id fun z => absurd z e1, .inl⟩
        by_cases hm : y ∈ js.take i
        · rw [if_pos hm, if_pos (iff1.mpr hm)]
        · rw [if_neg hm, if_neg fun z => hm (iff1.mp z)]
  · rintro σ H' ⟨v1, v2, F, rfl, sm, h1, h2, hF⟩
    rw [List.length_map, List.take_length] at h2 hF
    refine ⟨h1, q _ (fun b o hb hbd => ?_) ?_⟩
    · by_cases hbe : b = e
      · subst hbe
        rw [he] at hb
        rw [upd_same]
        exact hb
      · rw [upd_ne hbe]
        exact sm b o hb hbd hbe
    · rw [upd_ne hde, h2]
      have eF : F = fun x => f x + t * g x := by
        funext y
        rw [hF]
        by_cases hm : y ∈ js
        · rw [if_pos hm]
        · rw [if_neg hm, hg y hm]
      rw [eF]
def spCounts (n : Nat) : Sp := fun vs H Q _ => ∃ (a : Addr) (p : Pg), vs = [.ref a] ∧ PgAt H a p ∧ InPool p ∧ p.ok ∧ p.dep ≤ n ∧ ∀ (H' : Hp) (d : Addr), Same H H' → H d = none → H' d = some (.dK ((p.nm []).map (entI fun x => p.tot x))) → Q (.ref d) H'
theorem ok_counts {n k : Nat} {f g : Addr} {fd gd : FuncData} (T : Txt mg) (DA : Def K mg "add_counts" sAddC ["found", "counts", "times"] g gd) (D : Def K mg "counts_of" sCounts ["items"] f fd)
    (G : ∃ sp, FnOk P w K mg base CX0 (k + 1) f fd ["items"] sp ∧ ∀ m, m + 1 = n → sp = spCounts m) : FnOk P w K mg base CX0 (k + 2) f fd ["items"] (spCounts n) := by
  obtain ⟨lt, hL⟩ := T.line
  obtain ⟨sp, G, hsp⟩ := G
  have GA : FnOk P w K mg base CX0 (k + 1) g gd ["found", "counts", "times"] spAddC := ok_addC DA
  refine D.fn.ok scCounts (fun vs H Q E h => ?_) (fun cdv A outer s H vs Q E hr h => ?_)
  · obtain ⟨a, p, rfl, _⟩ := h
    rfl
  obtain ⟨a, p, rfl, ⟨xs, ha, hv⟩, hp, hok, hd, q⟩ := h
  refine ⟨_, pss_cons (ps_set (i := 1) scCounts.nd rfl (Or.inl rfl) pe_dnewK)
    (pss_cons (ps_for PassesOwn.never rfl (pi_tup (pv 0)) (pg_name (i := 2) scCounts.nd rfl (Or.inl rfl))
      (pss_one (ps_if (pt_cmpR op_eq (pe_ix ix_tup (pv 2) pe_int (fun _ _ => rfl)) (pe_glob (v := V.str kLine) rfl hL ⟨_, rfl⟩) (nomark _))
        (pss_one (ps_expr (pe_call GA hr rfl DA.mg DA.kp DA.bi .nil pass0 (pa_cons (pv 1) (pa_cons (pe_disp (pps_cons (pe_ix ix_tup (pv 2) pe_int (fun _ _ => rfl)) (pe_ix ix_tup (pv 2) pe_int (fun _ _ => rfl)) pps_nil) (by rfl) (by rfl) (fun z => by cases z) (by decide)) (pa_cons pe_int pa_nil))))))
        (pss_one (ps_expr (pe_call GA hr rfl DA.mg DA.kp DA.bi .nil pass0 (pa_cons (pv 1) (pa_cons (pe_call G hr rfl D.mg D.kp D.bi .nil pass0 (pa_cons (pe_ix ix_tup (pv 2) pe_int (fun _ _ => rfl)) pa_nil)) (pa_cons (pe_ix ix_tup (pv 2) pe_int (fun _ _ => rfl)) pa_nil)))))))))
    (pss_one (ps_ret (pv 1)))), ?_⟩
  intro d hdn
  have hna : a ≠ d := ne_of_none ha hdn
  refine ⟨_, rfl, a, rfl, ⟨_, SqT.of (same_new hdn _ _ _ ha)⟩, for_tup (K := K) (a := a) (xs := xs) (fun i σ H' => ∃ (R : Pg) (ks : List Str) (F : Str → Int) (v : Option V), σ = [some (.ref a), some (.ref d), v] ∧ Same H H' ∧ Left H xs i R ∧ H' d = some (.dK (ks.map (entI F))) ∧
      R.nm ks = p.nm [] ∧ ks.Nodup ∧ (∀ x ∈ ks, x ∈ pool) ∧ (∀ x, x ∉ ks → F x = 0) ∧ (∀ x, F x + R.tot x = p.tot x) ∧ InPool R ∧ R.ok ∧ R.dep ≤ n)
    ⟨p, [], fun _ => 0, none, rfl, same_new hdn _, Left.start hv, upd_same, rfl, List.nodup_nil, (fun x h => by cases h), fun _ _ => rfl, fun x => Int.zero_add _, hp, hok, hd⟩ (fun i σ H' _ ⟨_, _, _, _, _, sm, _⟩ => SqT.of (sm _ _ ha)) ?_ ?_⟩
  · rintro i x σ H' hx ⟨R, ks, F, v, rfl, sm, lf, hdk, hnm, hnd, hin, hF0, hFt, hRp, hRo, hdep⟩
    have hkl : ks.length ≤ 8 := nd_len _ pool hnd hin
    rcases lf.next hx with ⟨nm, t, r, b, rfl, rfl, hb, lf2⟩ | ⟨kk, bd, r, b, c, rfl, rfl, hb, hc, lf2⟩
    · have hb' := sm _ _ hb
      refine ⟨_, rfl, b, _, _, _, rfl, rfl, SqT.of hb', at0, rfl, _, rfl, ?_⟩
      refine ite2 (fun _ => ?_) (fun e => absurd (decide_eq_true rfl) e)
      refine ⟨_, rfl, fun e he => ?_⟩
      have hde : d ≠ e := ne_of_none hdk he
      refine ⟨_, rfl, b, _, _, _, rfl, rfl, SqT.of (same_new he _ _ _ hb'), at1, _, rfl, b, _, _, _, rfl, rfl, SqT.of (same_new he _ _ _ hb'), at2, upd_same, [(Sum.inr nm, V.int t)], rfl, by show 1 ≤ 15; decide, ?_⟩
      rw [upd_upd]
      refine ⟨d, e, ks, [nm], F, fun x => if x = nm then t else 0, 1, rfl, (upd_ne hde).trans hdk, ?_, hde, hF0, fun x hxx => ?_, by simp, by omega, by simp, ⟨by omega, by omega⟩, fun H2 sm2 h2 => ?_⟩
      · rw [upd_same]
        show some (HO.dK [((Sum.inr nm : L2.Key), V.int t)]) = some (HO.dK [((Sum.inr nm : L2.Key), V.int (if nm = nm then t else 0))])
        rw [if_pos rfl]
      · exact if_neg fun z => hxx (List.mem_singleton.mpr z)
      · refine ⟨r, put ks nm, _, _, rfl, fun z o ez => ?_, lf2, h2, hnm, nd_put hnd, fun x hxx => ?_, fun x hxx => ?_, fun x => ?_, fun x hxx => hRp x (.inr hxx), hRo.2, hdep⟩
        · exact sm2 _ _ (same_new he _ _ _ (sm _ _ ez)) (ne_of_none ez hdn)
        · rcases mem_put.mp hxx with z | z
          · exact hin x z
          · exact hRp x (.inl z)
        · have n1 : x ∉ ks := fun z => hxx (mem_put.mpr (.inl z))
          have n2 : ¬ x = nm := fun z => hxx (mem_put.mpr (.inr z.symm))
          show F x + 1 * (if x = nm then t else 0) = 0
          rw [hF0 x n1, if_neg n2]; rfl
        · have q1 : F x + ((if nm = x then t else 0) + r.tot x) = p.tot x := hFt x
          show F x + 1 * (if x = nm then t else 0) + r.tot x = p.tot x
          by_cases e1 : x = nm
          · rw [if_pos e1.symm] at q1
            rw [if_pos e1]; omega
          · rw [if_neg fun z => e1 z.symm] at q1
            rw [if_neg e1]; omega
    · have hb' := sm _ _ hb
      have hdd : max (bd.dep + 1) r.dep ≤ n := hdep
      obtain ⟨m, rfl⟩ : ∃ m, n = m + 1 := ⟨n - 1, by omega⟩
      have esp := hsp m rfl
      subst esp
      obtain ⟨hkk, hbo, _, _, hro⟩ := hRo
      refine ⟨_, rfl, b, _, _, _, rfl, rfl, SqT.of hb', at0, rfl, _, rfl, ?_⟩
      refine ite2 (fun e => absurd (of_decide_eq_true e) line_loop) (fun _ => ?_)
      have hbp : InPool bd := fun x hxx => hRp x (.inl hxx)
      refine ⟨_, rfl, _, rfl, b, _, _, _, rfl, rfl, SqT.of hb', at2, c, bd, rfl, hc.same sm, hbp, hbo, by omega, fun H2 e sm2 he hek => ?_⟩
      have hde : d ≠ e := ne_of_none hdk he
      have hjl : (bd.nm []).length ≤ 8 := nm_few hbp
      refine ⟨_, rfl, b, _, _, _, rfl, rfl, SqT.of (sm2 _ _ hb'), at1, d, e, ks, bd.nm [], F, fun x => bd.tot x, kk, rfl, sm2 _ _ hdk, hek, hde, hF0, fun x hxx => ?_, nd_nm bd [] List.nodup_nil, by omega, by omega, hkk, fun H3 sm3 h3 => ?_⟩
      · exact tot_no x bd fun z => hxx ((mem_nm bd []).mpr (.inr z))
      · refine ⟨r, mrg ks (bd.nm []), _, _, rfl, fun z o ez => ?_, lf2, h3, hnm, nd_mrg hnd, fun x hxx => ?_, fun x hxx => ?_, fun x => ?_, fun x hxx => hRp x (.inr hxx), hro, by omega⟩
        · exact sm3 _ _ (sm2 _ _ (sm _ _ ez)) (ne_of_none ez hdn)
        · rcases mem_mrg.mp hxx with z | z
          · exact hin x z
          · exact nm_subset hbp (fun y hy => by cases hy) x z
        · have n1 : x ∉ ks := fun z => hxx (mem_mrg.mpr (.inl z))
          have n2 : ¬ bd.has x := fun z => hxx (mem_mrg.mpr (.inr ((mem_nm bd []).mpr (.inr z))))
          show F x + kk * bd.tot x = 0
          rw [hF0 x n1, tot_no x bd n2]; simp
        · have q1 : F x + (kk * bd.tot x + r.tot x) = p.tot x := hFt x
          show F x + kk * bd.tot x + r.tot x = p.tot x
          omega
  · rintro σ H' ⟨R, ks, F, v, rfl, sm, lf, hdk, hnm, hnd, hin, hF0, hFt, hRp, hRo, hdep⟩
    have e := lf.done
    subst e
    have hnm : ks = p.nm [] := hnm
    subst hnm
    have eF : F = fun x => p.tot x := by
      funext x
      have q1 : F x + 0 = p.tot x := hFt x
      omega
    rw [eF] at hdk
    exact ⟨_, rfl, q H' d sm hdn hdk⟩
theorem counts_all {f g : Addr} {fd gd : FuncData} (T : Txt mg) (DA : Def K mg "add_counts" sAddC ["found", "counts", "times"] g gd) (D : Def K mg "counts_of" sCounts ["items"] f fd) : ∀ n : Nat, FnOk P w K mg base CX0 (n + 2) f fd ["items"] (spCounts n)
  | 0 => ok_counts (k := 0) T DA D ⟨fun _ _ _ _ => False, no_calls fun _ _ _ _ h => h, fun m h => absurd h (Nat.succ_ne_zero m)⟩
  | n + 1 => ok_counts T DA D ⟨spCounts n, counts_all T DA D n, fun m h => by rw [Nat.succ.inj h]⟩
/-! ### totals -/
def rank (L : List Str) (x : Str) : Int := ((L.countP fun y => ltS y x : Nat) : Int)
theorem count_le {α : Type} {p q : α → Bool} (h : ∀ x, p x = true → q x = true) : ∀ l : List α, l.countP p ≤ l.countP q
  | [] => Nat.le_refl _
  | a :: l => by
    have ih := count_le h l
    rw [List.countP_cons, List.countP_cons]
    by_cases e : p a = true
    · rw [if_pos e, if_pos (h a e)]; omega
    · rw [if_neg e]; split <;> omega
theorem count_lt {α : Type} {p q : α → Bool} (h : ∀ x, p x = true → q x = true) : ∀ (l : List α) (a : α), a ∈ l → p a = false → q a = true → l.countP p < l.countP q
  | [], _, hm, _, _ => by cases hm
  | b :: l, a, hm, h1, h2 => by
    rw [List.countP_cons, List.countP_cons]
    rcases List.mem_cons.mp hm with rfl | hm
    · have ih := count_le h l
      rw [if_neg (by rw [h1]; exact Bool.false_ne_true), if_pos h2]; omega
    · have ih := count_lt h l a hm h1 h2
      by_cases e : p b = true
      · rw [if_pos e, if_pos (h b e)]; omega
      · rw [if_neg e]; split <;> omega
theorem rank_lt {L : List Str} {x y : Str} (hx : x ∈ L) : ltS x y = decide (rank L x < rank L y) := by
  cases h : ltS x y with
  | true =>
    have q := count_lt (p := fun z => ltS z x) (q := fun z => ltS z y) (fun z hz => lt_tra _ _ _ hz h) L x hx (lt_irr _) h
    refine (decide_eq_true ?_).symm
    unfold rank
    omega
  | false =>
    have q := count_le (p := fun z => ltS z y) (q := fun z => ltS z x) (fun z hz => by
      cases h3 : ltS z x with
      | true => rfl
      | false =>
        exfalso
        have q1 : leT y x := h
        have q2 : leT x z := h3
        have q3 : ltS z y = false := leT_tra q1 q2
        have hz : ltS z y = true := hz
        rw [q3] at hz
        cases hz) L
    refine (decide_eq_false ?_).symm
    unfold rank
    omega
def spTotals : Sp := fun vs H Q _ => ∃ (a : Addr) (p : Pg), vs = [.ref a] ∧ PgAt H a p ∧ InPool p ∧ p.ok ∧ p.dep ≤ 5 ∧ ∀ (H' : Hp) (t : Addr) (ps : List (Addr × Str × Int)), Same H H' → H' t = some (.tup (ps.map fun z => V.ref z.1)) →
  ps.map (·.2) = p.lines.map (fun x => (x, p.tot x)) → (∀ z ∈ ps, H' z.1 = some (.tup [.str z.2.1, .int z.2.2])) → Q (.ref t) H'
theorem ok_totals {f g c : Addr} {fd gd cd : FuncData} (T : Txt mg) (D : Def K mg "totals" sTotals ["program"] f fd) (DA : Def K mg "add_counts" sAddC ["found", "counts", "times"] g gd) (DC : Def K mg "counts_of" sCounts ["items"] c cd) : FnOk P w K mg base CX0 8 f fd ["program"] spTotals := by
  have G : FnOk P w K mg base CX0 7 c cd ["items"] (spCounts 5) := counts_all T DA DC 5
  refine D.fn.ok scTotals (fun vs H Q E h => ?_) (fun cdv A outer s H vs Q E hr h => ?_)
  · obtain ⟨a, p, rfl, _⟩ := h
    rfl
  obtain ⟨a, p, rfl, ha, hp, hok, hd, q⟩ := h
  refine ⟨_, pss_one (ps_ret (pe_callTy call_tuple_of (by rfl) T.tuple (by decide +kernel) (pa_cons (pe_callB (cr_sortedPairs rfl) (by rfl) T.sorted (by decide +kernel)
    (pa_cons (pe_bm0 PySem.F.plainAttrs_dict PySem.F.slot_dict_items PySem.F.type_dict_items mt_itemsK (pe_call G hr rfl DC.mg DC.kp DC.bi .nil pass0 (pa_cons (pv 0) pa_nil))) pa_nil)) pa_nil))), ?_⟩
  refine ⟨_, rfl, a, p, rfl, ha, hp, hok, hd, fun H1 d sm hdn hdk => ?_⟩
  refine ⟨.inr (.inr (.inl ⟨rfl, .inl ⟨_, hdk⟩⟩)), d, _, rfl, rfl, hdk, fun v hv => ?_⟩
  have hdv : d ≠ v := ne_of_none hdk hv
  refine ⟨v, d, (p.nm []).map (fun x => (x, p.tot x)), rank (p.nm []), rfl, upd_same, ?_, ?_, ?_, ?_, ?_⟩
  · rw [upd_ne hdv, hdk, List.map_map]
    rfl
  · rw [List.length_map]
    have := nm_few hp
    omega
  · rw [List.map_map]
    have e : ((fun x : Str × Int => x.1) ∘ fun x => (x, p.tot x)) = id := rfl
    rw [e, List.map_id]
    exact nd_nm p [] List.nodup_nil
  · intro e he f hf
    obtain ⟨x, hx, rfl⟩ := List.mem_map.mp he
    obtain ⟨y, hy, rfl⟩ := List.mem_map.mp hf
    show decide (x.cps.toList < y.cps.toList) = _
    rw [lt_meets]
    exact rank_lt hx
  · intro H2 l ps sm2 hperm hsort hl hps
    refine ⟨l, _, rfl, .inl ⟨SqL.of hl, fun t ht => ?_⟩⟩
    have e1 : ps.map (·.2) = p.lines.map fun x => (x, p.tot x) := by
      have hfst : (ps.map (·.2.1)) = p.lines := by
        refine lines_of_sorted ?_ ?_
        · have q1 := hperm.map (·.1)
          rw [List.map_map, List.map_map] at q1
          have e2 : ((fun x : Str × Int => x.1) ∘ fun x => (x, p.tot x)) = id := rfl
          rw [e2, List.map_id] at q1
          exact q1
        · rw [List.pairwise_map] at hsort
          rw [List.pairwise_map]
          refine List.Pairwise.imp_of_mem (fun {x y} hx hy hle => ?_) hsort
          have my : y.2 ∈ (p.nm []).map fun x => (x, p.tot x) := hperm.mem_iff.mp (List.mem_map.mpr ⟨y, hy, rfl⟩)
          obtain ⟨u, hu, eu⟩ := List.mem_map.mp my
          have ey : y.2.1 ∈ p.nm [] := by rw [← eu]; exact hu
          show ltS y.2.1 x.2.1 = false
          rw [rank_lt ey]
          refine decide_eq_false ?_
          have hle : rank (p.nm []) x.2.1 ≤ rank (p.nm []) y.2.1 := hle
          omega
      have each : ∀ z ∈ ps, z.2 = (z.2.1, p.tot z.2.1) := fun z hz => by
        obtain ⟨u, hu, eu⟩ := List.mem_map.mp (hperm.mem_iff.mp (List.mem_map.mpr ⟨z, hz, rfl⟩))
        rw [← eu]
      rw [← hfst, List.map_map]
      exact List.map_congr_left each
    refine q _ t ps (sm.trans ((same_new hv _).trans (sm2.trans (same_new ht _)))) upd_same e1 fun z hz => same_new ht _ _ _ (hps z hz)
end
end Ev
/-! EvC1: nothing, joined, line_block. -/
namespace Ev
open PySem PySem.Spec PyProof.Rows L2
/-- f at 0, 1, .. (m of them) -/
def rowL (m : Nat) (f : Int → Int) : List V := (List.range m).map fun (c : Nat) => V.int (f (c : Int))
theorem rowL_len (m : Nat) (f : Int → Int) : (rowL m f).length = m := by
  unfold rowL
  rw [List.length_map, List.length_range]
theorem rowL_get {m c : Nat} (f : Int → Int) (h : c < m) : (rowL m f)[c]? = some (V.int (f (c : Int))) := by
  unfold rowL
  rw [List.getElem?_map, List.getElem?_range h]; rfl
theorem rowL_snoc (m : Nat) (f : Int → Int) : rowL (m + 1) f = rowL m f ++ [V.int (f (m : Int))] := by
  unfold rowL
  rw [List.range_succ, List.map_append]; rfl
theorem rowL_take {m i : Nat} (f : Int → Int) (h : i ≤ m) : (rowL m f).take i = rowL i f := by
  unfold rowL
  rw [← List.map_take, List.take_range, Nat.min_eq_left h]
theorem rowL_congr {m : Nat} {f g : Int → Int} (h : ∀ c : Nat, c < m → f c = g c) : rowL m f = rowL m g := by
  unfold rowL
  refine List.map_congr_left fun c hc => ?_
  rw [h c (List.mem_range.mp hc)]
theorem rowL_ints (m : Nat) (f : Int → Int) : rowL m f = ((List.range m).map fun (c : Nat) => f (c : Int)).map V.int := by
  unfold rowL
  rw [List.map_map]; rfl
theorem at_row {m : Nat} {f : Int → Int} (hp : Per m f) {z : Int} (h0 : -(m : Int) ≤ z) (h1 : z < m) : atI (rowL m f) z = some (V.int (f z)) := by
  unfold atI
  rw [rowL_len]
  unfold ixN
  by_cases hz : 0 ≤ z
  · rw [if_pos hz, if_pos h1]
    show (rowL m f)[z.toNat]? = _
    rw [rowL_get f (by omega)]
    have e : ((z.toNat : Nat) : Int) = z := by omega
    rw [e]
  · rw [if_neg hz, if_pos h0]
    show (rowL m f)[(z + m).toNat]? = _
    rw [rowL_get f (by omega)]
    have e : (((z + m).toNat : Nat) : Int) = z + m := by omega
    rw [e, hp]
theorem rep_zero (m : Nat) : (List.replicate m [V.int 0]).flatten = rowL m fun _ => 0 := by
  induction m with
  | zero => rfl
  | succ m ih =>
    rw [rowL_snoc, ← ih, List.replicate_succ', List.flatten_append]; rfl
/-- at d stands a dict from the names to lists: for each name its row -/
def DictAt (H : Hp) (d : Addr) (ns : List Str) (m : Nat) (F : Str → Int → Int) : Prop :=
  ∃ r : Str → Addr, H d = some (.dK (ns.map fun x => ((Sum.inr x : L2.Key), V.ref (r x)))) ∧ ∀ x ∈ ns, H (r x) = some (.lst (rowL m (F x)))
/-- at a stands a block: its length, its rows -/
def BlkAt (H : Hp) (a : Addr) (ns : List Str) (m : Nat) (L : Int) (F : Str → Int → Int) : Prop := ∃ d, H a = some (.tup [.int L, .ref d]) ∧ DictAt H d ns m F
theorem DictAt.same {H H' : Hp} (s : Same H H') {d : Addr} {ns : List Str} {m : Nat} {F : Str → Int → Int} (h : DictAt H d ns m F) : DictAt H' d ns m F := by
  obtain ⟨r, h1, h2⟩ := h
  exact ⟨r, s _ _ h1, fun x hx => s _ _ (h2 x hx)⟩
theorem BlkAt.same {H H' : Hp} (s : Same H H') {a : Addr} {ns : List Str} {m : Nat} {L : Int} {F : Str → Int → Int} (h : BlkAt H a ns m L F) : BlkAt H' a ns m L F := by
  obtain ⟨d, h1, h2⟩ := h
  exact ⟨d, s _ _ h1, h2.same s⟩
theorem DictAt.congr {H : Hp} {d : Addr} {ns : List Str} {m : Nat} {F G : Str → Int → Int} (h : DictAt H d ns m F) (e : ∀ x ∈ ns, ∀ c : Nat, c < m → F x c = G x c) : DictAt H d ns m G := by
  obtain ⟨r, h1, h2⟩ := h
  exact ⟨r, h1, fun x hx => by rw [h2 x hx, rowL_congr (e x hx)]⟩
theorem BlkAt.congr {H : Hp} {a : Addr} {ns : List Str} {m : Nat} {L : Int} {F G : Str → Int → Int} (h : BlkAt H a ns m L F) (e : ∀ x ∈ ns, ∀ c : Nat, c < m → F x c = G x c) : BlkAt H a ns m L G := by
  obtain ⟨d, h1, h2⟩ := h
  exact ⟨d, h1, h2.congr e⟩
theorem put_new {ks : List Str} {x : Str} (h : x ∉ ks) : put ks x = ks ++ [x] := if_neg h
theorem take_next' {α : Type} {l : List α} {i : Nat} {x : α} (h : l[i]? = some x) : l.take (i + 1) = l.take i ++ [x] := by
  rw [List.take_add_one, h]; rfl
theorem not_before {α : Type} {l : List α} (hn : l.Nodup) {i : Nat} {x : α} (h : l[i]? = some x) : x ∉ l.take i := fun hm => by
  obtain ⟨hi, ex⟩ := List.getElem?_eq_some_iff.mp h
  obtain ⟨j, hj, e1⟩ := List.getElem_of_mem hm
  have hji : j < i := by
    rw [List.length_take] at hj
    omega
  rw [List.getElem_take] at e1
  exact absurd (e1.trans ex.symm) (List.pairwise_iff_getElem.mp hn j i (by omega) hi hji)
section
variable {P : Program} {w : World} {K : PySem.W.Frag} {mg : Str → Option Value} {base : Heap}
theorem scNothing : FnScope ["names", "modulus", "name"] ["names", "modulus"] (defScope sNothing) := ⟨rfl, rfl, rfl, by decide +kernel, rfl, by decide +kernel, by decide +kernel⟩
theorem scJoined : FnScope ["one", "other", "modulus", "shift", "found", "name", "row", "later", "at", "count"] ["one", "other", "modulus"] (defScope sJoined) := ⟨rfl, rfl, rfl, by decide +kernel, rfl, by decide +kernel, by decide +kernel⟩
theorem scLineB : FnScope ["names", "name", "ticks", "modulus", "found", "at"] ["names", "name", "ticks", "modulus"] (defScope sLineB) := ⟨rfl, rfl, rfl, by decide +kernel, rfl, by decide +kernel, by decide +kernel⟩
/-- what a list of names and a modulus are -/
structure NmOk (ns : List Str) (m : Nat) : Prop where
  nd : ns.Nodup
  few : ns.length ≤ 100
  one : 1 ≤ m
  most : m ≤ 1000
def spNothing (K : PySem.W.Frag) : Sp := fun vs H Q _ => ∃ (a : Addr) (ns : List Str) (m : Nat), vs = [.ref a, .int m] ∧ SqT K H a (ns.map V.str) ∧ NmOk ns m ∧
  ∀ (H' : Hp) (t d : Addr), Same H H' → H d = none → H' t = some (.tup [.int 0, .ref d]) → DictAt H' d ns m (fun _ _ => 0) → Q (.ref t) H'
theorem sqT_same {H H' : Hp} (s : Same H H') {a : Addr} {xs : List V} (h : SqT K H a xs) : SqT K H' a xs := by
  rcases h with (h | ⟨o, h⟩) | h
  · exact .inl (.inl (s _ _ h))
  · exact .inl (.inr ⟨o, s _ _ h⟩)
  · exact .inr h
theorem ok_nothing {k : Nat} {f : Addr} {fd : FuncData} (D : Def K mg "nothing" sNothing ["names", "modulus"] f fd) : FnOk P w K mg base CX0 (k + 1) f fd ["names", "modulus"] (spNothing K) := by
  refine D.fn.ok scNothing (fun vs H Q E h => ?_) (fun cdv A outer s H vs Q E hr h => ?_)
  · obtain ⟨a, ns, m, rfl, _⟩ := h
    rfl
  obtain ⟨a, ns, m, rfl, ha, hN, q⟩ := h
  have h1 := hN.one
  have h2 := hN.most
  have h3 := hN.few
  refine ⟨_, pss_one (ps_ret (pe_tup (pa_cons pe_int (pa_cons (pe_dc (own := [("name", 2)]) (g := gName 2) rfl scNothing.nd (pi_tup (pv 0)) (blkOk_by (N := ["names", "modulus", "name"]) (sc := defScope sNothing) (by decide +kernel))
    (fun _ _ _ _ _ => pg_name (i := 2) scNothing.nd rfl (Or.inl rfl)) (fun _ _ _ _ _ => pts_nil) (fun _ _ _ _ _ => pv 2) (fun _ _ _ _ _ => pe_op op_rep (pe_lst (pa_cons pe_int pa_nil)) (pv 1))) pa_nil)))), ?_⟩
  refine ⟨_, rfl, a, rfl, ⟨_, ha⟩, fun d hd => ?_⟩
  refine dc_tup (K := K) (a := a) (xs := ns.map V.str) (fun i H' => ∃ r : Str → Addr, Same H H' ∧ H' d = some (.dK ((ns.take i).map fun x => ((Sum.inr x : L2.Key), V.ref (r x)))) ∧ ∀ x ∈ ns.take i, H' (r x) = some (.lst (rowL m fun _ => 0)))
    ⟨fun _ => 0, same_new hd _, upd_same, fun x hx => by simp at hx⟩ (fun i H' _ ⟨_, sm, _⟩ => sqT_same sm ha) ?_ ?_
  · rintro i y H' hy ⟨r, sm, h4, h5⟩
    have hi : i < ns.length := by
      have q1 := (List.getElem?_eq_some_iff.mp hy).1
      rw [List.length_map] at q1
      exact q1
    have ex : ns[i]? = some ns[i] := List.getElem?_eq_getElem hi
    have ey : y = V.str ns[i] := by
      rw [List.getElem?_map, ex] at hy
      exact (Option.some.inj hy).symm
    subst ey
    refine ⟨rfl, lc_yes ?_⟩
    refine ⟨_, rfl, small64' (n := 1) (by omega), fun l hl => ?_⟩
    refine ⟨_, rfl, l, (m : Int), _, rfl, rfl, upd_same, by omega, by omega, ?_, fun p hp => ?_⟩
    · show 1 * ((m : Int)).toNat ≤ sizeLine
      rw [Nat.one_mul, Int.toNat_natCast]
      exact small64' h2
    have hnl : p ≠ l := fun e => by rw [e, upd_same] at hp; cases hp
    have hp' : H' p = none := by rw [upd_ne hnl] at hp; exact hp
    have hdl : d ≠ l := ne_of_none h4 hl
    have hdp : d ≠ p := ne_of_none h4 hp'
    have hno : ns[i] ∉ ns.take i := not_before hN.nd ex
    refine ⟨_, Sum.inr ns[i], rfl, by rw [upd_ne hdp, upd_ne hdl]; exact h4, ?_, fun x => if x = ns[i] then p else r x, fun b o hb => ?_, ?_, fun x hx => ?_⟩
    · rw [List.length_map, List.length_take]
      exact lt_line (by omega)
    · have hb1 := sm _ _ hb
      rw [upd_ne (ne_of_none hb hd), upd_ne (ne_of_none hb1 hp'), upd_ne (ne_of_none hb1 hl)]
      exact hb1
    · rw [upd_same, put_map, put_new hno, take_next' ex]
      refine congrArg (fun l => some (HO.dK l)) (List.map_congr_left fun x _ => ?_)
      show ((Sum.inr x : L2.Key), if x = ns[i] then V.ref p else V.ref (r x)) = (Sum.inr x, V.ref (if x = ns[i] then p else r x))
      split <;> rfl
    · rw [take_next' ex] at hx
      by_cases e : x = ns[i]
      · show (upd _ d _) (if x = ns[i] then p else r x) = _
        rw [if_pos e, upd_ne (Ne.symm hdp), upd_same, Int.toNat_natCast, rep_zero]
      · have hx' : x ∈ ns.take i := by
          rcases List.mem_append.mp hx with z | z
          · exact z
          · exact absurd (List.mem_singleton.mp z) e
        have h6 := h5 x hx'
        show (upd _ d _) (if x = ns[i] then p else r x) = _
        rw [if_neg e, upd_ne (ne_of h6 h4 (fun z => by cases z)), upd_ne (ne_of_none h6 hp'), upd_ne (ne_of_none h6 hl)]
        exact h6
  · rintro H' ⟨r, sm, h4, h5⟩
    rw [List.length_map, List.take_length] at h4 h5
    refine ⟨small64' (n := 2) (by omega), fun t ht => ?_⟩
    have s2 := same_new ht (.tup [V.int 0, .ref d])
    exact q _ t d (sm.trans s2) hd upd_same ⟨r, s2 _ _ h4, fun x hx => s2 _ _ (h5 x hx)⟩
/-! ### joined -/
def spJoined : Sp := fun vs H Q _ => ∃ (a b : Addr) (ns : List Str) (m : Nat) (La Lb : Int) (F1 F2 : Str → Int → Int), vs = [.ref a, .ref b, .int m] ∧ BlkAt H a ns m La F1 ∧ BlkAt H b ns m Lb F2 ∧ NmOk ns m ∧ (∀ x, Per m (F2 x)) ∧
  ∀ (H' : Hp) (t : Addr), Same H H' → BlkAt H' t ns m (La + Lb) (fun x c => F1 x c + F2 x (c - La)) → Q (.ref t) H'
theorem shift_eq {m : Nat} {f : Int → Int} (h : Per m f) (c L : Int) : f (c - L % m) = f (c - L) := by
  have q := h.int (L / m) (c - L)
  have e : c - L + L / m * m = c - L % m := by
    have q1 := Int.emod_add_mul_ediv L m
    rw [Int.mul_comm] at q1
    omega
  rw [← e, q]
theorem ok_joined {k : Nat} {f : Addr} {fd : FuncData} (T : Txt mg) (D : Def K mg "joined" sJoined ["one", "other", "modulus"] f fd) : FnOk P w K mg base CX0 (k + 1) f fd ["one", "other", "modulus"] spJoined := by
  refine D.fn.ok scJoined (fun vs H Q E h => ?_) (fun cdv A outer s H vs Q E hr h => ?_)
  · obtain ⟨a, b, ns, m, La, Lb, F1, F2, rfl, _⟩ := h
    rfl
  obtain ⟨a, b, ns, m, La, Lb, F1, F2, rfl, ⟨e, ha, r1, he, hr1⟩, ⟨e2, hb, r2, he2, hr2⟩, hN, hp, q⟩ := h
  have hu := hu_of hr
  have h1 := hN.one
  have h2 := hN.most
  have h3 := hN.few
  have hm0 : (0 : Int) < (m : Int) := by omega
  refine ⟨_, pss_cons (ps_asg (pe_tup (pa_cons (pe_op op_mod (pe_ix ix_tup (pv 0) pe_int (fun _ _ => rfl)) (pv 2)) (pa_cons pe_dnewK pa_nil)))
      (pg_tup rfl (pgs_cons (pg_name (i := 3) scJoined.nd rfl (.inr rfl)) (pgs_cons (pg_name (i := 4) scJoined.nd rfl (.inl rfl)) pgs_nil))))
    (pss_cons (ps_lock (ps_for PassesOwn.never rfl (pi_items (pe_ix ix_tup (pv 0) pe_int (fun _ _ => rfl))) (pg_tup rfl (pgs_cons (pg_name (i := 5) scJoined.nd rfl (.inl rfl)) (pgs_cons (pg_name (i := 6) scJoined.nd rfl (.inl rfl)) pgs_nil)))
      (pss_cons (ps_set (i := 7) scJoined.nd rfl (.inr rfl) (pe_dget hu (pe_ix ix_tup (pv 1) pe_int (fun _ _ => rfl)) (pv 5) (fun _ _ => rfl)))
      (pss_one (ps_dput hu (pv 4) (pv 5) (pe_lc (own := [("at", 8), ("count", 9)]) (g := gTup K 2 (gCons (gName 8) (gCons (gName 9) gNil))) rfl scJoined.nd (pi_enum rfl T.enumerate (pa_cons (pv 6) pa_nil))
        (blkOk_by (N := ["one", "other", "modulus", "shift", "found", "name", "row", "later", "at", "count"]) (sc := defScope sJoined) (by decide +kernel))
        (fun _ _ _ _ _ => pg_tup rfl (pgs_cons (pg_name (i := 8) scJoined.nd rfl (Or.inl rfl)) (pgs_cons (pg_name (i := 9) scJoined.nd rfl (Or.inl rfl)) pgs_nil))) (fun _ _ _ _ _ => pts_nil)
        (fun _ _ _ _ _ => pe_op op_add (pv 9) (pe_ix (r := rIxL K) ix_list (pv 7) (pe_op op_sub (pv 8) (pv 3)) (fun _ _ => rfl)))) rfl)))))
    (pss_one (ps_ret (pe_tup (pa_cons (pe_op op_add (pe_ix ix_tup (pv 0) pe_int (fun _ _ => rfl)) (pe_ix ix_tup (pv 1) pe_int (fun _ _ => rfl))) (pa_cons (pv 4) pa_nil)))))), ?_⟩
  -- shift, found = (one[0] % modulus, {})
  refine ⟨_, rfl, a, _, _, _, rfl, rfl, SqT.of ha, at0, _, rfl, _, _, rfl, rfl, hm0, fun g hg => ⟨small64' (n := 2) (by omega), fun t0 ht0 => ?_⟩⟩
  refine ⟨t0, _, rfl, SqT.of upd_same, rfl, _, _, rfl, _, _, rfl, rfl, ?_⟩
  have hgt : g ≠ t0 := fun z => by rw [← z, upd_same] at ht0; cases ht0
  have ht0' : H t0 = none := by rw [upd_ne (Ne.symm hgt)] at ht0; exact ht0
  generalize hH0 : upd (upd H g (.dK [])) t0 (.tup [V.int (La % (m : Int)), V.ref g]) = H0
  have s0 : Same H H0 := by
    rw [← hH0]
    exact (same_new hg _).trans (same_new ht0 _)
  have g0 : H0 g = some (.dK []) := by rw [← hH0, upd_ne hgt, upd_same]
  have hge : g ≠ e := fun z => by rw [z, he] at hg; cases hg
  -- for name, row in one[1].items()
  refine ⟨e, _, s0 _ _ he, trivial, fun od => ?_⟩
  have hae : a ≠ e := ne_of ha he (fun z => by cases z)
  have hbe : b ≠ e := ne_of hb he (fun z => by cases z)
  refine ⟨_, rfl, a, _, _, _, rfl, rfl, SqT.of (by rw [upd_ne hae]; exact s0 _ _ ha), at1, e, od, _, rfl, upd_same, for_it walk_items (fun i σ H' => ∃ (v5 v6 v7 : Option V) (r : Str → Addr),
      σ = [some (.ref a), some (.ref b), some (.int m), some (.int (La % (m : Int))), some (.ref g), v5, v6, v7, none, none] ∧ (∀ x o, H x = some o → x ≠ e → H' x = some o) ∧
      H' e = some (.frz od (.dK (ns.map fun x => ((Sum.inr x : L2.Key), V.ref (r1 x))))) ∧ H' g = some (.dK ((ns.take i).map fun x => ((Sum.inr x : L2.Key), V.ref (r x)))) ∧
      ∀ x ∈ ns.take i, H' (r x) = some (.lst (rowL m fun c => F1 x c + F2 x (c - La))))
    ⟨none, none, none, fun _ => 0, rfl, fun x o hx hn => by rw [upd_ne hn]; exact s0 _ _ hx, upd_same, by rw [upd_ne hge]; exact g0, fun x hx => by simp at hx⟩ (fun i σ H' _ ⟨_, _, _, _, _, _, z, _⟩ => z) ?_ ?_⟩
  · rintro i x σ H1 H' hi ⟨v5, v6, v7, r, rfl, sm, h4, h5, h6⟩ ⟨t, y, z, rfl, ht, rfl, hy, hz⟩
    have hij : i < ns.length := by rw [List.length_map] at hi; exact hi
    have ex : ns[i]? = some ns[i] := List.getElem?_eq_getElem hij
    have hin : ns[i] ∈ ns := List.getElem_mem hij
    have ey : y = V.str ns[i] := by
      have q1 : ((ns.map fun x => ((Sum.inr x : L2.Key), V.ref (r1 x)))[i]?.map fun kv => kV kv.1) = some y := hy
      rw [List.getElem?_map, ex] at q1
      exact (Option.some.inj q1).symm
    have ez : z = V.ref (r1 ns[i]) := by
      have q1 : ((ns.map fun x => ((Sum.inr x : L2.Key), V.ref (r1 x)))[i]?.map Prod.snd) = some z := hz
      rw [List.getElem?_map, ex] at q1
      exact (Option.some.inj q1).symm
    subst ey ez
    have st : Same H1 (upd H1 t (.tup [V.str ns[i], V.ref (r1 ns[i])])) := same_new ht _
    generalize hH2 : upd H1 t (.tup [V.str ns[i], V.ref (r1 ns[i])]) = H2 at st
    have ht2 : H2 t = some (.tup [V.str ns[i], V.ref (r1 ns[i])]) := by rw [← hH2, upd_same]
    refine ⟨t, _, rfl, SqT.of ht2, rfl, _, _, rfl, _, _, rfl, rfl, ?_⟩
    -- later = other[1][name]
    have hb2 : H2 b = some (.tup [.int Lb, .ref e2]) := st _ _ (sm _ _ hb hbe)
    have hget : DGet H2 e2 (.str ns[i]) (some (.ref (r2 ns[i]))) := by
      have hv : some (V.ref (r2 ns[i])) = valV (ns.map fun x => ((Sum.inr x : L2.Key), V.ref (r2 x))) (Sum.inr ns[i] : L2.Key) := by
        have q1 := val_map (f := fun x => V.ref (r2 x)) (x := ns[i]) (ks := ns)
        rw [if_pos hin] at q1
        exact q1.symm
      refine .inl ⟨_, Sum.inr ns[i], ?_, rfl, hv⟩
      by_cases c : e2 = e
      · subst c
        rw [he] at he2
        have e3 := Option.some.inj he2
        rw [← e3]
        exact .inr ⟨od, st _ _ h4⟩
      · exact .inl (st _ _ (sm _ _ he2 c))
    refine ⟨_, rfl, b, _, _, _, rfl, rfl, SqT.of hb2, at1, _, rfl, e2, _, rfl, hget, ?_⟩
    -- the new row
    have hr1e : r1 ns[i] ≠ e := ne_of (hr1 _ hin) he (fun z => by cases z)
    have hr2e : r2 ns[i] ≠ e := ne_of (hr2 _ hin) he (fun z => by cases z)
    have hrow1 : H2 (r1 ns[i]) = some (.lst (rowL m (F1 ns[i]))) := st _ _ (sm _ _ (hr1 _ hin) hr1e)
    have hrow2 : H2 (r2 ns[i]) = some (.lst (rowL m (F2 ns[i]))) := st _ _ (sm _ _ (hr2 _ hin) hr2e)
    refine ⟨_, rfl, _, _, rfl, SqL.of hrow1, fun l hl => ?_⟩
    refine lc_it walk_enum (fun j H3 => Same H2 H3 ∧ H3 l = some (.lst (rowL j fun c => F1 ns[i] c + F2 ns[i] (c - La)))) ⟨same_new hl _, upd_same⟩ (fun j H3 _ ⟨s3, _⟩ => SqL.of (s3 _ _ hrow1)) ?_ ?_
    · rintro j x H3 H4 hj ⟨s3, hl3⟩ ⟨u, y, z, rfl, hu', rfl, hy', hz'⟩
      rw [rowL_len] at hj
      have ey' : y = V.int (j : Nat) := (Option.some.inj hy').symm
      have ez' : z = V.int (F1 ns[i] (j : Int)) := by
        have q1 : (rowL m (F1 ns[i]))[j]? = some z := hz'
        rw [rowL_get _ hj] at q1
        exact (Option.some.inj q1).symm
      subst ey' ez'
      have hlu : l ≠ u := ne_of_none hl3 hu'
      have s4 := same_new hu' (.tup [V.int (j : Nat), V.int (F1 ns[i] (j : Int))])
      refine ⟨u, _, rfl, SqT.of upd_same, rfl, _, _, rfl, _, _, rfl, rfl, rfl, lc_yes ?_⟩
      have lo := Int.emod_nonneg La (show (m : Int) ≠ 0 by omega)
      have hi' := Int.emod_lt_of_pos La hm0
      refine ⟨_, rfl, _, rfl, _, rfl, _, rfl, _, _, rfl, rfl, _, _, _, _, rfl, rfl, SqL.of (s4 _ _ (s3 _ _ hrow2)), at_row (hp _) (by omega) (by omega), _, _, rfl, rfl, ?_⟩
      refine ⟨_, s4 _ _ hl3, ?_, fun c o hc => ?_, ?_⟩
      · rw [rowL_len]
        exact lt_line (by omega)
      · rw [upd_ne (ne_of_none hc hl)]
        exact s4 _ _ (s3 _ _ hc)
      · rw [upd_same, rowL_snoc, shift_eq (hp _)]
    · rintro H3 ⟨s3, hl3⟩
      rw [rowL_len] at hl3
      -- found[name] = ..
      have hg3 : H3 g = some (.dK ((ns.take i).map fun x => ((Sum.inr x : L2.Key), V.ref (r x)))) := s3 _ _ (st _ _ h5)
      have hgl : g ≠ l := ne_of_none (st _ _ h5) hl
      have hno : ns[i] ∉ ns.take i := not_before hN.nd ex
      refine ⟨_, rfl, _, rfl, g, _, rfl, DPut.k (k := Sum.inr ns[i]) hg3 ?_, ?_⟩
      · rw [List.length_map, List.length_take]
        exact lt_line (by omega)
      refine ⟨_, _, _, fun x => if x = ns[i] then l else r x, rfl, fun c o hc hne => ?_, ?_, ?_, fun x hx => ?_⟩
      · rw [upd_ne (ne_of_none hc hg)]
        exact s3 _ _ (st _ _ (sm _ _ hc hne))
      · rw [upd_ne (Ne.symm hge)]
        exact s3 _ _ (st _ _ h4)
      · rw [upd_same, put_map, put_new hno, take_next' ex]
        refine congrArg (fun l => some (HO.dK l)) (List.map_congr_left fun x _ => ?_)
        show ((Sum.inr x : L2.Key), if x = ns[i] then V.ref l else V.ref (r x)) = (Sum.inr x, V.ref (if x = ns[i] then l else r x))
        split <;> rfl
      · by_cases c : x = ns[i]
        · show (upd _ g _) (if x = ns[i] then l else r x) = _
          rw [if_pos c, upd_ne (Ne.symm hgl), hl3, c]
        · have hx' : x ∈ ns.take i := by
            rw [take_next' ex] at hx
            rcases List.mem_append.mp hx with z | z
            · exact z
            · exact absurd (List.mem_singleton.mp z) c
          have h7 := s3 _ _ (st _ _ (h6 x hx'))
          show (upd _ g _) (if x = ns[i] then l else r x) = _
          rw [if_neg c, upd_ne (ne_of h7 hg3 (fun z => by cases z))]
          exact h7
  · rintro σ H' ⟨v5, v6, v7, r, rfl, sm, h4, h5, h6⟩
    rw [List.length_map, List.take_length] at h5 h6
    refine ⟨h4, ?_⟩
    have s5 : Same H (upd H' e (.dK (ns.map fun x => ((Sum.inr x : L2.Key), V.ref (r1 x))))) := fun c o hc => by
      by_cases n : c = e
      · subst n
        rw [he] at hc
        rw [upd_same]
        exact hc
      · rw [upd_ne n]
        exact sm _ _ hc n
    refine ⟨_, rfl, a, _, _, _, rfl, rfl, SqT.of (s5 _ _ ha), at0, _, rfl, b, _, _, _, rfl, rfl, SqT.of (s5 _ _ hb), at0, _, _, rfl, rfl, _, rfl, small64' (n := 2) (by omega), fun u hu' => ?_⟩
    have s6 := same_new hu' (.tup [V.int (La + Lb), V.ref g])
    refine q _ u (s5.trans s6) ⟨g, upd_same, r, s6 _ _ ?_, fun x hx => s6 _ _ ?_⟩
    · rw [upd_ne hge]
      exact h5
    · have h7 := h6 x hx
      rw [upd_ne (ne_of h7 h4 (fun z => by cases z))]
      exact h7
end
end Ev
/-! EvC2: line_block, repeated, block_of. -/
namespace Ev
open PySem PySem.Spec PyProof.Rows L2
section
variable {P : Program} {w : World} {K : PySem.W.Frag} {mg : Str → Option Value} {base : Heap}
theorem scRep : FnScope ["block", "names", "rounds", "modulus", "found", "power", "left"] ["block", "names", "rounds", "modulus"] (defScope sRep) := ⟨rfl, rfl, rfl, by decide +kernel, rfl, by decide +kernel, by decide +kernel⟩
theorem scBlock : FnScope ["items", "names", "modulus", "found", "item", "block"] ["items", "names", "modulus"] (defScope sBlock) := ⟨rfl, rfl, rfl, by decide +kernel, rfl, by decide +kernel, by decide +kernel⟩
def spLineB (K : PySem.W.Frag) : Sp := fun vs H Q _ => ∃ (a : Addr) (ns : List Str) (m : Nat) (x : Str) (t : Int), vs = [.ref a, .str x, .int t, .int m] ∧ SqT K H a (ns.map V.str) ∧ NmOk ns m ∧ x ∈ ns ∧ 0 ≤ t ∧
  ∀ (H' : Hp) (u : Addr), Same H H' → BlkAt H' u ns m t (fun y c => if x = y then pw 1 (dl m) t.toNat c else 0) → Q (.ref u) H'
theorem ok_lineB {k : Nat} {f g : Addr} {fd gd : FuncData} (T : Txt mg) (D : Def K mg "line_block" sLineB ["names", "name", "ticks", "modulus"] f fd) (DN : Def K mg "nothing" sNothing ["names", "modulus"] g gd) :
    FnOk P w K mg base CX0 (k + 2) f fd ["names", "name", "ticks", "modulus"] (spLineB K) := by
  have GN : FnOk P w K mg base CX0 (k + 1) g gd ["names", "modulus"] (spNothing K) := ok_nothing DN
  refine D.fn.ok scLineB (fun vs H Q E h => ?_) (fun cdv A outer s H vs Q E hr h => ?_)
  · obtain ⟨a, ns, m, x, t, rfl, _⟩ := h
    rfl
  obtain ⟨a, ns, m, x, t, rfl, ha, hN, hx, ht0, q⟩ := h
  have hu := hu_of hr
  have h1 := hN.one
  have h2 := hN.most
  have h3 := hN.few
  have hm0 : (0 : Int) < (m : Int) := by omega
  refine ⟨_, pss_cons (ps_set (i := 4) scLineB.nd rfl (.inl rfl) (pe_ix ix_tup (pe_call GN hr rfl DN.mg DN.kp DN.bi .nil pass0 (pa_cons (pv 0) (pa_cons (pv 3) pa_nil))) pe_int (fun _ _ => rfl)))
    (pss_cons (ps_dput hu (pv 4) (pv 1) (pe_lc (own := [("at", 5)]) (g := gName 5) rfl scLineB.nd (pi_range1 rfl T.range (pa_cons (pv 3) pa_nil))
      (blkOk_by (N := ["names", "name", "ticks", "modulus", "found", "at"]) (sc := defScope sLineB) (by decide +kernel)) (fun _ _ _ _ _ => pg_name (i := 5) scLineB.nd rfl (Or.inl rfl)) (fun _ _ _ _ _ => pts_nil)
      (fun _ _ _ _ _ => pe_op op_add (pe_op op_fdiv (pv 2) (pv 3)) (pe_callTy call_int1 rfl T.int (by decide +kernel) (pa_cons (pe_cmpR op_lt (pv 5) (pe_op op_mod (pv 2) (pv 3)) (nomark _)) pa_nil)))) rfl)
    (pss_one (ps_ret (pe_tup (pa_cons (pv 2) (pa_cons (pv 4) pa_nil)))))), ?_⟩
  refine ⟨_, rfl, _, rfl, a, ns, m, rfl, ha, hN, fun H1 t1 d s1 hd hT hD => ?_⟩
  refine ⟨t1, _, _, _, rfl, rfl, SqT.of hT, at1, ?_⟩
  obtain ⟨r, hdk, hrow⟩ := hD
  -- the new row
  refine ⟨_, rfl, (m : Int), rfl, by omega, by omega, fun l hl => ?_⟩
  have em : ((m : Int)).toNat = m := Int.toNat_natCast m
  refine lc_range (lo := 0) (n := ((m : Int)).toNat) (fun j H2 => Same H1 H2 ∧ H2 l = some (.lst (rowL j (pw 1 (dl m) t.toNat)))) ⟨same_new hl _, upd_same⟩ ?_ ?_
  · rintro j H2 hj ⟨s2, hl2⟩
    refine ⟨rfl, lc_yes ?_⟩
    refine ⟨_, rfl, _, rfl, _, _, rfl, rfl, ⟨by omega, by omega⟩, _, rfl, _, rfl, _, rfl, _, _, rfl, rfl, hm0, _, _, rfl, rfl, .inr ⟨_, rfl, _, _, rfl, rfl, _, hl2, ?_, fun c o hc => ?_, ?_⟩⟩
    · rw [rowL_len]
      exact lt_line (by omega)
    · rw [upd_ne (ne_of_none hc hl)]
      exact s2 _ _ hc
    · rw [upd_same, rowL_snoc, line_cl hm0 (c := (j : Int)) (by omega) (by omega)]
      have et : ((t.toNat : Nat) : Int) = t := by omega
      rw [et, Int.zero_add]
      by_cases c : (j : Int) < t % (m : Int)
      · rw [if_pos c, if_pos (decide_eq_true c)]
      · rw [if_neg c, if_neg (by rw [decide_eq_false c]; exact Bool.false_ne_true)]
  · rintro H2 ⟨s2, hl2⟩
    rw [em] at hl2
    have hd2 := s2 _ _ hdk
    have hdl : d ≠ l := ne_of_none hdk hl
    refine ⟨_, rfl, _, rfl, d, _, rfl, DPut.k (k := Sum.inr x) hd2 ?_, ?_⟩
    · rw [List.length_map]
      exact lt_line (by omega)
    refine ⟨_, rfl, _, rfl, small64' (n := 2) (by omega), fun u hu' => ?_⟩
    have hdu : d ≠ u := fun z => by rw [← z, upd_same] at hu'; cases hu'
    have s3 := same_new hu' (.tup [V.int t, .ref d])
    refine q _ u (fun c o hc => s3 _ _ ?_) ⟨d, upd_same, fun y => if y = x then l else r y, s3 _ _ ?_, fun y hy => s3 _ _ ?_⟩
    · rw [upd_ne (ne_of_none hc hd)]
      exact s2 _ _ (s1 _ _ hc)
    · rw [upd_same, put_map]
      have e1 : put ns x = ns := if_pos hx
      rw [e1]
      refine congrArg (fun l => some (HO.dK l)) (List.map_congr_left fun y _ => ?_)
      show ((Sum.inr y : L2.Key), if y = x then V.ref l else V.ref (r y)) = (Sum.inr y, V.ref (if y = x then l else r y))
      split <;> rfl
    · by_cases c : y = x
      · show (upd _ d _) (if y = x then l else r y) = _
        rw [if_pos c, upd_ne (Ne.symm hdl), hl2]
        refine congrArg (fun l => some (HO.lst l)) (rowL_congr fun z _ => ?_)
        show _ = if x = y then _ else _
        rw [if_pos c.symm]
      · have h7 := s2 _ _ (hrow y hy)
        show (upd _ d _) (if y = x then l else r y) = _
        rw [if_neg c, upd_ne (ne_of h7 hd2 (fun z => by cases z)), h7]
        refine congrArg (fun l => some (HO.lst l)) (rowL_congr fun z _ => ?_)
        show _ = if x = y then _ else _
        rw [if_neg fun e => c e.symm]
/-! ### repeated -/
/-- the int in slot 6 -/
def mu6 (σ : L2.St) : Nat := match σ.getD 6 Option.none with
  | some (V.int z) => z.toNat
  | _ => 0
def spRep (K : PySem.W.Frag) : Sp := fun vs H Q _ => ∃ (b a : Addr) (ns : List Str) (m : Nat) (k L : Int) (F : Str → Int → Int), vs = [.ref b, .ref a, .int k, .int m] ∧ BlkAt H b ns m L F ∧ SqT K H a (ns.map V.str) ∧ NmOk ns m ∧ (∀ x, Per m (F x)) ∧ 0 ≤ k ∧
  ∀ (H' : Hp) (u : Addr), Same H H' → BlkAt H' u ns m (k * L) (fun x c => pw L (F x) k.toNat c) → Q (.ref u) H'
theorem ok_rep {k : Nat} {f g j : Addr} {fd gd jd : FuncData} (T : Txt mg) (D : Def K mg "repeated" sRep ["block", "names", "rounds", "modulus"] f fd) (DN : Def K mg "nothing" sNothing ["names", "modulus"] g gd)
    (DJ : Def K mg "joined" sJoined ["one", "other", "modulus"] j jd) : FnOk P w K mg base CX0 (k + 2) f fd ["block", "names", "rounds", "modulus"] (spRep K) := by
  have GN : FnOk P w K mg base CX0 (k + 1) g gd ["names", "modulus"] (spNothing K) := ok_nothing DN
  have GJ : FnOk P w K mg base CX0 (k + 1) j jd ["one", "other", "modulus"] spJoined := ok_joined T DJ
  refine D.fn.ok scRep (fun vs H Q E h => ?_) (fun cdv A outer s H vs Q E hr h => ?_)
  · obtain ⟨b, a, ns, m, kk, L, F, rfl, _⟩ := h
    rfl
  obtain ⟨b, a, ns, m, kk, L, F, rfl, hb, ha, hN, hp, hk0, q⟩ := h
  refine ⟨_, pss_cons (ps_par3 (i := 4) (j := 5) (l := 6) rfl scRep.nd rfl rfl rfl (by decide) (by decide) (by decide) rfl rfl rfl (pa_cons (pe_call GN hr rfl DN.mg DN.kp DN.bi .nil pass0 (pa_cons (pv 1) (pa_cons (pv 3) pa_nil))) (pa_cons (pv 0) (pa_cons (pv 2) pa_nil))) (by rfl))
    (pss_cons (ps_while PassesOwn.never (pt_cmpR op_gt (pv 6) pe_int (nomark _))
      (pss_cons (ps_if (pt_cmpR op_eq (pe_op op_mod (pv 6) pe_int) pe_int (nomark _)) (pss_one (ps_set (i := 4) scRep.nd rfl (.inl rfl) (pe_call GJ hr rfl DJ.mg DJ.kp DJ.bi .nil pass0 (pa_cons (pv 4) (pa_cons (pv 5) (pa_cons (pv 3) pa_nil)))))) pss_nil)
      (pss_cons (ps_aug (i := 6) scRep.nd rfl (.inl rfl) pe_int iop_fdiv)
      (pss_one (ps_set (i := 5) scRep.nd rfl (.inl rfl) (pe_ifExp (pt_cmpR op_gt (pv 6) pe_int (nomark _)) (pe_call GJ hr rfl DJ.mg DJ.kp DJ.bi .nil pass0 (pa_cons (pv 5) (pa_cons (pv 5) (pa_cons (pv 3) pa_nil)))) (pv 5)))))))
    (pss_one (ps_ret (pv 4)))), ?_⟩
  refine ⟨_, rfl, _, rfl, a, ns, m, rfl, ha, hN, fun H1 t0 d s1 hd hT hD => ?_⟩
  refine ⟨_, rfl, _, rfl, _, _, _, rfl, ?_⟩
  refine while_by (fun σ H' => ∃ (fa pa : Addr) (u v left : Nat), σ = [some (.ref b), some (.ref a), some (.int kk), some (.int m), some (.ref fa), some (.ref pa), some (.int (left : Int))] ∧ Same H H' ∧
      BlkAt H' fa ns m (u * L) (fun x c => pw L (F x) u c) ∧ BlkAt H' pa ns m (v * L) (fun x c => pw L (F x) v c) ∧ u + v * left = kk.toNat)
    (fun σ H' => mu6 σ)
    ⟨t0, b, 0, 1, kk.toNat, ?_, s1, ⟨d, by rw [hT]; simp, hD.congr fun x _ c _ => rfl⟩, ?_, by omega⟩ ?_ ?_
  · have e : ((kk.toNat : Nat) : Int) = kk := by omega
    rw [e]
    rfl
  · have q1 := hb.same s1
    have e1 : ((1 : Nat) : Int) * L = L := by simp
    rw [e1]
    refine q1.congr fun x _ c _ => ?_
    show F x c = 0 + F x (c - ((0 : Nat) : Int) * L)
    simp
  · rintro σ H' ⟨fa, pa, u, v, left, rfl, sm, hf, hpw, hsum⟩
    refine ⟨_, rfl, _, _, rfl, rfl, _, rfl, ?_⟩
    refine ite2 (fun c => ?_) (fun c => ?_)
    · have hl0 : (0 : Int) < (left : Int) := of_decide_eq_true c
      have perv : ∀ x, Per m (fun c => pw L (F x) v c) := fun x => pw_per (hp x) L v
      refine ⟨_, rfl, _, _, rfl, rfl, (by show (0 : Int) < 2; decide), rfl, _, rfl, ?_⟩
      refine ite2 (fun ce => ?_) (fun ce => ?_)
      · have hodd : (left : Int) % 2 = 1 := V.int.inj (of_decide_eq_true ce)
        refine ⟨_, rfl, _, rfl, _, rfl, fa, pa, ns, m, _, _, _, _, rfl, hf, hpw, hN, perv, fun H2 t sm2 hb2 => ?_⟩
        have sH : Same H H2 := sm.trans sm2
        have bp := hpw.same sm2
        have bf : BlkAt H2 t ns m (((u + v : Nat) : Int) * L) (fun x c => pw L (F x) (u + v) c) := by
          have e1 : ((u + v : Nat) : Int) * L = u * L + v * L := by rw [Int.natCast_add, Int.add_mul]
          rw [e1]
          exact hb2.congr fun x _ c _ => (pw_add L (F x) u v c).symm
        have hs : (u + v) + 2 * v * (left / 2) = kk.toNat := by
          have e2 : left = 2 * (left / 2) + 1 := by omega
          have e3 : v * left = v * (2 * (left / 2) + 1) := congrArg (v * ·) e2
          rw [Nat.mul_add, Nat.mul_one, ← Nat.mul_assoc, Nat.mul_comm v 2] at e3
          omega
        generalize hu1 : u + v = u1 at bf hs
        refine ⟨_, rfl, _, _, rfl, rfl, ⟨by omega, by omega⟩, ?_⟩
        refine ⟨_, rfl, _, _, rfl, rfl, _, rfl, ?_⟩
        have e5 : (left : Int) / 2 = ((left / 2 : Nat) : Int) := by omega
        refine ite2 (fun c2 => ?_) (fun c2 => ?_)
        · refine ⟨_, rfl, _, rfl, _, rfl, pa, pa, ns, m, _, _, _, _, rfl, bp, bp, hN, perv, fun H3 t3 sm3 hb3 => ?_⟩
          refine ⟨⟨_, t3, u1, v + v, left / 2, by rw [← e5]; rfl, sH.trans sm3, bf.same sm3, ?_, by rw [Nat.two_mul] at hs; exact hs⟩, ?_⟩
          · have e1 : ((v + v : Nat) : Int) * L = v * L + v * L := by rw [Int.natCast_add, Int.add_mul]
            rw [e1]
            exact hb3.congr fun x _ c _ => (pw_add L (F x) v v c).symm
          · show (((left : Int) / 2)).toNat < ((left : Int)).toNat
            omega
        · have hz : left / 2 = 0 := by
            have q1 : ¬ ((left : Int) / 2 > 0) := of_decide_eq_false (Bool.eq_false_iff.mpr c2)
            omega
          refine ⟨_, rfl, ⟨_, pa, u1, v, left / 2, by rw [← e5]; rfl, sH, bf, bp, by rw [hz] at hs ⊢; omega⟩, ?_⟩
          show (((left : Int) / 2)).toNat < ((left : Int)).toNat
          omega
      · have hev : ¬ (left : Int) % 2 = 1 := fun z => ce (decide_eq_true (congrArg V.int z))
        have hs : u + 2 * v * (left / 2) = kk.toNat := by
          have e2 : left = 2 * (left / 2) := by omega
          have e3 : v * left = v * (2 * (left / 2)) := congrArg (v * ·) e2
          rw [← Nat.mul_assoc, Nat.mul_comm v 2] at e3
          omega
        refine ⟨_, rfl, _, _, rfl, rfl, ⟨by omega, by omega⟩, ?_⟩
        refine ⟨_, rfl, _, _, rfl, rfl, _, rfl, ?_⟩
        have e5 : (left : Int) / 2 = ((left / 2 : Nat) : Int) := by omega
        refine ite2 (fun c2 => ?_) (fun c2 => ?_)
        · refine ⟨_, rfl, _, rfl, _, rfl, pa, pa, ns, m, _, _, _, _, rfl, hpw, hpw, hN, perv, fun H3 t3 sm3 hb3 => ?_⟩
          refine ⟨⟨_, t3, u, v + v, left / 2, by rw [← e5]; rfl, sm.trans sm3, hf.same sm3, ?_, by rw [Nat.two_mul] at hs; exact hs⟩, ?_⟩
          · have e1 : ((v + v : Nat) : Int) * L = v * L + v * L := by rw [Int.natCast_add, Int.add_mul]
            rw [e1]
            exact hb3.congr fun x _ c _ => (pw_add L (F x) v v c).symm
          · show (((left : Int) / 2)).toNat < ((left : Int)).toNat
            omega
        · have hz : left / 2 = 0 := by
            have q1 : ¬ ((left : Int) / 2 > 0) := of_decide_eq_false (Bool.eq_false_iff.mpr c2)
            omega
          refine ⟨_, rfl, ⟨_, pa, u, v, left / 2, by rw [← e5]; rfl, sm, hf, hpw, by rw [hz] at hs ⊢; omega⟩, ?_⟩
          show (((left : Int) / 2)).toNat < ((left : Int)).toNat
          omega
    · have hl0 : left = 0 := by
        have q1 : ¬ ((left : Int) > 0) := of_decide_eq_false (Bool.eq_false_iff.mpr c)
        omega
      subst hl0
      refine ⟨_, rfl, q H' fa sm ?_⟩
      have e1 : u = kk.toNat := by omega
      have e2 : (u : Int) = kk := by omega
      rw [e2, e1] at hf
      exact hf
  · rintro σ H Q Q' hq ⟨v, e1, i, j, e2, e3, kk, e4, q1⟩
    exact ⟨v, e1, i, j, e2, e3, kk, e4, hq _ _ q1⟩
end
end Ev
/-! EvC3: block_of, class_table. -/
namespace Ev
open PySem PySem.Spec PyProof.Rows L2
section
variable {P : Program} {w : World} {K : PySem.W.Frag} {mg : Str → Option Value} {base : Heap}
def spBlock (K : PySem.W.Frag) (n : Nat) : Sp := fun vs H Q _ => ∃ (a na : Addr) (p : Pg) (ns : List Str) (m : Nat), vs = [.ref a, .ref na, .int m] ∧ PgAt H a p ∧ SqT K H na (ns.map V.str) ∧ NmOk ns m ∧ (∀ x, p.has x → x ∈ ns) ∧ p.ok ∧ p.dep ≤ n ∧
  ∀ (H' : Hp) (u d : Addr), Same H H' → H' u = some (.tup [.int p.len, .ref d]) → DictAt H' d ns m (fun x c => p.cl m x c) → Q (.ref u) H'
theorem ok_block {n k : Nat} {f g j l r : Addr} {fd gd jd ld rd : FuncData} (T : Txt mg) (D : Def K mg "block_of" sBlock ["items", "names", "modulus"] f fd) (DN : Def K mg "nothing" sNothing ["names", "modulus"] g gd)
    (DJ : Def K mg "joined" sJoined ["one", "other", "modulus"] j jd) (DL : Def K mg "line_block" sLineB ["names", "name", "ticks", "modulus"] l ld) (DR : Def K mg "repeated" sRep ["block", "names", "rounds", "modulus"] r rd)
    (G : ∃ sp, FnOk P w K mg base CX0 (k + 2) f fd ["items", "names", "modulus"] sp ∧ ∀ m, m + 1 = n → sp = spBlock K m) : FnOk P w K mg base CX0 (k + 3) f fd ["items", "names", "modulus"] (spBlock K n) := by
  obtain ⟨lt, hL⟩ := T.line
  obtain ⟨sp, G, hsp⟩ := G
  have GN : FnOk P w K mg base CX0 (k + 2) g gd ["names", "modulus"] (spNothing K) := ok_nothing DN
  have GJ : FnOk P w K mg base CX0 (k + 2) j jd ["one", "other", "modulus"] spJoined := ok_joined T DJ
  have GL : FnOk P w K mg base CX0 (k + 2) l ld ["names", "name", "ticks", "modulus"] (spLineB K) := ok_lineB T DL DN
  have GR : FnOk P w K mg base CX0 (k + 2) r rd ["block", "names", "rounds", "modulus"] (spRep K) := ok_rep T DR DN DJ
  refine D.fn.ok scBlock (fun vs H Q E h => ?_) (fun cdv A outer s H vs Q E hr h => ?_)
  · obtain ⟨a, na, p, ns, m, rfl, _⟩ := h
    rfl
  obtain ⟨a, na, p, ns, m, rfl, ⟨xs, ha, hv⟩, hna, hN, hin, hok, hd, q⟩ := h
  refine ⟨_, pss_cons (ps_set (i := 3) scBlock.nd rfl (.inl rfl) (pe_call GN hr rfl DN.mg DN.kp DN.bi .nil pass0 (pa_cons (pv 1) (pa_cons (pv 2) pa_nil))))
    (pss_cons (ps_for PassesOwn.never rfl (pi_tup (pv 0)) (pg_name (i := 4) scBlock.nd rfl (.inl rfl))
      (pss_cons (ps_if (pt_cmpR op_eq (pe_ix ix_tup (pv 4) pe_int (fun _ _ => rfl)) (pe_glob (v := V.str kLine) rfl hL ⟨_, rfl⟩) (nomark _))
        (pss_one (ps_set (i := 5) scBlock.nd rfl (.inl rfl) (pe_call GL hr rfl DL.mg DL.kp DL.bi .nil pass0 (pa_cons (pv 1) (pa_cons (pe_ix ix_tup (pv 4) pe_int (fun _ _ => rfl)) (pa_cons (pe_ix ix_tup (pv 4) pe_int (fun _ _ => rfl)) (pa_cons (pv 2) pa_nil)))))))
        (pss_one (ps_set (i := 5) scBlock.nd rfl (.inl rfl) (pe_call GR hr rfl DR.mg DR.kp DR.bi .nil pass0 (pa_cons (pe_call G hr rfl D.mg D.kp D.bi .nil pass0 (pa_cons (pe_ix ix_tup (pv 4) pe_int (fun _ _ => rfl)) (pa_cons (pv 1) (pa_cons (pv 2) pa_nil)))) (pa_cons (pv 1) (pa_cons (pe_ix ix_tup (pv 4) pe_int (fun _ _ => rfl)) (pa_cons (pv 2) pa_nil))))))))
      (pss_one (ps_set (i := 3) scBlock.nd rfl (.inl rfl) (pe_call GJ hr rfl DJ.mg DJ.kp DJ.bi .nil pass0 (pa_cons (pv 3) (pa_cons (pv 5) (pa_cons (pv 2) pa_nil))))))))
    (pss_one (ps_ret (pv 3)))), ?_⟩
  refine ⟨_, rfl, _, rfl, na, ns, m, rfl, hna, hN, fun H1 t0 d0 s1 hd0 hT hD => ?_⟩
  refine ⟨_, rfl, a, rfl, ⟨_, SqT.of (s1 _ _ ha)⟩, for_tup (K := K) (a := a) (xs := xs) (fun i σ H' => ∃ (R : Pg) (fa : Addr) (L : Int) (F : Str → Int → Int) (v4 v5 : Option V), σ = [some (.ref a), some (.ref na), some (.int m), some (.ref fa), v4, v5] ∧ Same H H' ∧ Left H xs i R ∧
      BlkAt H' fa ns m L F ∧ (∀ x c, F x c + R.cl m x (c - L) = p.cl m x c) ∧ L + R.len = p.len ∧ (∀ x, R.has x → x ∈ ns) ∧ R.ok ∧ R.dep ≤ n)
    ⟨p, t0, 0, fun _ _ => 0, none, none, rfl, s1, Left.start hv, ⟨d0, hT, hD⟩, fun x c => by rw [Int.sub_zero, Int.zero_add], Int.zero_add _, hin, hok, hd⟩ (fun i σ H' _ ⟨_, _, _, _, _, _, _, sm, _⟩ => SqT.of (sm _ _ ha)) ?_ ?_⟩
  · rintro i x σ H' hx ⟨R, fa, L, F, v4, v5, rfl, sm, lf, hB, hF, hLn, hRi, hRo, hdep⟩
    rcases lf.next hx with ⟨nm, t, r', b, rfl, rfl, hb, lf2⟩ | ⟨kk, bd, r', b, c, rfl, rfl, hb, hc, lf2⟩
    · have hb' := sm _ _ hb
      have ht1 := hRo.1.1
      refine ⟨_, rfl, b, _, _, _, rfl, rfl, SqT.of hb', at0, rfl, _, rfl, ?_⟩
      refine ite2 (fun _ => ?_) (fun e => absurd (decide_eq_true rfl) e)
      refine ⟨_, rfl, _, rfl, b, _, _, _, rfl, rfl, SqT.of hb', at1, _, rfl, b, _, _, _, rfl, rfl, SqT.of hb', at2, _, rfl, na, ns, m, nm, t, rfl, sqT_same sm hna, hN, hRi nm (.inl rfl), by omega, fun H2 u s2 hu => ?_⟩
      refine ⟨_, rfl, _, rfl, _, rfl, fa, u, ns, m, _, _, _, _, rfl, hB.same s2, hu, hN, fun y => ?_, fun H3 v s3 hv3 => ?_⟩
      · by_cases e : nm = y
        · simp only [if_pos e]
          exact pw_per (dl_per m) 1 t.toNat
        · simp only [if_neg e]
          exact fun c => rfl
      · refine ⟨r', v, _, _, _, _, rfl, sm.trans (s2.trans s3), lf2, hv3, fun y c => ?_, ?_, fun y hy => hRi y (.inr hy), hRo.2, hdep⟩
        · have q1 : F y c + ((if nm = y then pw 1 (dl m) t.toNat (c - L) else 0) + r'.cl m y (c - L - t)) = p.cl m y c := hF y c
          show F y c + (if nm = y then pw 1 (dl m) t.toNat (c - L) else 0) + r'.cl m y (c - (L + t)) = p.cl m y c
          rw [show c - (L + t) = c - L - t by omega]
          omega
        · have q1 : L + (t + r'.len) = p.len := hLn
          omega
    · have hb' := sm _ _ hb
      have hdd : max (bd.dep + 1) r'.dep ≤ n := hdep
      obtain ⟨n', rfl⟩ : ∃ n', n = n' + 1 := ⟨n - 1, by omega⟩
      have esp := hsp n' rfl
      subst esp
      obtain ⟨hkk, hbo, _, _, hro⟩ := hRo
      refine ⟨_, rfl, b, _, _, _, rfl, rfl, SqT.of hb', at0, rfl, _, rfl, ?_⟩
      refine ite2 (fun e => absurd (of_decide_eq_true e) line_loop) (fun _ => ?_)
      refine ⟨_, rfl, b, _, _, _, rfl, rfl, SqT.of hb', at2, _, rfl, _, rfl, c, na, bd, ns, m, rfl, hc.same sm, sqT_same sm hna, hN, fun y hy => hRi y (.inl hy), hbo, by omega, fun H2 u d s2 hu hdu => ?_⟩
      refine ⟨_, rfl, _, rfl, b, _, _, _, rfl, rfl, SqT.of (s2 _ _ hb'), at1, _, rfl, u, na, ns, m, kk, _, _, rfl, ⟨d, hu, hdu⟩, sqT_same (sm.trans s2) hna, hN, fun y => cl_per m y bd, by omega, fun H3 u3 s3 hu3 => ?_⟩
      refine ⟨_, rfl, _, rfl, _, rfl, fa, u3, ns, m, _, _, _, _, rfl, hB.same (s2.trans s3), hu3, hN, fun y => pw_per (cl_per m y bd) bd.len kk.toNat, fun H4 v s4 hv4 => ?_⟩
      refine ⟨r', v, _, _, _, _, rfl, sm.trans (s2.trans (s3.trans s4)), lf2, hv4, fun y c => ?_, ?_, fun y hy => hRi y (.inr hy), hro, by omega⟩
      · have q1 : F y c + (pw bd.len (fun x => bd.cl m y x) kk.toNat (c - L) + r'.cl m y (c - L - kk * bd.len)) = p.cl m y c := hF y c
        show F y c + pw bd.len (fun c => bd.cl m y c) kk.toNat (c - L) + r'.cl m y (c - (L + kk * bd.len)) = p.cl m y c
        rw [show c - (L + kk * bd.len) = c - L - kk * bd.len by omega]
        omega
      · have q1 : L + (kk * bd.len + r'.len) = p.len := hLn
        omega
  · rintro σ H' ⟨R, fa, L, F, v4, v5, rfl, sm, lf, ⟨d, hfa, hB⟩, hF, hLn, hRi, hRo, hdep⟩
    have e := lf.done
    subst e
    have eL : L = p.len := by
      have q1 : L + 0 = p.len := hLn
      omega
    subst eL
    refine ⟨_, rfl, q H' fa d sm hfa (hB.congr fun x _ c _ => ?_)⟩
    have q1 : F x c + 0 = p.cl m x c := hF x c
    omega
theorem block_all {f g j l r : Addr} {fd gd jd ld rd : FuncData} (T : Txt mg) (D : Def K mg "block_of" sBlock ["items", "names", "modulus"] f fd) (DN : Def K mg "nothing" sNothing ["names", "modulus"] g gd)
    (DJ : Def K mg "joined" sJoined ["one", "other", "modulus"] j jd) (DL : Def K mg "line_block" sLineB ["names", "name", "ticks", "modulus"] l ld) (DR : Def K mg "repeated" sRep ["block", "names", "rounds", "modulus"] r rd) :
    ∀ n : Nat, FnOk P w K mg base CX0 (n + 3) f fd ["items", "names", "modulus"] (spBlock K n)
  | 0 => ok_block (k := 0) T D DN DJ DL DR ⟨fun _ _ _ _ => False, no_calls fun _ _ _ _ h => h, fun m h => absurd h (Nat.succ_ne_zero m)⟩
  | n + 1 => ok_block T D DN DJ DL DR ⟨spBlock K n, block_all T D DN DJ DL DR n, fun m h => by rw [Nat.succ.inj h]⟩
/-! ### class_table -/
/-- at t stands a table: for each class a tuple of the numbers of the names' ticks -/
def TabAt (H : Hp) (t : Addr) (ns : List Str) (m : Nat) (F : Str → Int → Int) : Prop :=
  ∃ r : Nat → Addr, H t = some (.tup ((List.range m).map fun c => V.ref (r c))) ∧ ∀ c, c < m → H (r c) = some (.tup (ns.map fun x => V.int (F x (c : Int))))
theorem TabAt.same {H H' : Hp} (s : Same H H') {t : Addr} {ns : List Str} {m : Nat} {F : Str → Int → Int} (h : TabAt H t ns m F) : TabAt H' t ns m F := by
  obtain ⟨r, h1, h2⟩ := h
  exact ⟨r, s _ _ h1, fun c hc => s _ _ (h2 c hc)⟩
theorem scTable : FnScope ["program", "modulus", "names", "rows", "at", "name"] ["program", "modulus"] (defScope sTable) := ⟨rfl, rfl, rfl, by decide +kernel, rfl, by decide +kernel, by decide +kernel⟩
def spTable : Sp := fun vs H Q _ => ∃ (a : Addr) (p : Pg) (m : Nat), vs = [.ref a, .int m] ∧ PgAt H a p ∧ InPool p ∧ p.ok ∧ p.dep ≤ 5 ∧ 1 ≤ m ∧ m ≤ 1000 ∧
  ∀ (H' : Hp) (t : Addr), Same H H' → TabAt H' t p.lines m (fun x c => p.cl m x c) → Q (.ref t) H'
theorem ok_table {f b i : Addr} {fd bd id' : FuncData} (T : Txt mg) (D : Def K mg "class_table" sTable ["program", "modulus"] f fd) (DB : Def K mg "block_of" sBlock ["items", "names", "modulus"] b bd) (GB : FnOk P w K mg base CX0 8 b bd ["items", "names", "modulus"] (spBlock K 5))
    (DI : Def K mg "lines_of" sLines ["program"] i id') (GI : FnOk P w K mg base CX0 7 i id' ["program"] spLines) : FnOk P w K mg base CX0 9 f fd ["program", "modulus"] spTable := by
  refine D.fn.ok scTable (fun vs H Q E h => ?_) (fun cdv A outer s H vs Q E hr h => ?_)
  · obtain ⟨a, p, m, rfl, _⟩ := h
    rfl
  obtain ⟨a, p, m, rfl, ha, hp, hok, hd, h1, h2, q⟩ := h
  have hu := hu_of hr
  have hr7 : Room 7 _ := hr.mono (by decide)
  refine ⟨_, pss_cons (ps_set (i := 2) scTable.nd rfl (.inr rfl) (pe_call GI hr7 rfl DI.mg DI.kp DI.bi .nil pass0 (pa_cons (pv 0) pa_nil)))
    (pss_cons (ps_set (i := 3) scTable.nd rfl (.inr rfl) (pe_ix ix_tup (pe_call GB hr rfl DB.mg DB.kp DB.bi .nil pass0 (pa_cons (pv 0) (pa_cons (pv 2) (pa_cons (pv 1) pa_nil)))) pe_int (fun _ _ => rfl)))
    (pss_one (ps_ret (pe_callTy call_tuple_of rfl T.tuple (by decide +kernel) (pa_cons
      (pe_lc (own := [("at", 4)]) (g := gName 4) rfl scTable.nd (pi_range1 rfl T.range (pa_cons (pv 1) pa_nil)) (blkOk_by (N := ["program", "modulus", "names", "rows", "at", "name"]) (sc := defScope sTable) (by decide +kernel))
        (fun _ _ _ _ _ => pg_name (i := 4) scTable.nd rfl (Or.inr rfl)) (fun _ _ _ _ _ => pts_nil)
        (fun s1 _ C cl _ => pe_callTy (r := fun xs H Q => ∃ p ys, xs = [.ref p] ∧ ((SqL K H p ys ∧ ∀ l, H l = none → Q (.ref l) (upd H l (.tup ys))) ∨ (SqT K H p ys ∧ Q (.ref p) H))) call_tuple_of rfl T.tuple (by decide +kernel) (pa_cons
          (pe_lc (own := [("name", 5)]) (wi := iTup K (tVar 2)) (g := gName 5) rfl scTable.nd (pi_tup (pv 2)) (blkOk_by (N := ["program", "modulus", "names", "rows", "at", "name"]) (by with_unfolding_all rfl))
            (fun _ _ _ _ _ => pg_name (i := 5) scTable.nd rfl (Or.inl rfl)) (fun _ _ _ _ _ => pts_nil)
            (fun _ _ _ _ _ => pe_ix (r := rIxL K) ix_list (pe_dget hu (pv 3) (pv 5) (fun _ _ => rfl)) (pv 4) (fun _ _ => rfl))) pa_nil))) pa_nil))))), ?_⟩
  refine ⟨_, rfl, a, p, rfl, ha, hp, hd, fun H1 tn s1 hn0 hn => ?_⟩
  have hN : NmOk p.lines m := ⟨lines_nd p, by have := lines_few hp; omega, h1, h2⟩
  refine ⟨_, rfl, _, rfl, _, rfl, a, tn, p, p.lines, m, rfl, ha.same s1, SqT.of hn, hN, fun x hx => mem_lines.mpr hx, hok, hd, fun H2 u d s2 hu2 hD => ?_⟩
  refine ⟨u, _, _, _, rfl, rfl, SqT.of hu2, at1, ?_⟩
  obtain ⟨r, hdk, hrow⟩ := hD
  have hn2 := s2 _ _ hn
  refine ⟨_, rfl, (m : Int), rfl, by omega, by omega, fun o ho => ?_⟩
  refine lc_range (lo := 0) (n := ((m : Int)).toNat) (fun i H' => ∃ g : Nat → Addr, Same H2 H' ∧ H' o = some (.lst ((List.range i).map fun c => V.ref (g c))) ∧ ∀ c, c < i → H' (g c) = some (.tup (p.lines.map fun x => V.int (p.cl m x (c : Int)))))
    ⟨fun _ => 0, same_new ho _, upd_same, fun c hc => absurd hc (Nat.not_lt_zero c)⟩ ?_ ?_
  · rintro i H' hi ⟨g, s3, h4, h5⟩
    have him : i < m := by omega
    refine ⟨rfl, lc_yes ?_⟩
    refine ⟨_, rfl, tn, rfl, ⟨_, SqT.of (s3 _ _ hn2)⟩, fun o2 ho2 => ?_⟩
    refine lc_tup (K := K) (a := tn) (xs := p.lines.map V.str) (fun j H3 => Same H' H3 ∧ H3 o2 = some (.lst ((p.lines.take j).map fun x => V.int (p.cl m x (i : Int))))) ⟨same_new ho2 _, upd_same⟩ (fun j H3 _ ⟨s4, _⟩ => SqT.of (s4 _ _ (s3 _ _ hn2))) ?_ ?_
    · rintro j y H3 hy ⟨s4, h6⟩
      have hj : j < p.lines.length := by
        have q1 := (List.getElem?_eq_some_iff.mp hy).1
        rw [List.length_map] at q1
        exact q1
      have ex : p.lines[j]? = some p.lines[j] := List.getElem?_eq_getElem hj
      have ey : y = V.str p.lines[j] := by
        rw [List.getElem?_map, ex] at hy
        exact (Option.some.inj hy).symm
      subst ey
      have hin : p.lines[j] ∈ p.lines := List.getElem_mem hj
      have hget : DGet H3 d (.str p.lines[j]) (some (.ref (r p.lines[j]))) := by
        have hv : some (V.ref (r p.lines[j])) = valV (p.lines.map fun x => ((Sum.inr x : L2.Key), V.ref (r x))) (Sum.inr p.lines[j] : L2.Key) := by
          have q1 := val_map (f := fun x => V.ref (r x)) (x := p.lines[j]) (ks := p.lines)
          rw [if_pos hin] at q1
          exact q1.symm
        exact .inl ⟨_, Sum.inr p.lines[j], .inl (s4 _ _ (s3 _ _ hdk)), rfl, hv⟩
      refine ⟨rfl, lc_yes ?_⟩
      refine ⟨_, rfl, _, rfl, d, _, rfl, hget, _, rfl, _, _, _, _, rfl, rfl, SqL.of (s4 _ _ (s3 _ _ (hrow _ hin))), at_row (cl_per m p.lines[j] p) (by omega) (by omega), _, h6, ?_, fun c z hc => ?_, ?_⟩
      · rw [List.length_map, List.length_take]
        have := hN.few
        exact lt_line (by omega)
      · rw [upd_ne (ne_of_none hc ho2)]
        exact s4 _ _ hc
      · rw [upd_same, take_next' ex, List.map_append, Int.zero_add]
        rfl
    · rintro H3 ⟨s4, h6⟩
      rw [List.length_map, List.take_length] at h6
      refine ⟨o2, _, rfl, .inl ⟨SqL.of h6, fun t ht => ?_⟩⟩
      have s5 := same_new ht (.tup (p.lines.map fun x => V.int (p.cl m x (i : Int))))
      have s6 := s4.trans s5
      refine ⟨_, s6 _ _ h4, ?_, fun c => if c = i then t else g c, fun c z hc => ?_, ?_, fun c hc => ?_⟩
      · rw [List.length_map, List.length_range]
        exact lt_line (by omega)
      · rw [upd_ne (ne_of_none hc ho)]
        exact s6 _ _ (s3 _ _ hc)
      · rw [upd_same, List.range_succ, List.map_append]
        refine congrArg (fun l => some (HO.lst l)) ?_
        have e1 : ((List.range i).map fun c => V.ref (if c = i then t else g c)) = (List.range i).map fun c => V.ref (g c) := by
          refine List.map_congr_left fun c hc => ?_
          have := List.mem_range.mp hc
          rw [if_neg (by omega)]
        rw [e1]
        show _ ++ [V.ref t] = _ ++ [V.ref (if i = i then t else g i)]
        rw [if_pos rfl]
      · have hto : t ≠ o := fun z => by
          rw [z, s4 _ _ h4] at ht
          cases ht
        show (upd _ o _) (if c = i then t else g c) = _
        by_cases e : c = i
        · rw [if_pos e, upd_ne hto, upd_same, e]
        · have h7 := h5 c (by omega)
          rw [if_neg e, upd_ne (ne_of h7 h4 (fun z => by cases z))]
          exact s6 _ _ h7
  · rintro H' ⟨g, s3, h4, h5⟩
    rw [Int.toNat_natCast] at h4 h5
    refine ⟨o, _, rfl, .inl ⟨SqL.of h4, fun t ht => ?_⟩⟩
    have s5 := same_new ht (.tup ((List.range m).map fun c => V.ref (g c)))
    exact q _ t (s1.trans (s2.trans (s3.trans s5))) ⟨g, upd_same, fun c hc => s5 _ _ (h5 c hc)⟩
end
end Ev
/-! EvL1: the law's draws: _law_pot, _law_take, _law_of, _law_names. -/
namespace Ev
open PySem PySem.Spec PyProof.Rows L2
/-- a pot after at most c mixed draws -/
def PotAt (H : Hp) (p : Addr) (c : Nat) : Prop := ∃ a b k : Int, H p = some (.lst [.int a, .int b, .int k]) ∧ (0 ≤ a ∧ a < 10 ^ 400) ∧ (0 ≤ b ∧ b < 2305843009213693921) ∧ (0 ≤ k ∧ k ≤ c)
theorem PotAt.same {H H' : Hp} (s : Same H H') {p : Addr} {c : Nat} (h : PotAt H p c) : PotAt H' p c := by
  obtain ⟨a, b, k, h1, h2⟩ := h
  exact ⟨a, b, k, s _ _ h1, h2⟩
theorem PotAt.mono {H : Hp} {p : Addr} {c c' : Nat} (h : PotAt H p c) (hc : c ≤ c') : PotAt H p c' := by
  obtain ⟨a, b, k, h1, h2, h3, h4⟩ := h
  exact ⟨a, b, k, h1, h2, h3, h4.1, by omega⟩
theorem SameBut.refl (p : Addr) (H : Hp) : SameBut p H H := fun b o h _ => h
theorem SameBut.trans {p : Addr} {H H1 H2 : Hp} (a : SameBut p H H1) (b : SameBut p H1 H2) : SameBut p H H2 := fun c o h n => b c o (a c o h n) n
theorem Same.but {H H1 : Hp} (a : Same H H1) (p : Addr) : SameBut p H H1 := fun c o h _ => a c o h
theorem SameBut.free {p : Addr} {H H' : Hp} (s : SameBut p H H') (hp : H p ≠ none) {l : Addr} (h : H' l = Option.none) (hl : H' p ≠ none) : H l = Option.none := by
  cases q : H l with
  | none => rfl
  | some o =>
    by_cases e : l = p
    · rw [e] at h; exact absurd h hl
    · rw [s l o q e] at h; cases h
theorem lst_ne_tup {H : Hp} {a b : Addr} {xs ys : List V} (h : H a = some (.lst xs)) (h' : H b = some (.tup ys)) : b ≠ a := fun e => by
  rw [e, h] at h'
  cases h'
/-- a program stays where a list is changed -/
theorem PgV.but {H H' : Hp} {p : Addr} {xs : List V} (hp : H p = some (.lst xs)) (s : SameBut p H H') : ∀ {P : Pg} {vs : List V}, PgV H P vs → PgV H' P vs
  | .nil, _, h => h
  | .line n t r, vs, h => by
    obtain ⟨a, rest, e, h1, h2⟩ := h
    exact ⟨a, rest, e, s _ _ h1 (lst_ne_tup hp h1), PgV.but hp s h2⟩
  | .loop k b r, vs, h => by
    obtain ⟨a, c, bs, rest, e, h1, h2, h3, h4⟩ := h
    exact ⟨a, c, bs, rest, e, s _ _ h1 (lst_ne_tup hp h1), s _ _ h2 (lst_ne_tup hp h2), PgV.but hp s h3, PgV.but hp s h4⟩
theorem PgAt.but {H H' : Hp} {p : Addr} {c : Nat} (hp : PotAt H p c) (s : SameBut p H H') {a : Addr} {P : Pg} (h : PgAt H a P) : PgAt H' a P := by
  obtain ⟨_, _, _, hp, _⟩ := hp
  obtain ⟨vs, h1, h2⟩ := h
  exact ⟨vs, s _ _ h1 (lst_ne_tup hp h1), h2.but hp s⟩
section
variable {P : Program} {w : World} {K : PySem.W.Frag} {mg : Str → Option Value} {base : Heap}
theorem scPot : FnScope ["_law_script", "_law_k", "_law_cell", "_law_own"] ["_law_script", "_law_k"] (defScope sPot) := ⟨rfl, rfl, rfl, by decide +kernel, rfl, by decide +kernel, by decide +kernel⟩
theorem scTake : FnScope ["_law_pot_here", "_law_many_here", "_law_digit", "_law_prime", "_law_mixed"] ["_law_pot_here", "_law_many_here"] (defScope sTake) := ⟨rfl, rfl, rfl, by decide +kernel, rfl, by decide +kernel, by decide +kernel⟩
theorem scOf : FnScope ["_law_pot_here", "_law_some"] ["_law_pot_here", "_law_some"] (defScope sOf) := ⟨rfl, rfl, rfl, by decide +kernel, rfl, by decide +kernel, by decide +kernel⟩
theorem scLNames : FnScope ["_law_pot_here", "_law_many_here", "_law_pool", "_law_turn"] ["_law_pot_here", "_law_many_here"] (defScope sLNames) := ⟨rfl, rfl, rfl, by decide +kernel, rfl, by decide +kernel, by decide +kernel⟩
def spPot (K : PySem.W.Frag) : Sp := fun vs H Q _ => ∃ (s : Addr) (ns : List Int) (k : Int), vs = [.ref s, .int k] ∧ SqL K H s (ns.map V.int) ∧ (0 ≤ k ∧ k ≤ 100) ∧ ∀ (H' : Hp) (p : Addr), Same H H' → H p = none → PotAt H' p 0 → Q (.ref p) H'
theorem big1 : (0 : Int) < ((10 : Int) ^ (50 : Int).toNat) ^ (8 : Int).toNat := by decide +kernel
theorem big2 : ((10 : Int) ^ (50 : Int).toNat) ^ (8 : Int).toNat = 10 ^ 400 := by decide +kernel
theorem big3 : CPowB ((10 : Int) ^ (50 : Int).toNat) 8 := by
  refine ⟨by decide, ?_⟩
  decide +kernel
theorem bit_mul {x N : Int} (b : Bool) (h0 : 0 ≤ x) (h1 : x < N) : 0 ≤ x * (if b = true then 1 else 0) ∧ x * (if b = true then 1 else 0) < N := by
  cases b with
  | true => rw [if_pos rfl, Int.mul_one]; exact ⟨h0, h1⟩
  | false => rw [if_neg Bool.false_ne_true, Int.mul_zero]; exact ⟨Int.le_refl 0, by omega⟩
theorem ok_pot {k : Nat} {f : Addr} {fd : FuncData} (T : Txt mg) (D : Def K mg "_law_pot" sPot ["_law_script", "_law_k"] f fd) : FnOk P w K mg base CX0 (k + 1) f fd ["_law_script", "_law_k"] (spPot K) := by
  refine D.fn.ok scPot (fun vs H Q E h => ?_) (fun cdv A outer s H vs Q E hr h => ?_)
  · obtain ⟨s, ns, kk, rfl, _⟩ := h
    rfl
  obtain ⟨s, ns, kk, rfl, hs, ⟨hk0, hk1⟩, q⟩ := h
  refine ⟨_, pss_cons (ps_set (i := 2) scPot.nd rfl (.inl rfl) (pe_op op_add (pe_op op_mul pe_int (pv 1)) pe_int))
    (pss_cons (ps_if (pt_cmpR op_lt (pv 1) (pe_callB call_len_seq rfl T.len PySem.boot_len (pa_cons (pv 0) pa_nil)) (nomark _)) (pss_one (ps_set (i := 2) scPot.nd rfl (.inl rfl) (pe_ix ix_list (pv 0) (pv 1) (fun _ _ => rfl)))) pss_nil)
    (pss_cons (ps_set (i := 3) scPot.nd rfl (.inl rfl) (pe_op op_mul (pe_op op_mod (pe_callB call_abs rfl T.abs (by decide +kernel) (pa_cons (pv 2) pa_nil)) (pe_op op_powB (pe_op op_pow pe_int pe_int) pe_int))
      (pe_callTy call_int1 rfl T.int (by decide +kernel) (pa_cons (pe_cmpR op_ge (pe_callB call_abs rfl T.abs (by decide +kernel) (pa_cons (pv 2) pa_nil)) (pe_op op_pow pe_int pe_int) (nomark _)) pa_nil))))
    (pss_one (ps_ret (pe_lst (pa_cons (pv 3) (pa_cons (pe_op op_mod (pe_op op_add (pe_op op_add (pe_op op_mul (pe_op op_mod (pv 2) pe_int) pe_int) (pe_op op_mul (pe_op op_mul pe_int (pv 1)) (pv 1))) pe_int) pe_int) (pa_cons pe_int pa_nil)))))))), ?_⟩
  refine ⟨_, rfl, _, _, rfl, rfl, .inl ⟨by omega, by omega⟩, _, _, rfl, rfl, ?_⟩
  refine ⟨_, rfl, _, rfl, s, _, rfl, .inl hs, _, _, rfl, rfl, _, rfl, ?_⟩
  refine ite2 (fun c => ?_) (fun c => ?_)
  · have hlt : kk < (((ns.map V.int).length : Nat) : Int) := of_decide_eq_true c
    rw [List.length_map] at hlt
    have hkn : kk.toNat < ns.length := by omega
    have hat : atI (ns.map V.int) kk = some (V.int ns[kk.toNat]) := at_of (j := kk.toNat) (by omega) (by rw [List.getElem?_map, List.getElem?_eq_getElem hkn]; rfl)
    refine ⟨_, rfl, _, rfl, s, _, _, _, rfl, rfl, hs, hat, ?_⟩
    generalize ns[kk.toNat] = cell
    revert cell
    clear hat hkn hlt c
    intro cell
    refine ⟨_, rfl, _, rfl, _, _, rfl, rfl, ⟨by omega, by omega, by decide⟩, _, _, rfl, rfl, big3, _, _, rfl, rfl, big1, ?_⟩
    refine ⟨_, rfl, _, rfl, _, _, rfl, rfl, ⟨by omega, by omega, by decide⟩, _, _, rfl, rfl, .inr ⟨_, rfl, _, _, rfl, rfl, .inr ⟨by split <;> omega, by split <;> omega⟩, ?_⟩⟩
    refine ⟨_, rfl, _, rfl, _, _, rfl, rfl, (by show (0 : Int) < 2305843009213693951; decide), _, _, rfl, rfl, .inr ⟨by decide, by decide⟩, _, rfl, _, _, rfl, rfl, .inl ⟨by decide, by decide⟩, _, rfl, _, _, rfl, rfl, .inr ⟨by omega, by omega⟩, _, _, rfl, rfl, _, _, rfl, rfl, _, _, rfl, rfl, (by show (0 : Int) < 2305843009213693921; decide), small64' (n := 3) (by omega), fun l hl => ?_⟩
    refine q _ l (same_new hl _) hl ⟨_, _, _, upd_same, ?_, ⟨Int.emod_nonneg _ (by decide), Int.emod_lt_of_pos _ (by decide)⟩, ⟨by omega, by omega⟩⟩
    have b1 := Int.emod_nonneg (if cell < 0 then -cell else cell) (show ((10 : Int) ^ (50 : Int).toNat) ^ (8 : Int).toNat ≠ 0 by have := big1; omega)
    have b2 := Int.emod_lt_of_pos (if cell < 0 then -cell else cell) big1
    rw [big2] at b1 b2 ⊢
    exact bit_mul _ b1 b2
  · refine ⟨_, rfl, _, rfl, _, _, rfl, rfl, ⟨by omega, by omega, by decide⟩, _, _, rfl, rfl, big3, _, _, rfl, rfl, big1, ?_⟩
    refine ⟨_, rfl, _, rfl, _, _, rfl, rfl, ⟨by omega, by omega, by decide⟩, _, _, rfl, rfl, .inr ⟨_, rfl, _, _, rfl, rfl, .inr ⟨by split <;> omega, by split <;> omega⟩, ?_⟩⟩
    refine ⟨_, rfl, _, rfl, _, _, rfl, rfl, (by show (0 : Int) < 2305843009213693951; decide), _, _, rfl, rfl, .inr ⟨by decide, by decide⟩, _, rfl, _, _, rfl, rfl, .inl ⟨by decide, by decide⟩, _, rfl, _, _, rfl, rfl, .inr ⟨by omega, by omega⟩, _, _, rfl, rfl, _, _, rfl, rfl, _, _, rfl, rfl, (by show (0 : Int) < 2305843009213693921; decide), small64' (n := 3) (by omega), fun l hl => ?_⟩
    refine q _ l (same_new hl _) hl ⟨_, _, _, upd_same, ?_, ⟨Int.emod_nonneg _ (by decide), Int.emod_lt_of_pos _ (by decide)⟩, ⟨by omega, by omega⟩⟩
    have b1 := Int.emod_nonneg (if 29 * kk + 11 < 0 then -(29 * kk + 11) else 29 * kk + 11) (show ((10 : Int) ^ (50 : Int).toNat) ^ (8 : Int).toNat ≠ 0 by have := big1; omega)
    have b2 := Int.emod_lt_of_pos (if 29 * kk + 11 < 0 then -(29 * kk + 11) else 29 * kk + 11) big1
    rw [big2] at b1 b2 ⊢
    exact bit_mul _ b1 b2
/-! ### _law_take -/
def spTake : Sp := fun vs H Q _ => ∃ (p : Addr) (many : Int) (c : Nat), vs = [.ref p, .int many] ∧ PotAt H p c ∧ c ≤ 100000 ∧ (1 ≤ many ∧ many ≤ 10 ^ 18) ∧
  ∀ (H' : Hp) (r : Int), SameBut p H H' → PotAt H' p (c + 1) → 0 ≤ r → r < many → Q (.int r) H'
theorem sq_le {k : Int} (h0 : 0 ≤ k) (h1 : k ≤ 100001) : 0 ≤ 98299 * k * k ∧ 98299 * k * k ≤ 98299 * 100001 * 100001 :=
  ⟨Int.mul_nonneg (by omega) h0, Int.mul_le_mul (by omega) h1 h0 (by omega)⟩
theorem primes (k : Int) : ∃ pr : Int, atI [V.int 2147483647, V.int 2147483629, V.int 2147483587, V.int 2147483579, V.int 2147483563] (k % 5) = some (.int pr) ∧ 0 < pr ∧ pr ≤ 2147483647 := by
  have h0 := Int.emod_nonneg k (show (5 : Int) ≠ 0 by decide)
  have h1 := Int.emod_lt_of_pos k (show (0 : Int) < 5 by decide)
  have h : k % 5 = 0 ∨ k % 5 = 1 ∨ k % 5 = 2 ∨ k % 5 = 3 ∨ k % 5 = 4 := by omega
  rcases h with h | h | h | h | h <;> rw [h]
  · exact ⟨2147483647, atI_nat (j := 0) rfl, by decide, by decide⟩
  · exact ⟨2147483629, atI_nat (j := 1) rfl, by decide, by decide⟩
  · exact ⟨2147483587, atI_nat (j := 2) rfl, by decide, by decide⟩
  · exact ⟨2147483579, atI_nat (j := 3) rfl, by decide, by decide⟩
  · exact ⟨2147483563, atI_nat (j := 4) rfl, by decide, by decide⟩
theorem div_bits {many : Int} (h0 : 1 ≤ many) (h1 : many ≤ 10 ^ 18) : CDivW (0 : Int) many := wide_div (b := 60) (by omega) (by
  have e : (10 : Int) ^ 18 = 1000000000000000000 := by decide
  rw [e] at h1
  have e2 : (2 : Nat) ^ 60 = 1152921504606846976 := by decide
  rw [e2]
  omega) (by decide) (by decide)
theorem ok_take {k : Nat} {f : Addr} {fd : FuncData} (D : Def K mg "_law_take" sTake ["_law_pot_here", "_law_many_here"] f fd) : FnOk P w K mg base CX0 (k + 1) f fd ["_law_pot_here", "_law_many_here"] spTake := by
  refine D.fn.ok scTake (fun vs H Q E h => ?_) (fun cdv A outer s H vs Q E hr h => ?_)
  · obtain ⟨p, many, c, rfl, _⟩ := h
    rfl
  obtain ⟨p, many, c, rfl, ⟨a, b, kk, hp, ⟨ha0, ha1⟩, ⟨hb0, hb1⟩, ⟨hk0, hk1⟩⟩, hc, ⟨hm0, hm1⟩, q⟩ := h
  have hmp : (0 : Int) < many := by omega
  refine ⟨_, pss_cons (ps_if (pt_cmpR op_gt (pe_ix ix_list (pv 0) pe_int (fun _ _ => rfl)) pe_int (nomark _))
      (pss_cons (ps_set (i := 2) scTake.nd rfl (.inl rfl) (pe_op op_mod (pe_ix ix_list (pv 0) pe_int (fun _ _ => rfl)) (pv 1)))
      (pss_cons (ps_asg (pe_op op_fdivW (pe_ix ix_list (pv 0) pe_int (fun _ _ => rfl)) (pv 1)) (pg_sub (pv 0) pe_int set_list))
      (pss_one (ps_ret (pv 2))))) pss_nil)
    (pss_cons (ps_asg (pe_op op_add (pe_ix ix_list (pv 0) pe_int (fun _ _ => rfl)) pe_int) (pg_sub (pv 0) pe_int set_list))
    (pss_cons (ps_set (i := 3) scTake.nd rfl (.inl rfl) (pe_ix ix_list (pe_lst (pa_cons pe_int (pa_cons pe_int (pa_cons pe_int (pa_cons pe_int (pa_cons pe_int pa_nil)))))) (pe_op op_mod (pe_ix ix_list (pv 0) pe_int (fun _ _ => rfl)) pe_int) (fun _ _ => rfl)))
    (pss_cons (ps_set (i := 4) scTake.nd rfl (.inl rfl) (pe_op op_mod (pe_op op_pow (pe_op op_add (pe_op op_add (pe_ix ix_list (pv 0) pe_int (fun _ _ => rfl)) (pe_op op_mul (pe_op op_mul pe_int (pe_ix ix_list (pv 0) pe_int (fun _ _ => rfl))) (pe_ix ix_list (pv 0) pe_int (fun _ _ => rfl)))) pe_int) pe_int) (pv 3)))
    (pss_one (ps_ret (pe_op op_mod (pe_op op_fdiv (pe_op op_mod (pe_op op_mul (pv 4) (pe_op op_add (pe_op op_mod (pv 4) pe_int) (pe_op op_mul pe_int (pe_ix ix_list (pv 0) pe_int (fun _ _ => rfl))))) pe_int) pe_int) (pv 1))))))), ?_⟩
  refine ⟨_, rfl, p, _, _, _, rfl, rfl, SqL.of hp, at0, _, _, rfl, rfl, _, rfl, ?_⟩
  refine ite2 (fun e => ?_) (fun e => ?_)
  · have ha : 0 < a := of_decide_eq_true e
    refine ⟨_, rfl, p, _, _, _, rfl, rfl, SqL.of hp, at0, _, rfl, _, _, rfl, rfl, hmp, ?_⟩
    refine ⟨_, rfl, p, _, _, _, rfl, rfl, SqL.of hp, at0, _, rfl, _, _, rfl, rfl, ⟨(div_bits hm0 hm1).1, (div_bits hm0 hm1).2⟩, ?_⟩
    refine ⟨_, rfl, p, _, 0, 0, rfl, rfl, hp, rfl, ?_⟩
    refine ⟨_, rfl, q _ _ (fun x o hx hn => by rw [upd_ne hn]; exact hx) ⟨a / many, b, kk, upd_same, ⟨Int.ediv_nonneg ha0 (by omega), ?_⟩, ⟨hb0, hb1⟩, ⟨hk0, by omega⟩⟩ (Int.emod_nonneg _ (by omega)) (Int.emod_lt_of_pos _ hmp)⟩
    have q1 : a / many ≤ a := Int.ediv_le_self many ha0
    omega
  · refine ⟨_, rfl, p, _, _, _, rfl, rfl, SqL.of hp, at2, _, _, rfl, rfl, ?_⟩
    refine ⟨_, rfl, p, _, 2, 2, rfl, rfl, hp, rfl, ?_⟩
    show tSeq _ _ _ _ (upd H p (.lst [V.int a, V.int b, V.int (kk + 1)]))
    generalize hH1 : upd H p (.lst [V.int a, V.int b, V.int (kk + 1)]) = H1
    have hp1 : H1 p = some (.lst [V.int a, V.int b, V.int (kk + 1)]) := by rw [← hH1, upd_same]
    have sb : SameBut p H H1 := fun x o hx hn => by rw [← hH1, upd_ne hn]; exact hx
    refine ⟨small64' (n := 5) (by omega), fun l hl => ?_⟩
    have s2 := same_new hl (.lst [V.int 2147483647, V.int 2147483629, V.int 2147483587, V.int 2147483579, V.int 2147483563])
    have hp2 := s2 _ _ hp1
    generalize hH2 : upd H1 l (.lst [V.int 2147483647, V.int 2147483629, V.int 2147483587, V.int 2147483579, V.int 2147483563]) = H2 at s2 hp2
    have hl2 : H2 l = some (.lst [V.int 2147483647, V.int 2147483629, V.int 2147483587, V.int 2147483579, V.int 2147483563]) := by rw [← hH2, upd_same]
    obtain ⟨pr, hpr, hpr0, hpr1⟩ := primes (kk + 1)
    refine ⟨_, rfl, p, _, _, _, rfl, rfl, SqL.of hp2, at2, _, _, rfl, rfl, (by show (0 : Int) < 5; decide), l, _, _, _, rfl, rfl, SqL.of hl2, hpr, ?_⟩
    obtain ⟨sq0, sq1⟩ := sq_le (k := kk + 1) (by omega) (by omega)
    have hbase : CPow (b + 98299 * (kk + 1) * (kk + 1) + 29) 3 := by
      refine ⟨by decide, by decide, ?_⟩
      have e2 : (2 : Nat) ^ 64 = 18446744073709551616 := by decide
      rw [e2]
      omega
    refine ⟨_, rfl, p, _, _, _, rfl, rfl, SqL.of hp2, at1, _, rfl, p, _, _, _, rfl, rfl, SqL.of hp2, at2, _, _, rfl, rfl, .inl ⟨by decide, by decide⟩, _, rfl, p, _, _, _, rfl, rfl, SqL.of hp2, at2, _, _, rfl, rfl, .inr ⟨by omega, by omega⟩, _, _, rfl, rfl, _, _, rfl, rfl, _, _, rfl, rfl, hbase, _, rfl, _, _, rfl, rfl, hpr0, ?_⟩
    have mx0 := Int.emod_nonneg ((b + 98299 * (kk + 1) * (kk + 1) + 29) ^ (3 : Int).toNat) (show pr ≠ 0 by omega)
    have mx1 := Int.emod_lt_of_pos ((b + 98299 * (kk + 1) * (kk + 1) + 29) ^ (3 : Int).toNat) hpr0
    refine ⟨_, rfl, _, rfl, _, _, rfl, rfl, (by show (0 : Int) < 10007; decide), _, rfl, p, _, _, _, rfl, rfl, SqL.of hp2, at2, _, _, rfl, rfl, .inl ⟨by decide, by decide⟩, _, _, rfl, rfl, _, _, rfl, rfl, .inl ⟨by omega, by omega⟩, _, _, rfl, rfl, (by show (0 : Int) < 2305843009213693907; decide), _, _, rfl, rfl, ⟨by decide, by decide⟩, _, rfl, _, _, rfl, rfl, hmp, ?_⟩
    exact q H2 _ (sb.trans (Same.but s2 p)) ⟨a, b, kk + 1, hp2, ⟨ha0, ha1⟩, ⟨hb0, hb1⟩, ⟨by omega, by omega⟩⟩ (Int.emod_nonneg _ (by omega)) (Int.emod_lt_of_pos _ hmp)
end
end Ev
/-! EvL2: _law_of, _law_names, _law_items. -/
namespace Ev
open PySem PySem.Spec PyProof.Rows L2
theorem PotAt.at {H : Hp} {p : Addr} {c : Nat} (h : PotAt H p c) : ∃ xs, H p = some (.lst xs) := by
  obtain ⟨a, b, k, h, _⟩ := h
  exact ⟨_, h⟩
theorem PotAt.ne_none {H : Hp} {p : Addr} {c : Nat} (h : PotAt H p c) {l : Addr} (hl : H l = none) : p ≠ l := by
  obtain ⟨xs, h⟩ := h.at
  exact ne_of_none h hl
section
variable {P : Program} {w : World} {K : PySem.W.Frag} {mg : Str → Option Value} {base : Heap}
def spOf : Sp := fun vs H Q _ => ∃ (p l : Addr) (c : Nat) (xs : List V), vs = [.ref p, .ref l] ∧ PotAt H p c ∧ c ≤ 100000 ∧ H l = some (.lst xs) ∧ l ≠ p ∧ 1 ≤ xs.length ∧ xs.length ≤ 100 ∧
  ∀ (H' : Hp) (v : V), SameBut p H H' → PotAt H' p (c + 1) → v ∈ xs → Q v H'
theorem ok_of {k : Nat} {f t : Addr} {fd td : FuncData} (T : Txt mg) (D : Def K mg "_law_of" sOf ["_law_pot_here", "_law_some"] f fd) (DT : Def K mg "_law_take" sTake ["_law_pot_here", "_law_many_here"] t td) :
    FnOk P w K mg base CX0 (k + 2) f fd ["_law_pot_here", "_law_some"] spOf := by
  have GT : FnOk P w K mg base CX0 (k + 1) t td ["_law_pot_here", "_law_many_here"] spTake := ok_take DT
  refine D.fn.ok scOf (fun vs H Q E h => ?_) (fun cdv A outer s H vs Q E hr h => ?_)
  · obtain ⟨p, l, c, xs, rfl, _⟩ := h
    rfl
  obtain ⟨p, l, c, xs, rfl, hp, hc, hl, hlp, h1, h2, q⟩ := h
  refine ⟨_, pss_one (ps_ret (pe_ix ix_list (pv 1) (pe_call GT hr rfl DT.mg DT.kp DT.bi .nil pass0 (pa_cons (pv 0) (pa_cons (pe_callB call_len_seq rfl T.len PySem.boot_len (pa_cons (pv 1) pa_nil)) pa_nil))) (fun _ _ => rfl))), ?_⟩
  refine ⟨_, rfl, _, rfl, _, rfl, l, xs, rfl, .inl (SqL.of hl), p, _, c, rfl, hp, hc, ⟨by omega, by omega⟩, fun H' r sb hp' h3 h4 => ?_⟩
  have hr2 : r.toNat < xs.length := by omega
  refine ⟨l, _, _, xs[r.toNat], rfl, rfl, SqL.of (sb _ _ hl hlp), at_of (j := r.toNat) (by omega) (List.getElem?_eq_getElem hr2), q H' _ sb hp' (List.getElem_mem hr2)⟩
/-! ### _law_names -/
def rLenSq (K : PySem.W.Frag) : List V → Hp → VK → Prop := fun xs H Q => ∃ p ys, xs = [.ref p] ∧ (SqL K H p ys ∨ SqT K H p ys) ∧ Q (.int ys.length) H
def spLNames : Sp := fun vs H Q _ => ∃ (p : Addr) (c : Nat) (many : Nat), vs = [.ref p, .int many] ∧ PotAt H p c ∧ c ≤ 50000 ∧ (1 ≤ many ∧ many ≤ 7) ∧
  ∀ (H' : Hp) (l : Addr) (names : List Str), SameBut p H H' → H l = none → l ≠ p → H' l = some (.lst (names.map V.str)) → names.length = many → (∀ x ∈ names, x ∈ pool) → PotAt H' p (c + many) → Q (.ref l) H'
theorem SameBut.none {p : Addr} {H H' : Hp} (s : SameBut p H H') {l : Addr} (h : H' l = Option.none) (hl : l ≠ p) : H l = Option.none := by
  cases q : H l with
  | none => rfl
  | some o => rw [s l o q hl] at h; cases h
theorem ok_lnames {k : Nat} {f t : Addr} {fd td : FuncData} (T : Txt mg) (D : Def K mg "_law_names" sLNames ["_law_pot_here", "_law_many_here"] f fd) (DT : Def K mg "_law_take" sTake ["_law_pot_here", "_law_many_here"] t td) :
    FnOk P w K mg base CX0 (k + 2) f fd ["_law_pot_here", "_law_many_here"] spLNames := by
  have GT : FnOk P w K mg base CX0 (k + 1) t td ["_law_pot_here", "_law_many_here"] spTake := ok_take DT
  refine D.fn.ok scLNames (fun vs H Q E h => ?_) (fun cdv A outer s H vs Q E hr h => ?_)
  · obtain ⟨p, c, many, rfl, _⟩ := h
    rfl
  obtain ⟨p, c, many, rfl, hp, hc, ⟨h1, h2⟩, q⟩ := h
  refine ⟨_, pss_cons (ps_set (i := 2) scLNames.nd rfl (.inr rfl) (pe_lst (pa_cons pe_str (pa_cons pe_str (pa_cons pe_str (pa_cons pe_str (pa_cons pe_str (pa_cons pe_str (pa_cons pe_str (pa_cons pe_str pa_nil))))))))))
    (pss_one (ps_ret (pe_lc (own := [("_law_turn", 3)]) (g := gName 3) (te := tBM K "list" rPopAt (tVar 2) (tCons (tCall spTake [] E0 (tCons (tVar 0) (tCons (tCB (rLenSq K) (tCons (tVar 2) tNil)) tNil))) tNil)) rfl scLNames.nd (pi_range1 rfl T.range (pa_cons (pv 1) pa_nil)) (blkOk_by (N := ["_law_pot_here", "_law_many_here", "_law_pool", "_law_turn"]) (sc := defScope sLNames) (by decide +kernel))
      (fun _ _ _ _ _ => pg_name (i := 3) scLNames.nd rfl (Or.inl rfl)) (fun _ _ _ _ _ => pts_nil)
      (fun _ _ _ _ _ => pe_bm PySem.F.plainAttrs_list PySem.F.slot_list_pop PySem.F.type_list_pop mt_popAt (pv 2) (pa_cons (pe_call GT hr rfl DT.mg DT.kp DT.bi .nil pass0 (pa_cons (pv 0) (pa_cons (pe_callB call_len_seq rfl T.len PySem.boot_len (pa_cons (pv 2) pa_nil)) pa_nil))) pa_nil))))), ?_⟩
  have hno : ∀ {l : Addr}, H l = none → p ≠ l := fun z => hp.ne_none z
  refine ⟨small64' (n := 8) (by omega), fun g hg => ?_⟩
  have hgp : g ≠ p := fun e => (hno hg) e.symm
  have s1 := same_new hg (.lst (pool.map V.str))
  refine ⟨_, rfl, (many : Int), rfl, by omega, by omega, fun l hl => ?_⟩
  have hH1 : (upd H g (.lst (pool.map V.str))) g = some (.lst (pool.map V.str)) := upd_same
  have hgl : g ≠ l := ne_of_none hH1 hl
  have hl0 : H l = none := by
    have z : upd H g (.lst (pool.map V.str)) l = none := hl
    rw [upd_ne (Ne.symm hgl)] at z
    exact z
  have hlp : l ≠ p := fun e => (hno hl0) e.symm
  refine lc_range (lo := 0) (n := ((many : Int)).toNat) (fun i H' => ∃ (names left : List Str), SameBut p H H' ∧ H' l = some (.lst (names.map V.str)) ∧ H' g = some (.lst (left.map V.str)) ∧ names.length = i ∧ left.length + i = 8 ∧ (∀ x ∈ names, x ∈ pool) ∧ (∀ x ∈ left, x ∈ pool) ∧ PotAt H' p (c + i))
    ⟨[], pool, Same.but (s1.trans (same_new hl _)) p, upd_same, (upd_ne hgl).trans hH1, rfl, rfl, (fun x hx => by cases hx), fun x hx => hx, (hp.same s1).same (same_new hl _)⟩ ?_ ?_
  · rintro i H' hi ⟨names, left, sb, h3, h4, h5, h6, h7, h8, h9⟩
    refine ⟨rfl, lc_yes ?_⟩
    refine ⟨_, rfl, .inl ⟨rfl, _, SqL.of h4⟩, _, rfl, _, rfl, g, _, rfl, .inl (SqL.of h4), p, _, c + i, rfl, h9, by omega, by rw [List.length_map]; exact ⟨by omega, by omega⟩, fun H2 r sb2 hp2 hr0 hr1 => ?_⟩
    rw [List.length_map] at hr1
    have hgH : H2 g = some (.lst (left.map V.str)) := sb2 _ _ h4 hgp
    have hlH : H2 l = some (.lst (names.map V.str)) := sb2 _ _ h3 hlp
    have hrl : r.toNat < left.length := by omega
    refine ⟨g, _, r, r.toNat, V.str left[r.toNat], rfl, rfl, hgH, by omega, by omega, ?_, by rw [List.getElem?_map, List.getElem?_eq_getElem hrl]; rfl, ?_⟩
    · rw [List.length_map]
      simp only [seqIndex?]
      rw [if_neg (show ¬ r < 0 by omega), if_pos (by simp; omega)]
    refine ⟨_, by rw [upd_ne (Ne.symm hgl)]; exact hlH, by rw [List.length_map]; exact lt_line (by omega), names ++ [left[r.toNat]], left.eraseIdx r.toNat, fun x o hx hn => ?_, ?_, ?_, ?_, ?_, ?_, ?_, ?_⟩
    · rw [upd_ne (ne_of_none hx hl0), upd_ne (ne_of_none hx hg)]
      exact sb2 _ _ (sb _ _ hx hn) hn
    · rw [upd_same, List.map_append]; rfl
    · rw [upd_ne hgl, upd_same]
      refine congrArg (fun z => some (HO.lst z)) ?_
      exact (_root_.DT.map_erase V.str left r.toNat).symm
    · rw [List.length_append, h5]; rfl
    · rw [List.length_eraseIdx, if_pos hrl]; omega
    · intro x hx
      rcases List.mem_append.mp hx with z | z
      · exact h7 x z
      · rw [List.mem_singleton.mp z]; exact h8 _ (List.getElem_mem hrl)
    · intro x hx
      exact h8 x (List.mem_of_mem_eraseIdx hx)
    · obtain ⟨a, b, kk, e1, e2⟩ := hp2
      refine ⟨a, b, kk, ?_, e2⟩
      rw [upd_ne (Ne.symm hlp), upd_ne (Ne.symm hgp)]
      exact e1
  · rintro H' ⟨names, left, sb, h3, h4, h5, h6, h7, h8, h9⟩
    rw [Int.toNat_natCast] at h5 h9
    exact q H' l names sb hl0 hlp h3 h5 h7 h9
end
end Ev
/-! EvL3: _law_items. -/
namespace Ev
open PySem PySem.Spec PyProof.Rows L2
/-- how many draws _law_items takes at most -/
def IB : Nat → Nat
  | 0 => 17
  | n + 1 => 1 + 4 * (4 + IB n)
def IT : Nat → Nat
  | 0 => 4
  | n + 1 => 4 + IB n
theorem IB_IT : ∀ n, IB n = 1 + 4 * IT n
  | 0 => rfl
  | n + 1 => rfl
def LB : Nat → Int
  | 0 => 3
  | n + 1 => 9 * LB n
theorem LB_ge : ∀ n, 3 ≤ LB n
  | 0 => Int.le_refl 3
  | n + 1 => by
    have ih := LB_ge n
    show 3 ≤ 9 * LB n
    omega
/-- a program as the law makes it -/
structure Good (p : Pg) (d w : Nat) : Prop where
  ok : p.ok
  pool : InPool p
  dep : p.dep ≤ d
  wide : p.wide ≤ w
  ne : p ≠ .nil
theorem one_line {H : Hp} {a : Addr} {n : Str} {t : Int} (h : H a = some (.tup [.str kLine, .str n, .int t])) : PgV H (.line n t .nil) [.ref a] := ⟨a, [], rfl, h, rfl⟩
theorem one_loop {H : Hp} {a c : Addr} {k : Int} {b : Pg} (h : H a = some (.tup [.str kLoop, .int k, .ref c])) (hc : PgAt H c b) : PgV H (.loop k b .nil) [.ref a] := by
  obtain ⟨bs, h1, h2⟩ := hc
  exact ⟨a, c, bs, [], rfl, h, h1, h2, rfl⟩
theorem app_pool {p q : Pg} (h : InPool p) (h' : InPool q) : InPool (p.app q) := fun x hx => ((app_has x p q).mp hx).elim (h x) (h' x)
theorem nil_pool : InPool .nil := fun x hx => hx.elim
theorem line_pool {n : Str} {t : Int} (h : n ∈ pool) : InPool (.line n t .nil) := fun x hx => hx.elim (fun e => e ▸ h) fun z => z.elim
theorem loop_pool {k : Int} {b : Pg} (h : InPool b) : InPool (.loop k b .nil) := fun x hx => hx.elim (h x) fun z => z.elim
theorem wide_ne {p : Pg} (h : 1 ≤ p.wide) : p ≠ .nil := fun e => by
  rw [e] at h
  exact absurd h (by decide)
section
variable {P : Program} {w : World} {K : PySem.W.Frag} {mg : Str → Option Value} {base : Heap}
theorem scLItems : FnScope ["_law_pot_here", "_law_names_here", "_law_many_here", "_law_depth", "_law_most", "_law_found", "_law_turn"] ["_law_pot_here", "_law_names_here", "_law_many_here", "_law_depth", "_law_most"] (defScope sLItems) := ⟨rfl, rfl, rfl, by decide +kernel, rfl, by decide +kernel, by decide +kernel⟩
def spLItems (n : Nat) : Sp := fun vs H Q _ => ∃ (p nl : Addr) (c : Nat) (many dp most : Int) (names : List Str), vs = [.ref p, .ref nl, .int many, .int dp, .int most] ∧ PotAt H p c ∧ c + IB n ≤ 40000 ∧ H nl = some (.lst (names.map V.str)) ∧ nl ≠ p ∧ 1 ≤ names.length ∧ names.length ≤ 8 ∧
  (∀ x ∈ names, x ∈ pool) ∧ (1 ≤ many ∧ many ≤ 4) ∧ (0 ≤ dp ∧ dp ≤ n) ∧ (1 ≤ most ∧ most ≤ 3) ∧
  ∀ (H' : Hp) (t : Addr) (R : Pg), SameBut p H H' → PgAt H' t R → Good R n 4 → (R.wide : Int) ≤ many → R.len ≤ many * LB n → PotAt H' p (c + IB n) → Q (.ref t) H'
theorem ok_litems {n k : Nat} {f t o : Addr} {fd td od : FuncData} (T : Txt mg) (D : Def K mg "_law_items" sLItems ["_law_pot_here", "_law_names_here", "_law_many_here", "_law_depth", "_law_most"] f fd)
    (DT : Def K mg "_law_take" sTake ["_law_pot_here", "_law_many_here"] t td) (DO : Def K mg "_law_of" sOf ["_law_pot_here", "_law_some"] o od)
    (G : ∃ sp, FnOk P w K mg base CX0 (k + 2) f fd ["_law_pot_here", "_law_names_here", "_law_many_here", "_law_depth", "_law_most"] sp ∧ ∀ m, m + 1 = n → sp = spLItems m) :
    FnOk P w K mg base CX0 (k + 3) f fd ["_law_pot_here", "_law_names_here", "_law_many_here", "_law_depth", "_law_most"] (spLItems n) := by
  obtain ⟨sp, G, hsp⟩ := G
  have GT : FnOk P w K mg base CX0 (k + 2) t td ["_law_pot_here", "_law_many_here"] spTake := ok_take DT
  have GO : FnOk P w K mg base CX0 (k + 2) o od ["_law_pot_here", "_law_some"] spOf := ok_of T DO DT
  refine D.fn.ok scLItems (fun vs H Q E h => ?_) (fun cdv A outer s H vs Q E hr h => ?_)
  · obtain ⟨p, nl, c, many, dp, most, names, rfl, _⟩ := h
    rfl
  obtain ⟨p, nl, c, many, dp, most, names, rfl, hp, hc, hnl, hnp, hn1, hn8, hnin, ⟨hm1, hm4⟩, ⟨hd0, hdn⟩, ⟨hs1, hs3⟩, q⟩ := h
  have hIB := IB_IT n
  refine ⟨_, pss_cons (ps_set (i := 5) scLItems.nd rfl (.inl rfl) (pe_lst pa_nil))
    (pss_cons (ps_for PassesOwn.never rfl (pi_range1 rfl T.range (pa_cons (pe_op op_add pe_int (pe_call GT hr rfl DT.mg DT.kp DT.bi .nil pass0 (pa_cons (pv 0) (pa_cons (pv 2) pa_nil)))) pa_nil)) (pg_name (i := 6) scLItems.nd rfl (.inl rfl))
      (pss_one (ps_if (PW.pt (pw_and (pt_cmpR op_gt (pv 3) pe_int (nomark _)) (pw_and1 (pt_cmpR op_eq (pe_call GT hr rfl DT.mg DT.kp DT.bi .nil pass0 (pa_cons (pv 0) (pa_cons pe_int pa_nil))) pe_int (nomark _)))))
        (pss_one (ps_expr (pe_bm PySem.F.plainAttrs_list PySem.F.slot_list_append PySem.F.type_list_append mt_append (pv 5) (pa_cons (pe_tup (pa_cons pe_str (pa_cons (pe_op op_add pe_int (pe_call GT hr rfl DT.mg DT.kp DT.bi .nil pass0 (pa_cons (pv 0) (pa_cons (pv 4) pa_nil)))) (pa_cons
          (pe_call G hr rfl D.mg D.kp D.bi .nil pass0 (pa_cons (pv 0) (pa_cons (pv 1) (pa_cons pe_int (pa_cons (pe_op op_sub (pv 3) pe_int) (pa_cons (pv 4) pa_nil)))))) pa_nil)))) pa_nil))))
        (pss_one (ps_expr (pe_bm PySem.F.plainAttrs_list PySem.F.slot_list_append PySem.F.type_list_append mt_append (pv 5) (pa_cons (pe_tup (pa_cons pe_str (pa_cons (pe_call GO hr rfl DO.mg DO.kp DO.bi .nil pass0 (pa_cons (pv 0) (pa_cons (pv 1) pa_nil))) (pa_cons
          (pe_op op_add pe_int (pe_call GT hr rfl DT.mg DT.kp DT.bi .nil pass0 (pa_cons (pv 0) (pa_cons (pv 4) pa_nil)))) pa_nil)))) pa_nil)))))))
    (pss_one (ps_ret (pe_callTy call_tuple_of rfl T.tuple (by decide +kernel) (pa_cons (pv 5) pa_nil))))), ?_⟩
  refine ⟨Nat.zero_le _, fun fl hfl => ?_⟩
  have hpf : p ≠ fl := hp.ne_none hfl
  have s1 := same_new hfl (.lst [])
  refine ⟨_, rfl, _, rfl, p, many, c, rfl, hp.same s1, by omega, ⟨hm1, by omega⟩, fun H1 r sb1 hp1 hr0 hr1 => ?_⟩
  have hfl1 : H1 fl = some (.lst []) := sb1 _ _ upd_same (Ne.symm hpf)
  have sb1' : SameBut p H H1 := (Same.but s1 p).trans sb1
  refine ⟨_, _, rfl, rfl, 1 + r, rfl, by omega, by omega, ?_⟩
  refine for_range (lo := 0) (n := (1 + r).toNat) (fun i σ H' => ∃ (R : Pg) (vs : List V) (v6 : Option V), σ = [some (.ref p), some (.ref nl), some (.int many), some (.int dp), some (.int most), some (.ref fl), v6] ∧ SameBut p H H' ∧ H' fl = some (.lst vs) ∧ PgV H' R vs ∧
      R.ok ∧ InPool R ∧ R.dep ≤ n ∧ R.wide = i ∧ R.len ≤ i * LB n ∧ PotAt H' p (c + 1 + i * IT n))
    ⟨.nil, [], none, rfl, sb1', hfl1, rfl, trivial, nil_pool, Nat.zero_le _, rfl, by show (0 : Int) ≤ ((0 : Nat) : Int) * LB n; simp, by rw [Nat.zero_mul]; exact hp1⟩ ?_ ?_
  · rintro i σ H2 hi ⟨R, vs, v6, rfl, sb, hf2, hv, hRo, hRp, hRd, hRw, hRl, hp2⟩
    have hi4 : i < 4 := by omega
    have hiT : i * IT n + IT n ≤ 4 * IT n := by
      have q1 := Nat.mul_le_mul_right (IT n) (show i + 1 ≤ 4 by omega)
      rw [Nat.add_mul, Nat.one_mul] at q1
      exact q1
    have hIT4 : 4 ≤ IT n := by cases n with
      | zero => exact Nat.le_refl 4
      | succ m => exact Nat.le_add_right 4 (IB m)
    have hvl : vs.length = i := by rw [hv.len, hRw]
    have hLB := LB_ge n
    have hlen : ∀ z : Int, z ≤ LB n → R.len + z ≤ ((i + 1 : Nat) : Int) * LB n := fun z hz => by
      rw [Int.natCast_add, Int.add_mul]
      simp only [Int.natCast_one, Int.one_mul]
      omega
    have hITs : ∀ x : Nat, x ≤ IT n → c + 1 + i * IT n + x ≤ c + 1 + (i + 1) * IT n := fun x hx => by
      rw [Nat.add_mul, Nat.one_mul]; omega
    -- a line is appended
    have lineWay : ∀ (H3 : Hp) (c3 : Nat), SameBut p H2 H3 → PotAt H3 p (c + 1 + i * IT n + c3) → c3 + 2 ≤ IT n → ∀ D : Ends, D.nx = (fun σ H' => ∃ (R : Pg) (vs : List V) (v6 : Option V), σ = [some (.ref p), some (.ref nl), some (.int many), some (.int dp), some (.int most), some (.ref fl), v6] ∧ SameBut p H H' ∧ H' fl = some (.lst vs) ∧ PgV H' R vs ∧
        R.ok ∧ InPool R ∧ R.dep ≤ n ∧ R.wide = i + 1 ∧ R.len ≤ ((i + 1 : Nat) : Int) * LB n ∧ PotAt H' p (c + 1 + (i + 1) * IT n)) →
        tDrop (tBM K "list" rAppend (tVar 5) (tCons (tTup (tCons (tC (.str kLine)) (tCons (tCall spOf [] E0 (tCons (tVar 0) (tCons (tVar 1) tNil))) (tCons (tOp (rI0 fun i j => .int (i + j)) (tC (.int 1)) (tCall spTake [] E0 (tCons (tVar 0) (tCons (tVar 4) tNil)))) tNil)))) tNil)) D [some (.ref p), some (.ref nl), some (.int many), some (.int dp), some (.int most), some (.ref fl), some (.int (0 + (i : Int)))] H3 := by
      intro H3 c3 sb3 hp3 hc3 D hD
      have hf3 : H3 fl = some (.lst vs) := sb3 _ _ hf2 (Ne.symm hpf)
      obtain ⟨xs0, hx0⟩ := hp2.at
      have hv3 := hv.but hx0 sb3
      have hnl3 : H3 nl = some (.lst (names.map V.str)) := sb3 _ _ (sb _ _ hnl hnp) hnp
      refine ⟨_, rfl, .inl ⟨rfl, _, SqL.of hf3⟩, _, rfl, _, rfl, p, nl, _, _, rfl, hp3, by omega, hnl3, hnp, by rw [List.length_map]; exact hn1, by rw [List.length_map]; omega, fun H4 x sb4 hp4 hx => ?_⟩
      obtain ⟨nm, hnm, rfl⟩ := List.mem_map.mp hx
      refine ⟨_, rfl, _, rfl, p, most, _, rfl, hp4, by omega, ⟨hs1, by omega⟩, fun H5 r5 sb5 hp5 hr50 hr51 => ?_⟩
      refine ⟨_, _, rfl, rfl, small64' (n := 3) (by omega), fun a ha => ?_⟩
      have sb35 : SameBut p H3 H5 := sb4.trans sb5
      have hf5 := sb35 _ _ hf3 (Ne.symm hpf)
      have hfa : fl ≠ a := ne_of_none hf5 ha
      obtain ⟨xs3, hx3⟩ := hp3.at
      have hv5 := hv3.but hx3 sb35
      have sa := same_new ha (.tup [V.str kLine, V.str nm, V.int (1 + r5)])
      refine ⟨fl, vs, _, rfl, rfl, sa _ _ hf5, by rw [hvl]; exact lt_line (by omega), ?_⟩
      rw [hD]
      have hva := hv5.same sa
      have hnew : PgV (upd H5 a (.tup [V.str kLine, V.str nm, V.int (1 + r5)])) (R.app (.line nm (1 + r5) .nil)) (vs ++ [.ref a]) := hva.app (one_line upd_same)
      refine ⟨R.app (.line nm (1 + r5) .nil), vs ++ [.ref a], _, rfl, fun x o hx hn => ?_, upd_same, ?_, app_ok _ _ hRo ⟨⟨by omega, by omega⟩, trivial⟩, app_pool hRp (line_pool (hnin nm hnm)), ?_, ?_, ?_, ?_⟩
      · rw [upd_ne (ne_of_none hx hfl)]
        exact sa _ _ (sb35 _ _ (sb3 _ _ (sb _ _ hx hn) hn) hn)
      · exact hnew.but (sa _ _ hf5) fun x o hx hn => by rw [upd_ne hn]; exact hx
      · rw [app_dep]
        exact Nat.max_le.mpr ⟨hRd, Nat.zero_le _⟩
      · rw [app_wide, hRw]; rfl
      · rw [app_len]
        show R.len + (1 + r5 + 0) ≤ _
        exact hlen _ (by omega)
      · obtain ⟨u1, u2, u3, e1, e2⟩ := (hp5.same sa).mono (hITs (c3 + 2) hc3)
        exact ⟨u1, u2, u3, by rw [upd_ne hpf]; exact e1, e2⟩
    refine ⟨_, rfl, _, _, rfl, rfl, _, rfl, ?_⟩
    refine ite2 (fun e1 => ?_) (fun e1 => ?_)
    · have hdp : 0 < dp := of_decide_eq_true e1
      refine ⟨_, rfl, p, 3, _, rfl, hp2, by omega, ⟨by omega, by omega⟩, fun H3 r3 sb3 hp3 hr30 hr31 => ⟨rfl, _, rfl, ?_⟩⟩
      refine ite2 (fun e2 => ?_) (fun e2 => lineWay H3 1 sb3 hp3 (by omega) _ rfl)
      obtain ⟨m, rfl⟩ : ∃ m, n = m + 1 := ⟨n - 1, by omega⟩
      have esp := hsp m rfl
      subst esp
      have hITm : IT (m + 1) = 4 + IB m := rfl
      have hf3 : H3 fl = some (.lst vs) := sb3 _ _ hf2 (Ne.symm hpf)
      refine ⟨_, rfl, .inl ⟨rfl, _, SqL.of hf3⟩, _, rfl, _, rfl, p, most, _, rfl, hp3, by omega, ⟨hs1, by omega⟩, fun H4 r4 sb4 hp4 hr40 hr41 => ?_⟩
      have hnl4 : H4 nl = some (.lst (names.map V.str)) := sb4 _ _ (sb3 _ _ (sb _ _ hnl hnp) hnp) hnp
      refine ⟨_, _, rfl, rfl, _, rfl, _, rfl, _, rfl, _, _, rfl, rfl, _, rfl, p, nl, _, 3, dp - 1, most, names, rfl, hp4, by omega, hnl4, hnp, hn1, hn8, hnin, ⟨by omega, by omega⟩, ⟨by omega, by omega⟩, ⟨hs1, hs3⟩, fun H5 b B sb5 hB gB hBw hBl hp5 => ?_⟩
      refine ⟨small64' (n := 3) (by omega), fun a ha => ?_⟩
      have sb25 : SameBut p H2 H5 := sb3.trans (sb4.trans sb5)
      have hf5 := sb25 _ _ hf2 (Ne.symm hpf)
      have hfa : fl ≠ a := ne_of_none hf5 ha
      obtain ⟨xs0, hx0⟩ := hp2.at
      have hv5 := hv.but hx0 sb25
      have sa := same_new ha (.tup [V.str kLoop, V.int (1 + r4), V.ref b])
      refine ⟨fl, vs, _, rfl, rfl, sa _ _ hf5, by rw [hvl]; exact lt_line (by omega), ?_⟩
      have hnew : PgV (upd H5 a (.tup [V.str kLoop, V.int (1 + r4), V.ref b])) (R.app (.loop (1 + r4) B .nil)) (vs ++ [.ref a]) := (hv5.same sa).app (one_loop upd_same (hB.same sa))
      have hLBm := LB_ge m
      have hlen1 : (1 + r4) * B.len ≤ LB (m + 1) := by
        have hB0 := (len_pos B gB.ok).1
        have q1 : (1 + r4) * B.len ≤ 3 * (3 * LB m) := Int.mul_le_mul (by omega) hBl hB0 (by omega)
        have q2 : LB (m + 1) = 9 * LB m := rfl
        omega
      refine ⟨R.app (.loop (1 + r4) B .nil), vs ++ [.ref a], _, rfl, fun x o hx hn => ?_, upd_same, ?_, app_ok _ _ hRo ⟨⟨by omega, by omega⟩, gB.ok, gB.ne, by have := gB.wide; omega, trivial⟩, app_pool hRp (loop_pool gB.pool), ?_, ?_, ?_, ?_⟩
      · rw [upd_ne (ne_of_none hx hfl)]
        exact sa _ _ (sb25 _ _ (sb _ _ hx hn) hn)
      · exact hnew.but (sa _ _ hf5) fun x o hx hn => by rw [upd_ne hn]; exact hx
      · rw [app_dep]
        have q1 := gB.dep
        exact Nat.max_le.mpr ⟨hRd, Nat.max_le.mpr ⟨by omega, Nat.zero_le _⟩⟩
      · rw [app_wide, hRw]; rfl
      · rw [app_len]
        show R.len + ((1 + r4) * B.len + 0) ≤ _
        exact hlen _ (by omega)
      · obtain ⟨u1, u2, u3, e3, e4⟩ := (hp5.same sa).mono (show c + 1 + i * IT (m + 1) + 1 + 1 + IB m ≤ c + 1 + (i + 1) * IT (m + 1) by
          have q1 := hITs (2 + IB m) (by omega)
          omega)
        exact ⟨u1, u2, u3, by rw [upd_ne hpf]; exact e3, e4⟩
    · exact iteF (lineWay H2 0 (SameBut.refl p H2) hp2 (by omega) _ rfl)
  · rintro σ H2 ⟨R, vs, v6, rfl, sb, hf2, hv, hRo, hRp, hRd, hRw, hRl, hp2⟩
    refine ⟨_, rfl, fl, vs, rfl, .inl ⟨SqL.of hf2, fun t ht => ?_⟩⟩
    have st := same_new ht (.tup vs)
    have hw1 : 1 ≤ R.wide := by rw [hRw]; omega
    refine q _ t R (sb.trans (Same.but st p)) ⟨vs, upd_same, hv.same st⟩ ⟨hRo, hRp, hRd, by rw [hRw]; omega, wide_ne hw1⟩ (by rw [hRw]; omega) ?_ ((hp2.same st).mono ?_)
    · have hle : (((1 + r).toNat : Nat) : Int) ≤ many := by omega
      have hLB := LB_ge n
      exact Int.le_trans hRl (Int.mul_le_mul_of_nonneg_right hle (by omega))
    · have q1 : (1 + r).toNat * IT n ≤ 4 * IT n := Nat.mul_le_mul_right _ (by omega)
      omega
theorem litems_all {f t o : Addr} {fd td od : FuncData} (T : Txt mg) (D : Def K mg "_law_items" sLItems ["_law_pot_here", "_law_names_here", "_law_many_here", "_law_depth", "_law_most"] f fd)
    (DT : Def K mg "_law_take" sTake ["_law_pot_here", "_law_many_here"] t td) (DO : Def K mg "_law_of" sOf ["_law_pot_here", "_law_some"] o od) : ∀ n : Nat, FnOk P w K mg base CX0 (n + 3) f fd ["_law_pot_here", "_law_names_here", "_law_many_here", "_law_depth", "_law_most"] (spLItems n)
  | 0 => ok_litems (k := 0) T D DT DO ⟨fun _ _ _ _ => False, no_calls fun _ _ _ _ h => h, fun m h => absurd h (Nat.succ_ne_zero m)⟩
  | n + 1 => ok_litems T D DT DO ⟨spLItems n, litems_all T D DT DO n, fun m h => by rw [Nat.succ.inj h]⟩
end
end Ev
/-! EvL4: _law_ticks, _law_small. -/
namespace Ev
open PySem PySem.Spec PyProof.Rows L2
/-! ### a program as data -/
def dpg : Pg → List PyData
  | .nil => []
  | .line n t r => .tuple [.str kLine, .str n, .int t] :: dpg r
  | .loop k b r => .tuple [.str kLoop, .int k, .tuple (dpg b)] :: dpg r
theorem dp_of {K : PySem.W.Frag} {H : Hp} : ∀ {p : Pg} {vs : List V}, PgV H p vs → DpAll K H vs (dpg p)
  | .nil, vs, h => by
    have h : vs = [] := h
    rw [h]
    exact .nil
  | .line n t r, vs, h => by
    obtain ⟨a, rest, rfl, h1, h2⟩ := h
    exact .cons (.tup (SqT.of h1) (.cons (.str _) (.cons (.str _) (.cons (.int _) .nil)))) (dp_of h2)
  | .loop k b r, vs, h => by
    obtain ⟨a, c, bs, rest, rfl, h1, h2, h3, h4⟩ := h
    exact .cons (.tup (SqT.of h1) (.cons (.str _) (.cons (.int _) (.cons (.tup (SqT.of h2) (dp_of h3)) .nil)))) (dp_of h4)
theorem pool_ok : ∀ x ∈ pool, PyData.canLay0 (.str x) = true := by decide +kernel
theorem line_ok : PyData.canLay0 (.str kLine) = true := by decide +kernel
theorem loop_ok : PyData.canLay0 (.str kLoop) = true := by decide +kernel
theorem can_dpg : ∀ {p : Pg}, InPool p → PyData.canLayAll0 (dpg p) = true
  | .nil, _ => rfl
  | .line n t r, h => by
    have ih := can_dpg (p := r) fun x hx => h x (.inr hx)
    have h1 := pool_ok n (h n (.inl rfl))
    simp only [dpg, PyData.canLayAll0, PyData.canLay0, ih, Bool.and_true]
    simp only [PyData.canLay0] at h1
    have h2 := line_ok
    simp only [PyData.canLay0] at h2
    rw [h1, h2]; rfl
  | .loop k b r, h => by
    have ih := can_dpg (p := r) fun x hx => h x (.inr hx)
    have ihb := can_dpg (p := b) fun x hx => h x (.inl hx)
    have h2 := loop_ok
    simp only [PyData.canLay0] at h2
    simp only [dpg, PyData.canLayAll0, PyData.canLay0, ih, ihb, h2, Bool.and_true]
theorem dep_dpg : ∀ p : Pg, PyData.depthAll (dpg p) ≤ 2 * p.dep + 1
  | .nil => Nat.zero_le _
  | .line n t r => by
    have ih := dep_dpg r
    simp only [dpg, PyData.depthAll, PyData.depth]
    show max (max 0 (max 0 (max 0 0)) + 1) (PyData.depthAll (dpg r)) ≤ 2 * r.dep + 1
    omega
  | .loop k b r => by
    have ih := dep_dpg r
    have ihb := dep_dpg b
    simp only [dpg, PyData.depthAll, PyData.depth]
    show max (max 0 (max 0 (max (PyData.depthAll (dpg b) + 1) 0)) + 1) (PyData.depthAll (dpg r)) ≤ 2 * max (b.dep + 1) r.dep + 1
    omega
theorem shaped_pg {p : Pg} (h : InPool p) (hd : p.dep ≤ 5) : SeqAt.shaped (.tuple (dpg p)) = true := by
  unfold SeqAt.shaped
  have h1 := can_dpg h
  have h2 := dep_dpg p
  simp only [PyData.canLay0, PyData.depth, h1, Bool.true_and]
  exact decide_eq_true (by omega)
theorem eqv_nil (p : Pg) : PyData.eqv (.tuple (dpg p)) (.tuple []) = true ↔ p = .nil := by
  cases p with
  | nil => simp [dpg, PyData.eqv, PyData.eqvAll]
  | line n t r => simp [dpg, PyData.eqv, PyData.eqvAll]
  | loop k b r => simp [dpg, PyData.eqv, PyData.eqvAll]
theorem cut_one (xs : List V) : cutV xs (some 1) none = xs.drop 1 := by
  unfold cutV
  rw [show HT.sIx xs.length 0 (some 1) = min 1 xs.length from HT.sIx_nat xs.length 0 1, HT.sIx_none]
  cases xs with
  | nil => rfl
  | cons x r =>
    have e : min 1 (x :: r).length = 1 := by rw [List.length_cons]; omega
    rw [e, List.length_cons, Nat.add_sub_cancel]
    show List.take r.length r = r
    exact List.take_length
/-- the program without its first item -/
def Pg.tl : Pg → Pg
  | .nil => .nil
  | .line _ _ r => r
  | .loop _ _ r => r
theorem tl_val {H : Hp} : ∀ {p : Pg} {vs : List V}, PgV H p vs → PgV H p.tl (vs.drop 1)
  | .nil, vs, h => by
    have h : vs = [] := h
    rw [h]; rfl
  | .line n t r, vs, h => by
    obtain ⟨a, rest, rfl, h1, h2⟩ := h
    exact h2
  | .loop k b r, vs, h => by
    obtain ⟨a, c, bs, rest, rfl, h1, h2, h3, h4⟩ := h
    exact h4
theorem tl_ok : ∀ {p : Pg}, p.ok → p.tl.ok
  | .nil, h => h
  | .line n t r, h => h.2
  | .loop k b r, h => h.2.2.2.2
theorem tl_pool : ∀ {p : Pg}, InPool p → InPool p.tl
  | .nil, h => h
  | .line n t r, h => fun x hx => h x (.inr hx)
  | .loop k b r, h => fun x hx => h x (.inr hx)
theorem tl_dep : ∀ p : Pg, p.tl.dep ≤ p.dep
  | .nil => Nat.le_refl _
  | .line n t r => Nat.le_refl r.dep
  | .loop k b r => Nat.le_max_right (b.dep + 1) r.dep
theorem tl_wide : ∀ p : Pg, p.tl.wide = p.wide - 1
  | .nil => rfl
  | .line n t r => rfl
  | .loop k b r => rfl
theorem tl_len : ∀ p : Pg, p.ok → p.tl.len ≤ p.len
  | .nil, _ => Int.le_refl _
  | .line n t r, h => by
    have h1 := h.1.1
    show r.len ≤ t + r.len
    omega
  | .loop k b r, h => by
    have h1 := (len_pos b h.2.1).1
    have h2 := h.1.1
    have h3 : 0 ≤ k * b.len := Int.mul_nonneg (by omega) h1
    show r.len ≤ k * b.len + r.len
    omega
section
variable {P : Program} {w : World} {K : PySem.W.Frag} {mg : Str → Option Value} {base : Heap}
theorem scTicks : FnScope ["_law_items_here", "_law_found", "_law_item"] ["_law_items_here"] (defScope sTicks) := ⟨rfl, rfl, rfl, by decide +kernel, rfl, by decide +kernel, by decide +kernel⟩
theorem scSmall : FnScope ["_law_pot_here", "_law_most", "_law_names_here", "_law_items_here", "_law_ticks_here_here"] ["_law_pot_here", "_law_most"] (defScope sSmall) := ⟨rfl, rfl, rfl, by decide +kernel, rfl, by decide +kernel, by decide +kernel⟩
def spTicks (n : Nat) : Sp := fun vs H Q _ => ∃ (a : Addr) (p : Pg), vs = [.ref a] ∧ PgAt H a p ∧ p.ok ∧ InPool p ∧ p.dep ≤ n ∧ p.len ≤ 5000 ∧
  ∀ (H' : Hp) (l : Addr) (ts : List Str), Same H H' → H l = none → H' l = some (.lst (ts.map V.str)) → (ts.length : Int) = p.len → (∀ x ∈ ts, x ∈ pool) → Q (.ref l) H'
theorem flat_map_str (n : Nat) (ts : List Str) : (List.replicate n (ts.map V.str)).flatten = ((List.replicate n ts).flatten).map V.str := by
  rw [List.map_flatten, List.map_replicate]
theorem flat_len {α : Type} (n : Nat) (ts : List α) : (List.replicate n ts).flatten.length = n * ts.length := by
  induction n with
  | zero => simp
  | succ n ih => rw [List.replicate_succ, List.flatten_cons, List.length_append, ih, Nat.add_mul]; omega
theorem flat_mem {α : Type} {n : Nat} {ts : List α} {x : α} (h : x ∈ (List.replicate n ts).flatten) : x ∈ ts := by
  obtain ⟨l, hl, hx⟩ := List.mem_flatten.mp h
  rw [(List.mem_replicate.mp hl).2] at hx
  exact hx
theorem ok_ticks {n k : Nat} {f : Addr} {fd : FuncData} (D : Def K mg "_law_ticks" sTicks ["_law_items_here"] f fd)
    (G : ∃ sp, FnOk P w K mg base CX0 k f fd ["_law_items_here"] sp ∧ ∀ m, m + 1 = n → sp = spTicks m) : FnOk P w K mg base CX0 (k + 1) f fd ["_law_items_here"] (spTicks n) := by
  obtain ⟨sp, G, hsp⟩ := G
  refine D.fn.ok scTicks (fun vs H Q E h => ?_) (fun cdv A outer s H vs Q E hr h => ?_)
  · obtain ⟨a, p, rfl, _⟩ := h
    rfl
  obtain ⟨a, p, rfl, ⟨xs, ha, hv⟩, hok, hpl, hd, hl5, q⟩ := h
  have hz : sizeLine = 16777216 := sizeLine_eq
  refine ⟨_, pss_cons (ps_set (i := 1) scTicks.nd rfl (.inl rfl) (pe_lst pa_nil))
    (pss_cons (ps_for PassesOwn.never rfl (pi_tup (pv 0)) (pg_name (i := 2) scTicks.nd rfl (.inl rfl))
      (pss_one (ps_if (pt_cmpR op_eq (pe_ix ix_tup (pv 2) pe_int (fun _ _ => rfl)) pe_str (nomark _))
        (pss_one (ps_set (i := 1) scTicks.nd rfl (.inl rfl) (pe_op op_cat (pv 1) (pe_op op_rep (pe_lst (pa_cons (pe_ix ix_tup (pv 2) pe_int (fun _ _ => rfl)) pa_nil)) (pe_ix ix_tup (pv 2) pe_int (fun _ _ => rfl))))))
        (pss_one (ps_set (i := 1) scTicks.nd rfl (.inl rfl) (pe_op op_cat (pv 1) (pe_op op_rep (pe_call G hr rfl D.mg D.kp D.bi .nil pass0 (pa_cons (pe_ix ix_tup (pv 2) pe_int (fun _ _ => rfl)) pa_nil)) (pe_ix ix_tup (pv 2) pe_int (fun _ _ => rfl)))))))))
    (pss_one (ps_ret (pv 1)))), ?_⟩
  refine ⟨Nat.zero_le _, fun l0 hl0 => ?_⟩
  refine ⟨_, rfl, a, rfl, ⟨_, SqT.of (same_new hl0 _ _ _ ha)⟩, for_tup (K := K) (a := a) (xs := xs) (fun i σ H' => ∃ (R : Pg) (ts : List Str) (fl : Addr) (v : Option V), σ = [some (.ref a), some (.ref fl), v] ∧ Same H H' ∧ Left H xs i R ∧ H fl = none ∧ H' fl = some (.lst (ts.map V.str)) ∧
      (ts.length : Int) + R.len = p.len ∧ (∀ x ∈ ts, x ∈ pool) ∧ InPool R ∧ R.ok ∧ R.dep ≤ n)
    ⟨p, [], l0, none, rfl, same_new hl0 _, Left.start hv, hl0, upd_same, Int.zero_add _, (fun x h => by cases h), hpl, hok, hd⟩ (fun i σ H' _ ⟨_, _, _, _, _, sm, _⟩ => SqT.of (sm _ _ ha)) ?_ ?_⟩
  · rintro i x σ H' hx ⟨R, ts, fl, v, rfl, sm, lf, hfn, hfl, hlen, hts, hRp, hRo, hdep⟩
    rcases lf.next hx with ⟨nm, t, r, b, rfl, rfl, hb, lf2⟩ | ⟨kk, bd, r, b, c, rfl, rfl, hb, hc, lf2⟩
    · have hb' := sm _ _ hb
      have hr0 := (len_pos r hRo.2).1
      have ht1 := hRo.1.1
      have hle : t ≤ 5000 := by
        have q1 : (ts.length : Int) + (t + r.len) = p.len := hlen
        omega
      have hts5 : ts.length ≤ 5000 := by
        have q1 : (ts.length : Int) + (t + r.len) = p.len := hlen
        omega
      refine ⟨_, rfl, b, _, _, _, rfl, rfl, SqT.of hb', at0, rfl, _, rfl, ?_⟩
      refine ite2 (fun _ => ?_) (fun e => absurd (decide_eq_true rfl) e)
      refine ⟨_, rfl, _, rfl, b, _, _, _, rfl, rfl, SqT.of hb', at1, small64' (n := 1) (by omega), fun l1 hl1 => ?_⟩
      have s1 := same_new hl1 (.lst [V.str nm])
      refine ⟨_, rfl, b, _, _, _, rfl, rfl, SqT.of (s1 _ _ hb'), at2, l1, t, _, rfl, rfl, upd_same, by omega, by omega, ?_, fun l2 hl2 => ?_⟩
      · show 1 * t.toNat ≤ sizeLine
        omega
      have s2 := same_new hl2 (.lst (List.replicate t.toNat [V.str nm]).flatten)
      refine ⟨fl, l2, _, _, rfl, rfl, s2 _ _ (s1 _ _ hfl), upd_same, ?_, fun l3 hl3 => ?_⟩
      · rw [List.length_map, flat_len, List.length_singleton]
        omega
      have s3 := same_new hl3 (.lst (ts.map V.str ++ (List.replicate t.toNat [V.str nm]).flatten))
      have s13 := sm.trans (s1.trans (s2.trans s3))
      refine ⟨r, ts ++ (List.replicate t.toNat [nm]).flatten, l3, _, rfl, s13, lf2, (sm.trans (s1.trans s2)).free hl3, ?_, ?_, fun y hy => ?_, fun y hy => hRp y (.inr hy), hRo.2, hdep⟩
      · rw [upd_same, List.map_append, ← flat_map_str]; rfl
      · rw [List.length_append, flat_len, List.length_singleton, Nat.mul_one]
        have q1 : (ts.length : Int) + (t + r.len) = p.len := hlen
        omega
      · rcases List.mem_append.mp hy with z | z
        · exact hts y z
        · rw [List.mem_singleton.mp (flat_mem z)]
          exact hRp nm (.inl rfl)
    · have hb' := sm _ _ hb
      have hdd : max (bd.dep + 1) r.dep ≤ n := hdep
      obtain ⟨m, rfl⟩ : ∃ m, n = m + 1 := ⟨n - 1, by omega⟩
      have esp := hsp m rfl
      subst esp
      obtain ⟨⟨hk1, _⟩, hbo, hbn, _, hro⟩ := hRo
      have hr0 := (len_pos r hro).1
      have hb1 := (len_pos bd hbo).2 hbn
      have q1 : (ts.length : Int) + (kk * bd.len + r.len) = p.len := hlen
      have hkl : kk ≤ kk * bd.len := by
        have q2 := Int.mul_le_mul_of_nonneg_left hb1 (show 0 ≤ kk by omega)
        rw [Int.mul_one] at q2
        exact q2
      have hbl : bd.len ≤ kk * bd.len := by
        have q2 := Int.mul_le_mul_of_nonneg_right hk1 (show 0 ≤ bd.len by omega)
        rw [Int.one_mul] at q2
        exact q2
      refine ⟨_, rfl, b, _, _, _, rfl, rfl, SqT.of hb', at0, rfl, _, rfl, ?_⟩
      refine ite2 (fun e => absurd (of_decide_eq_true e) line_loop) (fun _ => ?_)
      have hbp : InPool bd := fun y hy => hRp y (.inl hy)
      refine ⟨_, rfl, _, rfl, b, _, _, _, rfl, rfl, SqT.of hb', at2, c, bd, rfl, hc.same sm, hbo, hbp, by omega, by omega, fun H2 l1 bs s1 hl1 h1 hbs hbsp => ?_⟩
      refine ⟨_, rfl, b, _, _, _, rfl, rfl, SqT.of (s1 _ _ hb'), at1, l1, kk, _, rfl, rfl, h1, by omega, by omega, ?_, fun l2 hl2 => ?_⟩
      · rw [List.length_map]
        have e1 : ((bs.length * kk.toNat : Nat) : Int) = kk * bd.len := by
          rw [Int.natCast_mul, hbs, Int.mul_comm]
          congr 1
          omega
        omega
      have s2 := same_new hl2 (.lst (List.replicate kk.toNat (bs.map V.str)).flatten)
      have e1 : ((kk.toNat * bs.length : Nat) : Int) = kk * bd.len := by
        rw [Int.natCast_mul, hbs]
        congr 1
        omega
      refine ⟨fl, l2, _, _, rfl, rfl, s2 _ _ (s1 _ _ hfl), upd_same, ?_, fun l3 hl3 => ?_⟩
      · rw [List.length_map, flat_len, List.length_map]
        omega
      have s3 := same_new hl3 (.lst (ts.map V.str ++ (List.replicate kk.toNat (bs.map V.str)).flatten))
      have s13 := sm.trans (s1.trans (s2.trans s3))
      refine ⟨r, ts ++ (List.replicate kk.toNat bs).flatten, l3, _, rfl, s13, lf2, (sm.trans (s1.trans s2)).free hl3, ?_, ?_, fun y hy => ?_, fun y hy => hRp y (.inr hy), hro, by omega⟩
      · rw [upd_same, List.map_append, ← flat_map_str]
      · rw [List.length_append, flat_len]
        omega
      · rcases List.mem_append.mp hy with z | z
        · exact hts y z
        · exact hbsp y (flat_mem z)
  · rintro σ H' ⟨R, ts, fl, v, rfl, sm, lf, hfn, hfl, hlen, hts, hRp, hRo, hdep⟩
    have e := lf.done
    subst e
    have e2 : (ts.length : Int) = p.len := by
      have q1 : (ts.length : Int) + 0 = p.len := hlen
      omega
    exact ⟨_, rfl, q H' fl ts sm hfn hfl e2 hts⟩
theorem ticks_all {f : Addr} {fd : FuncData} (D : Def K mg "_law_ticks" sTicks ["_law_items_here"] f fd) : ∀ n : Nat, FnOk P w K mg base CX0 (n + 1) f fd ["_law_items_here"] (spTicks n)
  | 0 => ok_ticks (k := 0) D ⟨fun _ _ _ _ => False, no_calls fun _ _ _ _ h => h, fun m h => absurd h (Nat.succ_ne_zero m)⟩
  | n + 1 => ok_ticks D ⟨spTicks n, ticks_all D n, fun m h => by rw [Nat.succ.inj h]⟩
end
end Ev
/-! EvL5: _law_small. -/
namespace Ev
open PySem PySem.Spec PyProof.Rows L2
/-- how far the while is from its end: the items left, or 0 where the ticks are few -/
def muS (σ : L2.St) (H : Hp) : Nat := match σ.getD 4 Option.none, σ.getD 3 Option.none with
  | some (V.ref l), some (V.ref a) => (match H l, H a with
    | some (HO.lst ts), some (HO.tup vs) => if 60 < ts.length then vs.length else 0
    | _, _ => 0)
  | _, _ => 0
theorem muS_eq {x0 x1 x2 : Option V} {a l : Addr} {H : Hp} {ts vs : List V} (hl : H l = some (.lst ts)) (ha : H a = some (.tup vs)) : muS [x0, x1, x2, some (.ref a), some (.ref l)] H = if 60 < ts.length then vs.length else 0 := by
  show (match H l, H a with
    | some (HO.lst ts), some (HO.tup vs) => if 60 < ts.length then vs.length else 0
    | _, _ => 0) = _
  rw [hl, ha]
section
variable {P : Program} {w : World} {K : PySem.W.Frag} {mg : Str → Option Value} {base : Heap}
def spSmall : Sp := fun vs H Q _ => ∃ (p : Addr) (c : Nat), vs = [.ref p, .int 60] ∧ PotAt H p c ∧ c ≤ 30000 ∧
  ∀ (H' : Hp) (t a l : Addr) (R : Pg) (ts : List Str), SameBut p H H' → H' t = some (.tup [.ref a, .ref l]) → PgAt H' a R → Good R 2 4 → H' l = some (.lst (ts.map V.str)) → 1 ≤ ts.length → ts.length ≤ 60 → (∀ x ∈ ts, x ∈ pool) → l ≠ p → PotAt H' p (c + 400) → Q (.ref t) H'
theorem ok_small {f t n i j o : Addr} {fd td nd id' jd od : FuncData} (T : Txt mg) (D : Def K mg "_law_small" sSmall ["_law_pot_here", "_law_most"] f fd) (DT : Def K mg "_law_take" sTake ["_law_pot_here", "_law_many_here"] t td)
    (DN : Def K mg "_law_names" sLNames ["_law_pot_here", "_law_many_here"] n nd) (DI : Def K mg "_law_items" sLItems ["_law_pot_here", "_law_names_here", "_law_many_here", "_law_depth", "_law_most"] i id') (DK : Def K mg "_law_ticks" sTicks ["_law_items_here"] j jd)
    (DO : Def K mg "_law_of" sOf ["_law_pot_here", "_law_some"] o od) : FnOk P w K mg base CX0 6 f fd ["_law_pot_here", "_law_most"] spSmall := by
  have GT : FnOk P w K mg base CX0 5 t td ["_law_pot_here", "_law_many_here"] spTake := ok_take DT
  have GN : FnOk P w K mg base CX0 5 n nd ["_law_pot_here", "_law_many_here"] spLNames := ok_lnames T DN DT
  have GI : FnOk P w K mg base CX0 5 i id' ["_law_pot_here", "_law_names_here", "_law_many_here", "_law_depth", "_law_most"] (spLItems 2) := litems_all T DI DT DO 2
  have GK : FnOk P w K mg base CX0 5 j jd ["_law_items_here"] (spTicks 4) := ticks_all DK 4
  have hz : sizeLine = 16777216 := sizeLine_eq
  have hIB : IB 2 = 357 := rfl
  have hLB : LB 2 = 243 := rfl
  refine D.fn.ok scSmall (fun vs H Q E h => ?_) (fun cdv A outer s H vs Q E hr h => ?_)
  · obtain ⟨p, c, rfl, _⟩ := h
    rfl
  obtain ⟨p, c, rfl, hp, hc, q⟩ := h
  refine ⟨_, pss_cons (ps_set (i := 2) scSmall.nd rfl (.inl rfl) (pe_call GN hr rfl DN.mg DN.kp DN.bi .nil pass0 (pa_cons (pv 0) (pa_cons (pe_op op_add pe_int (pe_call GT hr rfl DT.mg DT.kp DT.bi .nil pass0 (pa_cons (pv 0) (pa_cons pe_int pa_nil)))) pa_nil))))
    (pss_cons (ps_set (i := 3) scSmall.nd rfl (.inl rfl) (pe_call GI hr rfl DI.mg DI.kp DI.bi .nil pass0 (pa_cons (pv 0) (pa_cons (pv 2) (pa_cons pe_int (pa_cons pe_int (pa_cons pe_int pa_nil)))))))
    (pss_cons (ps_set (i := 4) scSmall.nd rfl (.inl rfl) (pe_call GK hr rfl DK.mg DK.kp DK.bi .nil pass0 (pa_cons (pv 3) pa_nil)))
    (pss_cons (ps_while PassesOwn.never (pt_cmpR op_gt (pe_callB call_len_seq rfl T.len PySem.boot_len (pa_cons (pv 4) pa_nil)) (pv 1) (nomark _))
      (pss_cons (ps_set (i := 3) scSmall.nd rfl (.inl rfl) (pe_slice sl_tupA (pv 3) (po_some pe_int) po_none))
      (pss_cons (ps_if (pt_cmpR (op_eqD hr.units) (pv 3) (pe_tup pa_nil) (nomark _))
        (pss_one (ps_set (i := 3) scSmall.nd rfl (.inl rfl) (pe_tup (pa_cons (pe_tup (pa_cons pe_str (pa_cons (pe_ix ix_list (pv 2) pe_int (fun _ _ => rfl)) (pa_cons (pe_op op_add pe_int (pe_call GT hr rfl DT.mg DT.kp DT.bi .nil pass0 (pa_cons (pv 0) (pa_cons (pv 1) pa_nil)))) pa_nil)))) pa_nil)))) pss_nil)
      (pss_one (ps_set (i := 4) scSmall.nd rfl (.inl rfl) (pe_call GK hr rfl DK.mg DK.kp DK.bi .nil pass0 (pa_cons (pv 3) pa_nil)))))))
    (pss_one (ps_ret (pe_tup (pa_cons (pv 3) (pa_cons (pv 4) pa_nil)))))))), ?_⟩
  -- names
  refine ⟨_, rfl, _, rfl, p, 4, c, rfl, hp, by omega, ⟨by decide, by decide⟩, fun H1 r1 sb1 hp1 hr10 hr11 => ?_⟩
  have er1 : (1 : Int) + r1 = (((1 + r1).toNat : Nat) : Int) := by omega
  refine ⟨_, _, rfl, rfl, p, _, (1 + r1).toNat, by rw [← er1]; rfl, hp1, by omega, ⟨by omega, by omega⟩, fun H2 nl names sb2 hnl0 hnp hnl hnlen hnin hp2 => ?_⟩
  have hn1 : 1 ≤ names.length := by omega
  have hn8 : names.length ≤ 8 := by omega
  -- items
  refine ⟨_, rfl, _, rfl, p, nl, _, 4, 2, 3, names, rfl, hp2, by omega, hnl, hnp, hn1, hn8, hnin, ⟨by decide, by decide⟩, ⟨by decide, by decide⟩, ⟨by decide, by decide⟩, fun H3 a R sb3 hR gR hRw hRl hp3 => ?_⟩
  have hnl3 : H3 nl = some (.lst (names.map V.str)) := sb3 _ _ hnl hnp
  have gd := gR.dep
  -- ticks
  refine ⟨_, rfl, a, R, rfl, hR, gR.ok, gR.pool, by omega, by omega, fun H4 l ts s4 hl0 hl hlen hin => ?_⟩
  have sb04 : SameBut p H H4 := sb1.trans (sb2.trans (sb3.trans (Same.but s4 p)))
  have hp4 := (hp3.same s4).mono (show c + 1 + (1 + r1).toNat + IB 2 ≤ c + 362 by omega)
  have hlp : l ≠ p := fun e => (hp3.ne_none hl0) e.symm
  refine while_by (fun σ H' => ∃ (a l : Addr) (R : Pg) (ts : List Str), σ = [some (.ref p), some (.int 60), some (.ref nl), some (.ref a), some (.ref l)] ∧ SameBut p H H' ∧ PgAt H' a R ∧ Good R 2 4 ∧ R.len ≤ 5000 ∧ H' l = some (.lst (ts.map V.str)) ∧ (ts.length : Int) = R.len ∧ (∀ x ∈ ts, x ∈ pool) ∧ l ≠ p ∧
      H' nl = some (.lst (names.map V.str)) ∧ (PotAt H' p (c + 362) ∨ (R.len ≤ 60 ∧ PotAt H' p (c + 363)))) muS
    ⟨a, l, R, ts, rfl, sb04, hR.same s4, gR, by omega, hl, hlen, hin, hlp, s4 _ _ hnl3, .inl hp4⟩ ?_ ?_
  · rintro σ H' ⟨a, l, R, ts, rfl, sb, ⟨vs, ha, hv⟩, gR, hR5, hl, hlen, hin, hlp, hnl', hpot⟩
    have hmu := muS_eq (x0 := some (.ref p)) (x1 := some (.int 60)) (x2 := some (.ref nl)) hl ha
    rw [List.length_map] at hmu
    refine ⟨_, rfl, l, _, rfl, .inl (SqL.of hl), _, rfl, _, _, rfl, rfl, _, rfl, ?_⟩
    refine ite2 (fun e => ?_) (fun e => ?_)
    · have h60 : 60 < ts.length := by
        have q1 : (((ts.map V.str).length : Nat) : Int) > 60 := of_decide_eq_true e
        rw [List.length_map] at q1
        omega
      rw [if_pos h60] at hmu
      have hp' : PotAt H' p (c + 362) := hpot.elim id fun z => by omega
      obtain ⟨xs0, hx0⟩ := hp'.at
      have hvw : vs.length = R.wide := hv.len
      have hw1 : 1 ≤ vs.length := by
        cases vs with
        | nil =>
          exfalso
          have gne := gR.ne
          cases R with
          | nil => exact gne rfl
          | line n t r => obtain ⟨_, _, e, _⟩ := hv; cases e
          | loop k b r => obtain ⟨_, _, _, _, e, _⟩ := hv; cases e
        | cons v r => rw [List.length_cons]; omega
      -- items = items[1:]
      refine ⟨_, rfl, 1, rfl, a, vs, rfl, SqT.of ha, fun hw => ?_, fun _ a2 ha2 => ?_⟩
      · exfalso
        have q1 := hw.1
        rw [show HT.sIx vs.length 0 (some 1) = min 1 vs.length from HT.sIx_nat vs.length 0 1] at q1
        omega
      have s1 := same_new ha2 (.tup (cutV vs (some 1) none))
      rw [cut_one] at s1 ⊢
      have hv2 := (tl_val hv).same s1
      have ha2' : (upd H' a2 (.tup (vs.drop 1))) a2 = some (.tup (vs.drop 1)) := upd_same
      -- if items == ()
      refine ⟨_, rfl, Nat.zero_le _, fun e2 he2 => ?_⟩
      have s2 := same_new he2 (.tup ([] : List V))
      have hgd2 := gR.dep
      have htd := tl_dep R
      have hnl2 := s2 _ _ (s1 _ _ hnl')
      have hp2' := (hp'.same s1).same s2
      have hlp2 := hlp
      refine ⟨.tuple (dpg R.tl), .tuple [], .tup (SqT.of (s2 _ _ ha2')) (dp_of (hv2.same s2)), .tup (SqT.of upd_same) .nil, shaped_pg (tl_pool gR.pool) (by omega), by decide +kernel, _, rfl, ?_⟩
      refine ite2 (fun e3 => ?_) (fun e3 => ?_)
      · have htl : R.tl = .nil := (eqv_nil R.tl).mp e3
        obtain ⟨nm, nr, rfl⟩ : ∃ nm nr, names = nm :: nr := by
          cases names with
          | nil => exact absurd hn1 (by decide)
          | cons x r => exact ⟨x, r, rfl⟩
        refine ⟨_, rfl, nl, _, _, _, rfl, rfl, SqL.of hnl2, at0, _, rfl, _, rfl, p, 60, _, rfl, hp2', by omega, ⟨by decide, by decide⟩, fun H5 r5 sb5 hp5 hr50 hr51 => ?_⟩
        refine ⟨_, _, rfl, rfl, small64' (n := 3) (by omega), fun u hu => ⟨small64' (n := 1) (by omega), fun a3 ha3 => ?_⟩⟩
        have s5 := same_new hu (.tup [V.str kLine, V.str nm, V.int (1 + r5)])
        have s6 := same_new ha3 (.tup [V.ref u])
        have hN : PgAt (upd (upd H5 u (.tup [V.str kLine, V.str nm, V.int (1 + r5)])) a3 (.tup [V.ref u])) a3 (.line nm (1 + r5) .nil) := ⟨_, upd_same, one_line (s6 _ _ upd_same)⟩
        have hnm : nm ∈ pool := hnin nm List.mem_cons_self
        have gN : Good (.line nm (1 + r5) .nil) 2 4 := ⟨⟨⟨by omega, by omega⟩, trivial⟩, line_pool hnm, Nat.zero_le _, by show 1 ≤ 4; decide, fun z => nomatch z⟩
        have hNl : (Pg.line nm (1 + r5) .nil).len = 1 + r5 := by show 1 + r5 + 0 = 1 + r5; omega
        refine ⟨_, rfl, a3, _, rfl, hN, gN.ok, gN.pool, Nat.zero_le _, by rw [hNl]; omega, fun H6 l6 ts6 s7 hl60 hl6 hlen6 hin6 => ?_⟩
        have s567 := s5.trans (s6.trans s7)
        have hp6 := hp5.same s567
        have hl6p : l6 ≠ p := fun e => ((hp5.same (s5.trans s6)).ne_none hl60) e.symm
        refine ⟨⟨a3, l6, _, ts6, rfl, ?_, hN.same s7, gN, by rw [hNl]; omega, hl6, hlen6, hin6, hl6p, s567 _ _ (sb5 _ _ hnl2 hnp), .inr ⟨by rw [hNl]; omega, hp6⟩⟩, ?_⟩
        · exact sb.trans ((Same.but (s1.trans s2) p).trans (sb5.trans (Same.but s567 p)))
        · obtain ⟨vs6, hv6, _⟩ := hN.same s7
          have hm6 := muS_eq (x0 := some (.ref p)) (x1 := some (.int 60)) (x2 := some (.ref nl)) hl6 hv6
          rw [List.length_map, if_neg (by omega)] at hm6
          show muS [some (.ref p), some (.int 60), some (.ref nl), some (.ref a3), some (.ref l6)] H6 < _
          rw [hm6, hmu]
          omega
      · have htl : R.tl ≠ .nil := fun z => e3 ((eqv_nil R.tl).mpr z)
        have hA : PgAt (upd (upd H' a2 (.tup (vs.drop 1))) e2 (.tup [])) a2 R.tl := ⟨_, s2 _ _ ha2', hv2.same s2⟩
        have hwd := tl_wide R
        have hgw := gR.wide
        have htll := tl_len R gR.ok
        have gT : Good R.tl 2 4 := ⟨tl_ok gR.ok, tl_pool gR.pool, by omega, by omega, htl⟩
        refine ⟨_, rfl, a2, _, rfl, hA, gT.ok, gT.pool, by have := gT.dep; omega, by omega, fun H6 l6 ts6 s7 hl60 hl6 hlen6 hin6 => ?_⟩
        have hp6 := hp2'.same s7
        have hl6p : l6 ≠ p := fun e => (hp2'.ne_none hl60) e.symm
        refine ⟨⟨a2, l6, _, ts6, rfl, ?_, hA.same s7, gT, by omega, hl6, hlen6, hin6, hl6p, s7 _ _ hnl2, .inl hp6⟩, ?_⟩
        · exact sb.trans (Same.but (s1.trans (s2.trans s7)) p)
        · have hv6 := s7 _ _ (s2 _ _ ha2')
          have hm6 := muS_eq (x0 := some (.ref p)) (x1 := some (.int 60)) (x2 := some (.ref nl)) hl6 hv6
          show muS [some (.ref p), some (.int 60), some (.ref nl), some (.ref a2), some (.ref l6)] H6 < _
          rw [hm6, hmu, List.length_drop]
          split <;> omega
    · have h60 : ts.length ≤ 60 := by
        have q1 : ¬ ((((ts.map V.str).length : Nat) : Int) > 60) := of_decide_eq_false (Bool.eq_false_iff.mpr e)
        rw [List.length_map] at q1
        omega
      have hl1 : 1 ≤ ts.length := by
        have q1 := (len_pos R gR.ok).2 gR.ne
        omega
      refine ⟨_, rfl, _, rfl, small64' (n := 2) (by omega), fun u hu => ?_⟩
      have s8 := same_new hu (.tup [V.ref a, V.ref l])
      refine q _ u a l R ts (sb.trans (Same.but s8 p)) upd_same (PgAt.same s8 ⟨vs, ha, hv⟩) gR (s8 _ _ hl) hl1 h60 hin hlp ?_
      rcases hpot with z | ⟨_, z⟩
      · exact (z.same s8).mono (by omega)
      · exact (z.same s8).mono (by omega)
  · rintro σ H Q Q' hq ⟨v, e1, p', ys, e2, e3, v2, e4, i, j, e5, e6, kk, e7, q1⟩
    exact ⟨v, e1, p', ys, e2, e3, v2, e4, i, j, e5, e6, kk, e7, hq _ _ q1⟩
end
end Ev
/-! EvL6: _law_great. -/
namespace Ev
open PySem PySem.Spec PyProof.Rows L2
/-- how many draws _law_great takes at most -/
def GB : Nat → Nat
  | 0 => 19
  | n + 1 => 1 + 3 * (6 + GB n)
def GN : Nat → Nat
  | 0 => 6
  | n + 1 => 6 + GB n
theorem GB_GN : ∀ n, GB n = 1 + 3 * GN n
  | 0 => rfl
  | n + 1 => rfl
theorem GN_ge : ∀ n, 6 ≤ GN n
  | 0 => Nat.le_refl 6
  | n + 1 => Nat.le_add_right 6 (GB n)
section
variable {P : Program} {w : World} {K : PySem.W.Frag} {mg : Str → Option Value} {base : Heap}
theorem scGreat : FnScope ["_law_pot_here", "_law_names_here", "_law_depth", "_law_found", "_law_left", "_law_turn", "_law_rounds", "_law_ticks_here"] ["_law_pot_here", "_law_names_here", "_law_depth"] (defScope sGreat) := ⟨rfl, rfl, rfl, by decide +kernel, rfl, by decide +kernel, by decide +kernel⟩
def spGreat (n : Nat) : Sp := fun vs H Q _ => ∃ (p nl : Addr) (c : Nat) (dp : Int) (names : List Str), vs = [.ref p, .ref nl, .int dp] ∧ PotAt H p c ∧ c + GB n ≤ 40000 ∧ H nl = some (.lst (names.map V.str)) ∧ nl ≠ p ∧ 1 ≤ names.length ∧ names.length ≤ 8 ∧
  (∀ x ∈ names, x ∈ pool) ∧ (0 ≤ dp ∧ dp ≤ n) ∧
  ∀ (H' : Hp) (t : Addr) (R : Pg), SameBut p H H' → PgAt H' t R → Good R n 3 → PotAt H' p (c + GB n) → Q (.ref t) H'
theorem ok_great {n k : Nat} {f t o : Addr} {fd td od : FuncData} (T : Txt mg) (D : Def K mg "_law_great" sGreat ["_law_pot_here", "_law_names_here", "_law_depth"] f fd)
    (DT : Def K mg "_law_take" sTake ["_law_pot_here", "_law_many_here"] t td) (DO : Def K mg "_law_of" sOf ["_law_pot_here", "_law_some"] o od)
    (G : ∃ sp, FnOk P w K mg base CX0 (k + 2) f fd ["_law_pot_here", "_law_names_here", "_law_depth"] sp ∧ ∀ m, m + 1 = n → sp = spGreat m) :
    FnOk P w K mg base CX0 (k + 3) f fd ["_law_pot_here", "_law_names_here", "_law_depth"] (spGreat n) := by
  obtain ⟨sp, G, hsp⟩ := G
  have GT : FnOk P w K mg base CX0 (k + 2) t td ["_law_pot_here", "_law_many_here"] spTake := ok_take DT
  have GO : FnOk P w K mg base CX0 (k + 2) o od ["_law_pot_here", "_law_some"] spOf := ok_of T DO DT
  refine D.fn.ok scGreat (fun vs H Q E h => ?_) (fun cdv A outer s H vs Q E hr h => ?_)
  · obtain ⟨p, nl, c, dp, names, rfl, _⟩ := h
    rfl
  obtain ⟨p, nl, c, dp, names, rfl, hp, hc, hnl, hnp, hn1, hn8, hnin, ⟨hd0, hdn⟩, q⟩ := h
  have hGB := GB_GN n
  have hGN := GN_ge n
  refine ⟨_, pss_cons (ps_par (i := 3) (j := 4) rfl scGreat.nd rfl rfl (by decide) rfl rfl (pa_cons (pe_lst pa_nil) (pa_cons (pv 2) pa_nil)) rfl)
    (pss_cons (ps_for PassesOwn.never rfl (pi_range1 rfl T.range (pa_cons (pe_op op_add pe_int (pe_call GT hr rfl DT.mg DT.kp DT.bi .nil pass0 (pa_cons (pv 0) (pa_cons pe_int pa_nil)))) pa_nil)) (pg_name (i := 5) scGreat.nd rfl (.inl rfl))
      (pss_one (ps_if (PW.pt (pw_and (pt_cmpR op_gt (pv 2) pe_int (nomark _)) (pw_and1 (pt_cmpR op_eq (pe_call GT hr rfl DT.mg DT.kp DT.bi .nil pass0 (pa_cons (pv 0) (pa_cons pe_int pa_nil))) pe_int (nomark _)))))
        (pss_cons (ps_set (i := 6) scGreat.nd rfl (.inl rfl) (pe_call GO hr rfl DO.mg DO.kp DO.bi .nil pass0 (pa_cons (pv 0) (pa_cons (pe_lst (pa_cons (pe_op op_pow pe_int pe_int)
            (pa_cons (pe_op op_add pe_int (pe_call GT hr rfl DT.mg DT.kp DT.bi .nil pass0 (pa_cons (pv 0) (pa_cons (pe_op op_pow pe_int pe_int) pa_nil))))
            (pa_cons (pe_op op_add pe_int (pe_call GT hr rfl DT.mg DT.kp DT.bi .nil pass0 (pa_cons (pv 0) (pa_cons pe_int pa_nil)))) pa_nil)))) pa_nil))))
        (pss_cons (ps_expr (pe_bm PySem.F.plainAttrs_list PySem.F.slot_list_append PySem.F.type_list_append mt_append (pv 3) (pa_cons (pe_tup (pa_cons pe_str (pa_cons (pv 6) (pa_cons
          (pe_call G hr rfl D.mg D.kp D.bi .nil pass0 (pa_cons (pv 0) (pa_cons (pv 1) (pa_cons (pe_callB (call_max2 rfl) (by rfl) T.max (by decide +kernel) (pa_cons pe_int (pa_cons (pe_op op_sub (pv 4) pe_int) pa_nil))) pa_nil)))) pa_nil)))) pa_nil)))
        (pss_one (ps_set (i := 4) scGreat.nd rfl (.inl rfl) pe_int))))
        (pss_cons (ps_set (i := 7) scGreat.nd rfl (.inl rfl) (pe_call GO hr rfl DO.mg DO.kp DO.bi .nil pass0 (pa_cons (pv 0) (pa_cons (pe_lst (pa_cons (pe_op op_pow pe_int pe_int)
            (pa_cons (pe_op op_add pe_int (pe_call GT hr rfl DT.mg DT.kp DT.bi .nil pass0 (pa_cons (pv 0) (pa_cons (pe_op op_pow pe_int pe_int) pa_nil))))
            (pa_cons (pe_op op_add pe_int (pe_call GT hr rfl DT.mg DT.kp DT.bi .nil pass0 (pa_cons (pv 0) (pa_cons pe_int pa_nil))))
            (pa_cons (pe_op op_add pe_int (pe_call GT hr rfl DT.mg DT.kp DT.bi .nil pass0 (pa_cons (pv 0) (pa_cons pe_int pa_nil)))) pa_nil))))) pa_nil))))
        (pss_one (ps_expr (pe_bm PySem.F.plainAttrs_list PySem.F.slot_list_append PySem.F.type_list_append mt_append (pv 3) (pa_cons (pe_tup (pa_cons pe_str (pa_cons (pe_call GO hr rfl DO.mg DO.kp DO.bi .nil pass0 (pa_cons (pv 0) (pa_cons (pv 1) pa_nil))) (pa_cons (pv 7) pa_nil)))) pa_nil))))))))
    (pss_one (ps_ret (pe_callTy call_tuple_of rfl T.tuple (by decide +kernel) (pa_cons (pv 3) pa_nil))))), ?_⟩
  refine ⟨Nat.zero_le _, fun fl hfl => ?_⟩
  have hpf : p ≠ fl := hp.ne_none hfl
  have s1 := same_new hfl (.lst [])
  refine ⟨_, rfl, _, _, rfl, ?_⟩
  refine ⟨_, rfl, p, 3, c, rfl, hp.same s1, by omega, ⟨by omega, by omega⟩, fun H1 r sb1 hp1 hr0 hr1 => ?_⟩
  have hfl1 : H1 fl = some (.lst []) := sb1 _ _ upd_same (Ne.symm hpf)
  have sb1' : SameBut p H H1 := (Same.but s1 p).trans sb1
  refine ⟨_, _, rfl, rfl, 1 + r, rfl, by omega, by omega, ?_⟩
  refine for_range (lo := 0) (n := (1 + r).toNat) (fun i σ H' => ∃ (R : Pg) (vs : List V) (lf : Int) (v5 v6 v7 : Option V), σ = [some (.ref p), some (.ref nl), some (.int dp), some (.ref fl), some (.int lf), v5, v6, v7] ∧ SameBut p H H' ∧ H' fl = some (.lst vs) ∧ PgV H' R vs ∧
      R.ok ∧ InPool R ∧ R.dep ≤ n ∧ R.wide = i ∧ (0 ≤ lf ∧ lf ≤ dp) ∧ PotAt H' p (c + 1 + i * GN n))
    ⟨.nil, [], dp, none, none, none, rfl, sb1', hfl1, rfl, trivial, nil_pool, Nat.zero_le _, rfl, ⟨hd0, Int.le_refl _⟩, by rw [Nat.zero_mul]; exact hp1⟩ ?_ ?_
  · rintro i σ H2 hi ⟨R, vs, lf, v5, v6, v7, rfl, sb, hf2, hv, hRo, hRp, hRd, hRw, ⟨hlf0, hlf1⟩, hp2⟩
    have hi4 : i < 3 := by omega
    have hiT : i * GN n + GN n ≤ 3 * GN n := by
      have q1 := Nat.mul_le_mul_right (GN n) (show i + 1 ≤ 3 by omega)
      rw [Nat.add_mul, Nat.one_mul] at q1
      exact q1
    have hvl : vs.length = i := by rw [hv.len, hRw]
    have hITs : ∀ x : Nat, x ≤ GN n → c + 1 + i * GN n + x ≤ c + 1 + (i + 1) * GN n := fun x hx => by
      rw [Nat.add_mul, Nat.one_mul]; omega
    obtain ⟨xs0, hx0⟩ := hp2.at
    have p18 : ((10 : Int) ^ (18 : Int).toNat) = 10 ^ 18 := by decide
    have p12 : ((10 : Int) ^ (12 : Int).toNat) = 10 ^ 12 := by decide
    have c18 : CPow 10 18 := ⟨by decide, by decide, by decide⟩
    have c12 : CPow 10 12 := ⟨by decide, by decide, by decide⟩
    have lineWay : ∀ (H3 : Hp) (c3 : Nat), SameBut p H2 H3 → PotAt H3 p (c + 1 + i * GN n + c3) → c3 ≤ 1 → ∀ D : Ends, D.nx = (fun σ H' => ∃ (R : Pg) (vs : List V) (lf : Int) (v5 v6 v7 : Option V), σ = [some (.ref p), some (.ref nl), some (.int dp), some (.ref fl), some (.int lf), v5, v6, v7] ∧ SameBut p H H' ∧ H' fl = some (.lst vs) ∧ PgV H' R vs ∧
        R.ok ∧ InPool R ∧ R.dep ≤ n ∧ R.wide = i + 1 ∧ (0 ≤ lf ∧ lf ≤ dp) ∧ PotAt H' p (c + 1 + (i + 1) * GN n)) →
        tSeq (tAsg (tCall spOf [] E0 (tCons (tVar 0) (tCons (tLst (tCons (tOp (rI CPow fun i j => .int (i ^ j.toNat)) (tC (.int 10)) (tC (.int 12)))
            (tCons (tOp (rI0 fun i j => .int (i + j)) (tC (.int 1)) (tCall spTake [] E0 (tCons (tVar 0) (tCons (tOp (rI CPow fun i j => .int (i ^ j.toNat)) (tC (.int 10)) (tC (.int 12))) tNil))))
            (tCons (tOp (rI0 fun i j => .int (i + j)) (tC (.int 1)) (tCall spTake [] E0 (tCons (tVar 0) (tCons (tC (.int 9)) tNil))))
            (tCons (tOp (rI0 fun i j => .int (i + j)) (tC (.int 1)) (tCall spTake [] E0 (tCons (tVar 0) (tCons (tC (.int 2)) tNil)))) tNil))))) tNil))) (gName 7))
          (tDrop (tBM K "list" rAppend (tVar 3) (tCons (tTup (tCons (tC (.str kLine)) (tCons (tCall spOf [] E0 (tCons (tVar 0) (tCons (tVar 1) tNil))) (tCons (tVar 7) tNil)))) tNil))) D [some (.ref p), some (.ref nl), some (.int dp), some (.ref fl), some (.int lf), some (.int (0 + (i : Int))), v6, v7] H3 := by
      intro H3 c3 sb3 hp3 hc3 D hD
      have hf3 : H3 fl = some (.lst vs) := sb3 _ _ hf2 (Ne.symm hpf)
      have hnl3 : H3 nl = some (.lst (names.map V.str)) := sb3 _ _ (sb _ _ hnl hnp) hnp
      refine ⟨_, rfl, _, _, rfl, rfl, c12, _, rfl, _, _, rfl, rfl, c12, p, _, _, rfl, hp3, by omega, ⟨by rw [p12]; decide, by rw [p12]; decide⟩, fun H4 r4 sb4 hp4 hr40 hr41 => ?_⟩
      rw [p12] at hr41
      refine ⟨_, _, rfl, rfl, _, rfl, p, _, _, rfl, hp4, by omega, ⟨by decide, by decide⟩, fun H5 r5 sb5 hp5 hr50 hr51 => ?_⟩
      refine ⟨_, _, rfl, rfl, _, rfl, p, _, _, rfl, hp5, by omega, ⟨by decide, by decide⟩, fun H6 r6 sb6 hp6 hr60 hr61 => ?_⟩
      refine ⟨_, _, rfl, rfl, small64' (n := 4) (by omega), fun g hg => ?_⟩
      have hgp : g ≠ p := fun e => (hp6.ne_none hg) e.symm
      have s7 := same_new hg (.lst [V.int ((10 : Int) ^ (12 : Int).toNat), V.int (1 + r4), V.int (1 + r5), V.int (1 + r6)])
      refine ⟨p, g, _, _, rfl, hp6.same s7, by omega, upd_same, hgp, by show 1 ≤ 4; decide, by show 4 ≤ 100; decide, fun H7 x sb7 hp7 hx => ?_⟩
      obtain ⟨tk, rfl, htk1, htk2⟩ : ∃ tk : Int, x = .int tk ∧ 1 ≤ tk ∧ tk ≤ 10 ^ 12 := by
        replace hx : x ∈ [V.int ((10 : Int) ^ (12 : Int).toNat), V.int (1 + r4), V.int (1 + r5), V.int (1 + r6)] := hx
        rw [p12] at hx
        rcases List.mem_cons.mp hx with rfl | hx
        · exact ⟨_, rfl, by decide, by decide⟩
        rcases List.mem_cons.mp hx with rfl | hx
        · exact ⟨_, rfl, by omega, by omega⟩
        rcases List.mem_cons.mp hx with rfl | hx
        · exact ⟨_, rfl, by omega, by omega⟩
        rcases List.mem_cons.mp hx with rfl | hx
        · exact ⟨_, rfl, by omega, by omega⟩
        · cases hx
      have sb37 : SameBut p H3 H7 := sb4.trans (sb5.trans (sb6.trans ((Same.but s7 p).trans sb7)))
      have hf7 : H7 fl = some (.lst vs) := sb37 _ _ hf3 (Ne.symm hpf)
      have hnl7 : H7 nl = some (.lst (names.map V.str)) := sb37 _ _ hnl3 hnp
      refine ⟨_, rfl, .inl ⟨rfl, _, SqL.of hf7⟩, _, rfl, _, rfl, p, nl, _, _, rfl, hp7, by omega, hnl7, hnp, by rw [List.length_map]; exact hn1, by rw [List.length_map]; omega, fun H8 x sb8 hp8 hx => ?_⟩
      obtain ⟨nm, hnm, rfl⟩ := List.mem_map.mp hx
      refine ⟨_, rfl, small64' (n := 3) (by omega), fun a ha => ?_⟩
      have sb28 : SameBut p H2 H8 := sb3.trans (sb37.trans sb8)
      have hf8 := sb28 _ _ hf2 (Ne.symm hpf)
      have hfa : fl ≠ a := ne_of_none hf8 ha
      have hv8 := hv.but hx0 sb28
      have sa := same_new ha (.tup [V.str kLine, V.str nm, V.int tk])
      refine ⟨fl, vs, _, rfl, rfl, sa _ _ hf8, by rw [hvl]; exact lt_line (by omega), ?_⟩
      rw [hD]
      have hnew : PgV (upd H8 a (.tup [V.str kLine, V.str nm, V.int tk])) (R.app (.line nm tk .nil)) (vs ++ [.ref a]) := (hv8.same sa).app (one_line upd_same)
      refine ⟨R.app (.line nm tk .nil), vs ++ [.ref a], lf, _, _, _, rfl, fun x o hx hn => ?_, upd_same, ?_, app_ok _ _ hRo ⟨⟨by omega, by omega⟩, trivial⟩, app_pool hRp (line_pool (hnin nm hnm)), ?_, ?_, ⟨hlf0, hlf1⟩, ?_⟩
      · rw [upd_ne (ne_of_none hx hfl)]
        exact sa _ _ (sb28 _ _ (sb _ _ hx hn) hn)
      · exact hnew.but (sa _ _ hf8) fun x o hx hn => by rw [upd_ne hn]; exact hx
      · rw [app_dep]
        exact Nat.max_le.mpr ⟨hRd, Nat.zero_le _⟩
      · rw [app_wide, hRw]; rfl
      · obtain ⟨u1, u2, u3, e1, e2⟩ := (hp8.same sa).mono (show c + 1 + i * GN n + c3 + 1 + 1 + 1 + 1 + 1 ≤ c + 1 + (i + 1) * GN n by
          have q1 := hITs (c3 + 5) (by omega)
          omega)
        exact ⟨u1, u2, u3, by rw [upd_ne hpf]; exact e1, e2⟩
    refine ⟨_, rfl, _, _, rfl, rfl, _, rfl, ?_⟩
    refine ite2 (fun e1 => ?_) (fun e1 => ?_)
    · have hdp : 0 < dp := of_decide_eq_true e1
      refine ⟨_, rfl, p, 2, _, rfl, hp2, by omega, ⟨by omega, by omega⟩, fun H3 r3 sb3 hp3 hr30 hr31 => ⟨rfl, _, rfl, ?_⟩⟩
      refine ite2 (fun e2 => ?_) (fun e2 => lineWay H3 1 sb3 hp3 (by omega) _ rfl)
      obtain ⟨m, rfl⟩ : ∃ m, n = m + 1 := ⟨n - 1, by omega⟩
      have esp := hsp m rfl
      subst esp
      have hGm : GN (m + 1) = 6 + GB m := rfl
      refine ⟨_, rfl, _, _, rfl, rfl, c18, _, rfl, _, _, rfl, rfl, c18, p, _, _, rfl, hp3, by omega, ⟨by rw [p18]; decide, by rw [p18]; decide⟩, fun H4 r4 sb4 hp4 hr40 hr41 => ?_⟩
      rw [p18] at hr41
      refine ⟨_, _, rfl, rfl, _, rfl, p, _, _, rfl, hp4, by omega, ⟨by decide, by decide⟩, fun H5 r5 sb5 hp5 hr50 hr51 => ?_⟩
      refine ⟨_, _, rfl, rfl, small64' (n := 3) (by omega), fun g hg => ?_⟩
      have hgp : g ≠ p := fun e => (hp5.ne_none hg) e.symm
      have s7 := same_new hg (.lst [V.int ((10 : Int) ^ (18 : Int).toNat), V.int (1 + r4), V.int (1 + r5)])
      refine ⟨p, g, _, _, rfl, hp5.same s7, by omega, upd_same, hgp, by show 1 ≤ 3; decide, by show 3 ≤ 100; decide, fun H7 x sb7 hp7 hx => ?_⟩
      obtain ⟨tk, rfl, htk1, htk2⟩ : ∃ tk : Int, x = .int tk ∧ 1 ≤ tk ∧ tk ≤ 10 ^ 18 := by
        replace hx : x ∈ [V.int ((10 : Int) ^ (18 : Int).toNat), V.int (1 + r4), V.int (1 + r5)] := hx
        rw [p18] at hx
        rcases List.mem_cons.mp hx with rfl | hx
        · exact ⟨_, rfl, by decide, by decide⟩
        rcases List.mem_cons.mp hx with rfl | hx
        · exact ⟨_, rfl, by omega, by omega⟩
        rcases List.mem_cons.mp hx with rfl | hx
        · exact ⟨_, rfl, by omega, by omega⟩
        · cases hx
      have sb27 : SameBut p H2 H7 := sb3.trans (sb4.trans (sb5.trans ((Same.but s7 p).trans sb7)))
      have hf7 : H7 fl = some (.lst vs) := sb27 _ _ hf2 (Ne.symm hpf)
      have hnl7 : H7 nl = some (.lst (names.map V.str)) := sb27 _ _ (sb _ _ hnl hnp) hnp
      refine ⟨_, rfl, .inl ⟨rfl, _, SqL.of hf7⟩, _, rfl, _, rfl, _, rfl, _, rfl, _, _, rfl, rfl, _, _, rfl, ?_⟩
      refine ⟨p, nl, _, _, names, rfl, hp7, by omega, hnl7, hnp, hn1, hn8, hnin, ⟨by split <;> omega, by split <;> omega⟩, fun H8 b B sb8 hB gB hp8 => ?_⟩
      refine ⟨small64' (n := 3) (by omega), fun a ha => ?_⟩
      have sb28 : SameBut p H2 H8 := sb27.trans sb8
      have hf8 := sb28 _ _ hf2 (Ne.symm hpf)
      have hfa : fl ≠ a := ne_of_none hf8 ha
      have hv8 := hv.but hx0 sb28
      have sa := same_new ha (.tup [V.str kLoop, V.int tk, V.ref b])
      refine ⟨fl, vs, _, rfl, rfl, sa _ _ hf8, by rw [hvl]; exact lt_line (by omega), ?_⟩
      have hnew : PgV (upd H8 a (.tup [V.str kLoop, V.int tk, V.ref b])) (R.app (.loop tk B .nil)) (vs ++ [.ref a]) := (hv8.same sa).app (one_loop upd_same (hB.same sa))
      refine ⟨R.app (.loop tk B .nil), vs ++ [.ref a], 0, _, _, _, rfl, fun x o hx hn => ?_, upd_same, ?_, app_ok _ _ hRo ⟨⟨by omega, by omega⟩, gB.ok, gB.ne, by have := gB.wide; omega, trivial⟩, app_pool hRp (loop_pool gB.pool), ?_, ?_, ⟨by omega, by omega⟩, ?_⟩
      · rw [upd_ne (ne_of_none hx hfl)]
        exact sa _ _ (sb28 _ _ (sb _ _ hx hn) hn)
      · exact hnew.but (sa _ _ hf8) fun x o hx hn => by rw [upd_ne hn]; exact hx
      · rw [app_dep]
        have q1 := gB.dep
        exact Nat.max_le.mpr ⟨hRd, Nat.max_le.mpr ⟨by omega, Nat.zero_le _⟩⟩
      · rw [app_wide, hRw]; rfl
      · obtain ⟨u1, u2, u3, e3, e4⟩ := (hp8.same sa).mono (show c + 1 + i * GN (m + 1) + 1 + 1 + 1 + 1 + GB m ≤ c + 1 + (i + 1) * GN (m + 1) by
          have q1 := hITs (4 + GB m) (by omega)
          omega)
        exact ⟨u1, u2, u3, by rw [upd_ne hpf]; exact e3, e4⟩
    · exact iteF (lineWay H2 0 (SameBut.refl p H2) hp2 (by omega) _ rfl)
  · rintro σ H2 ⟨R, vs, lf, v5, v6, v7, rfl, sb, hf2, hv, hRo, hRp, hRd, hRw, hlf, hp2⟩
    refine ⟨_, rfl, fl, vs, rfl, .inl ⟨SqL.of hf2, fun t ht => ?_⟩⟩
    have st := same_new ht (.tup vs)
    have hw1 : 1 ≤ R.wide := by rw [hRw]; omega
    refine q _ t R (sb.trans (Same.but st p)) ⟨vs, upd_same, hv.same st⟩ ⟨hRo, hRp, hRd, by rw [hRw]; omega, wide_ne hw1⟩ ((hp2.same st).mono ?_)
    have q1 : (1 + r).toNat * GN n ≤ 3 * GN n := Nat.mul_le_mul_right _ (by omega)
    omega
theorem great_all {f t o : Addr} {fd td od : FuncData} (T : Txt mg) (D : Def K mg "_law_great" sGreat ["_law_pot_here", "_law_names_here", "_law_depth"] f fd)
    (DT : Def K mg "_law_take" sTake ["_law_pot_here", "_law_many_here"] t td) (DO : Def K mg "_law_of" sOf ["_law_pot_here", "_law_some"] o od) : ∀ n : Nat, FnOk P w K mg base CX0 (n + 3) f fd ["_law_pot_here", "_law_names_here", "_law_depth"] (spGreat n)
  | 0 => ok_great (k := 0) T D DT DO ⟨fun _ _ _ _ => False, no_calls fun _ _ _ _ h => h, fun m h => absurd h (Nat.succ_ne_zero m)⟩
  | n + 1 => ok_great T D DT DO ⟨spGreat n, great_all T D DT DO n, fun m h => by rw [Nat.succ.inj h]⟩
end
end Ev
/-! EvL7: _law_many, _law_folded, _law_by_name. -/
namespace Ev
open PySem PySem.Spec PyProof.Rows L2
section
variable {P : Program} {w : World} {K : PySem.W.Frag} {mg : Str → Option Value} {base : Heap}
theorem scMany : FnScope ["_law_items_here", "_law_item"] ["_law_items_here"] (defScope sMany) := ⟨rfl, rfl, rfl, by decide +kernel, rfl, by decide +kernel, by decide +kernel⟩
def spMany (n : Nat) : Sp := fun vs H Q _ => ∃ (a : Addr) (p : Pg), vs = [.ref a] ∧ PgAt H a p ∧ p.ok ∧ p.dep ≤ n ∧ p.wide ≤ 200 ∧ ∀ (H' : Hp) (z : Int), Same H H' → Q (.int z) H'
theorem ok_many {n k : Nat} {f : Addr} {fd : FuncData} (T : Txt mg) (D : Def K mg "_law_many" sMany ["_law_items_here"] f fd)
    (G : ∃ sp, FnOk P w K mg base CX0 k f fd ["_law_items_here"] sp ∧ ∀ m, m + 1 = n → sp = spMany m) : FnOk P w K mg base CX0 (k + 1) f fd ["_law_items_here"] (spMany n) := by
  obtain ⟨sp, G, hsp⟩ := G
  refine D.fn.ok scMany (fun vs H Q E h => ?_) (fun cdv A outer s H vs Q E hr h => ?_)
  · obtain ⟨a, p, rfl, _⟩ := h
    rfl
  obtain ⟨a, p, rfl, ⟨xs, ha, hv⟩, hok, hd, hw, q⟩ := h
  refine ⟨_, pss_one (ps_ret (pe_op op_add (pe_callB call_len_seq rfl T.len PySem.boot_len (pa_cons (pv 0) pa_nil)) (pe_callB (cr_sum rfl) (by rfl) T.sum (by decide +kernel) (pa_cons
    (pe_lc (own := [("_law_item", 1)]) (g := gName 1) rfl scMany.nd (pi_tup (pv 0)) (blkOk_by (N := ["_law_items_here", "_law_item"]) (sc := defScope sMany) (by decide +kernel))
      (fun _ _ _ _ _ => pg_name (i := 1) scMany.nd rfl (Or.inl rfl)) (fun _ _ _ _ _ => pts_one (pt_cmpR op_eq (pe_ix (r := rIxT K) ix_tup (pv 1) pe_int (fun _ _ => rfl)) pe_str (nomark _)))
      (fun _ _ _ _ _ => pe_call G hr rfl D.mg D.kp D.bi .nil pass0 (pa_cons (pe_ix (r := rIxT K) ix_tup (pv 1) pe_int (fun _ _ => rfl)) pa_nil))) pa_nil)))), ?_⟩
  have hxl : xs.length ≤ 200 := by rw [hv.len]; exact hw
  refine ⟨_, rfl, a, xs, rfl, .inr (SqT.of ha), ?_⟩
  refine ⟨_, rfl, a, rfl, ⟨_, SqT.of ha⟩, fun L hL => ?_⟩
  refine lc_tup (K := K) (a := a) (xs := xs) (fun i H' => ∃ (R : Pg) (acc : List Int), Same H H' ∧ Left H xs i R ∧ H' L = some (.lst (acc.map V.int)) ∧ acc.length ≤ i ∧ R.ok ∧ R.dep ≤ n)
    ⟨p, [], same_new hL _, Left.start hv, upd_same, Nat.zero_le _, hok, hd⟩ (fun i H' _ ⟨_, _, sm, _⟩ => SqT.of (sm _ _ ha)) ?_ ?_
  · rintro i x H' hx ⟨R, acc, sm, lf, hl, hlen, hok, hdep⟩
    have hi : i < xs.length := (List.getElem?_eq_some_iff.mp hx).1
    rcases lf.next hx with ⟨nm, t, r, b, rfl, rfl, hb, lf2⟩ | ⟨kk, bd, r, b, c, rfl, rfl, hb, hc, lf2⟩
    · have hb' := sm _ _ hb
      refine ⟨rfl, _, rfl, b, _, _, _, rfl, rfl, SqT.of hb', at0, rfl, _, rfl, ?_⟩
      refine ite2 (fun e => absurd (of_decide_eq_true e).symm line_loop) (fun _ => ?_)
      exact ⟨r, acc, sm, lf2, hl, by omega, hok.2, hdep⟩
    · have hb' := sm _ _ hb
      have hdd : max (bd.dep + 1) r.dep ≤ n := hdep
      obtain ⟨m, rfl⟩ : ∃ m, n = m + 1 := ⟨n - 1, by omega⟩
      have esp := hsp m rfl
      subst esp
      obtain ⟨hk, hbo, _, hbw, hro⟩ := hok
      refine ⟨rfl, _, rfl, b, _, _, _, rfl, rfl, SqT.of hb', at0, rfl, _, rfl, ?_⟩
      refine ite2 (fun _ => ?_) (fun e => absurd (decide_eq_true rfl) e)
      refine ⟨_, rfl, b, _, _, _, rfl, rfl, SqT.of hb', at2, c, bd, rfl, hc.same sm, hbo, by omega, by omega, fun H2 z s2 => ?_⟩
      refine ⟨_, s2 _ _ hl, by rw [List.length_map]; exact lt_line (by omega), r, acc ++ [z], fun b o e => ?_, lf2, ?_, ?_, hro, by omega⟩
      · rw [upd_ne (ne_of_none e hL)]
        exact s2 _ _ (sm _ _ e)
      · rw [upd_same, List.map_append]; rfl
      · rw [List.length_append, List.length_singleton]; omega
  · rintro H' ⟨R, acc, sm, lf, hl, hlen, hok, hdep⟩
    exact ⟨L, acc, rfl, SqL.of hl, _, _, rfl, rfl, q H' _ sm⟩
theorem many_all {f : Addr} {fd : FuncData} (T : Txt mg) (D : Def K mg "_law_many" sMany ["_law_items_here"] f fd) : ∀ n : Nat, FnOk P w K mg base CX0 (n + 1) f fd ["_law_items_here"] (spMany n)
  | 0 => ok_many (k := 0) T D ⟨fun _ _ _ _ => False, no_calls fun _ _ _ _ h => h, fun m h => absurd h (Nat.succ_ne_zero m)⟩
  | n + 1 => ok_many T D ⟨spMany n, many_all T D n, fun m h => by rw [Nat.succ.inj h]⟩
end
end Ev
/-! EvL8: _law_folded, _law_by_name. -/
namespace Ev
open PySem PySem.Spec PyProof.Rows L2
/-- t[i::m] of three names: what it holds, be it the same tuple or a new one -/
def tStepV (K : PySem.W.Frag) (a b c : Nat) : TE := fun σ H Q => ∃ (t : Addr) (xs : List V) (i m k : Nat), σ[a]? = some (some (.ref t)) ∧ σ[b]? = some (some (.int (i : Nat))) ∧ σ[c]? = some (some (.int (m : Nat))) ∧ H t = some (.tup xs) ∧ i < m ∧ 0 < k ∧ xs.length = m * k ∧
  ∀ (o : Addr) (H' : Hp), Same H H' → H' o = some (.tup (stepV xs i m k)) → Q (.ref o) H'
theorem stepV_one (xs : List V) : stepV xs 0 1 xs.length = xs := by
  rw [stepV_get (by decide) (by omega)]
  refine List.ext_getElem (by simp) fun j h1 h2 => ?_
  simp at h1
  simp [List.getD_eq_getElem?_getD, h1]
theorem pe_stepV {X : Cx} {e lo st : Expr} {p2 pos : Pos} {a b c : Nat} (he : PE X e (tVar a)) (hl : PE X lo (tVar b)) (hst : PE X st (tVar c)) : PE X (.Subscript e (.Slice (some lo) none (some st) p2) pos) (tStepV X.K a b c) := by
  refine ⟨fun pins s σ H Q I h => (pe_step he hl hst).run pins s σ H Q I ?_⟩
  obtain ⟨t, xs, i, m, k, h1, h2, h3, h4, h5, h6, h7, q⟩ := h
  refine ⟨_, h1, _, h2, _, h3, t, xs, i, m, k, rfl, rfl, rfl, SqT.of h4, h5, h6, h7, fun e => ?_, fun _ p hp => q p _ (same_new hp _) upd_same⟩
  subst e
  have hi : i = 0 := by omega
  have hk : k = xs.length := by omega
  subst hi hk
  exact q t H (Same.refl H) (by rw [stepV_one]; exact h4)
theorem pw_fold {f : Int → Int} {m : Int} {c : Int} : ∀ k : Nat, ((List.range k).map fun (j : Nat) => f (c + j * m)).sum = pw (-m) f k c
  | 0 => rfl
  | k + 1 => by
    rw [List.range_succ, List.map_append, List.sum_append, pw_fold k]
    show _ + (f (c + k * m) + 0) = pw (-m) f k c + f (c - k * -m)
    rw [Int.mul_neg, Int.sub_neg, Int.add_zero]
section
variable {P : Program} {w : World} {K : PySem.W.Frag} {mg : Str → Option Value} {base : Heap}
theorem scFolded : FnScope ["_law_table", "_law_modulus", "_law_found", "_law_spot", "_law_own", "_law_at", "_law_row"] ["_law_table", "_law_modulus"] (defScope sFolded) := ⟨rfl, rfl, rfl, by decide +kernel, rfl, by decide +kernel, by decide +kernel⟩
theorem scByName : FnScope ["_law_program", "_law_modulus", "_law_names_here", "_law_table", "_law_at", "_law_name", "_law_row"] ["_law_program", "_law_modulus"] (defScope sByName) := ⟨rfl, rfl, rfl, by decide +kernel, rfl, by decide +kernel, by decide +kernel⟩
def spFolded : Sp := fun vs H Q _ => ∃ (t : Addr) (ns : List Str) (m k : Nat) (F : Str → Int → Int), vs = [.ref t, .int m] ∧ TabAt H t ns (m * k) F ∧ ns.length ≤ 100 ∧ 1 ≤ m ∧ 1 ≤ k ∧ m * k ≤ 1000 ∧
  ∀ (H' : Hp) (u : Addr), Same H H' → TabAt H' u ns m (fun x c => pw (-(m : Int)) (F x) k c) → Q (.ref u) H'
theorem ok_folded {k0 : Nat} {f : Addr} {fd : FuncData} (T : Txt mg) (D : Def K mg "_law_folded" sFolded ["_law_table", "_law_modulus"] f fd) : FnOk P w K mg base CX0 (k0 + 1) f fd ["_law_table", "_law_modulus"] spFolded := by
  refine D.fn.ok scFolded (fun vs H Q E h => ?_) (fun cdv A outer s H vs Q E hr h => ?_)
  · obtain ⟨t, ns, m, k, F, rfl, _⟩ := h
    rfl
  obtain ⟨t, ns, m, k, F, rfl, ⟨r, ht, hrw⟩, hns, hm1, hk1, hmk, q⟩ := h
  have hk' : k ≤ m * k := Nat.le_mul_of_pos_left k (by omega)
  have hm' : m ≤ m * k := Nat.le_mul_of_pos_right m (by omega)
  refine ⟨_, pss_cons (ps_set (i := 2) scFolded.nd rfl (.inl rfl) (pe_lst pa_nil))
    (pss_cons (ps_for PassesOwn.never rfl (pi_range1 rfl T.range (pa_cons (pv 1) pa_nil)) (pg_name (i := 3) scFolded.nd rfl (.inl rfl))
      (pss_cons (ps_set (i := 4) scFolded.nd rfl (.inr rfl) (pe_stepV (pv 0) (pv 3) (pv 1)))
      (pss_one (ps_expr (pe_bm PySem.F.plainAttrs_list PySem.F.slot_list_append PySem.F.type_list_append mt_append (pv 2) (pa_cons (pe_callTy call_tuple_of rfl T.tuple (by decide +kernel) (pa_cons
        (pe_lc (own := [("_law_at", 5)]) (g := gName 5) rfl scFolded.nd (pi_range1 rfl T.range (pa_cons (pe_callB call_len_seq rfl T.len PySem.boot_len (pa_cons (pe_ix ix_tup (pv 0) pe_int (fun _ _ => rfl)) pa_nil)) pa_nil)) (blkOk_by (N := ["_law_table", "_law_modulus", "_law_found", "_law_spot", "_law_own", "_law_at", "_law_row"]) (sc := defScope sFolded) (by decide +kernel))
          (fun _ _ _ _ _ => pg_name (i := 5) scFolded.nd rfl (Or.inr rfl)) (fun _ _ _ _ _ => pts_nil)
          (fun s1 _ C cl _ => pe_callB (r := rSum K) (cr_sum rfl) (by rfl) T.sum (by decide +kernel) (pa_cons
            (pe_lc (own := [("_law_row", 6)]) (wi := iTup K (tVar 4)) (g := gName 6) rfl scFolded.nd (pi_tup (pv 4)) (blkOk_by (N := ["_law_table", "_law_modulus", "_law_found", "_law_spot", "_law_own", "_law_at", "_law_row"]) (by with_unfolding_all rfl))
              (fun _ _ _ _ _ => pg_name (i := 6) scFolded.nd rfl (Or.inl rfl)) (fun _ _ _ _ _ => pts_nil)
              (fun _ _ _ _ _ => pe_ix (r := rIxT K) ix_tup (pv 6) (pv 5) (fun _ _ => rfl))) pa_nil))) pa_nil)) pa_nil))))))
    (pss_one (ps_ret (pe_callTy call_tuple_of rfl T.tuple (by decide +kernel) (pa_cons (pv 2) pa_nil))))), ?_⟩
  refine ⟨Nat.zero_le _, fun fl hfl => ?_⟩
  have s1 := same_new hfl (.lst [])
  refine ⟨_, rfl, (m : Int), rfl, by omega, by omega, ?_⟩
  refine for_range (lo := 0) (n := ((m : Int)).toNat) (fun i σ H' => ∃ (g : Nat → Addr) (v3 v4 : Option V), σ = [some (.ref t), some (.int m), some (.ref fl), v3, v4, none, none] ∧ Same H H' ∧ H' fl = some (.lst ((List.range i).map fun c => V.ref (g c))) ∧
      ∀ c, c < i → H' (g c) = some (.tup (ns.map fun x => V.int (pw (-(m : Int)) (F x) k (c : Int)))))
    ⟨fun _ => 0, none, none, rfl, s1, upd_same, fun c hc => absurd hc (Nat.not_lt_zero c)⟩ ?_ ?_
  · rintro i σ H2 hi ⟨g, v3, v4, rfl, sm, h4, h5⟩
    have him : i < m := by omega
    have ht2 := sm _ _ ht
    refine ⟨t, _, i, m, k, rfl, by rw [Int.zero_add]; rfl, rfl, ht2, him, by omega, by rw [List.length_map, List.length_range], fun o H3 s3 ho3 => ?_⟩
    rw [stepV_get him (by rw [List.length_map, List.length_range])] at ho3
    have h43 := s3 _ _ h4
    refine ⟨_, rfl, .inl ⟨rfl, _, SqL.of h43⟩, ?_⟩
    have sm3 := sm.trans s3
    have ht3 := sm3 _ _ ht
    have hpos : 0 < m * k := Nat.mul_pos hm1 hk1
    have hat : atI ((List.range (m * k)).map fun c => V.ref (r c)) 0 = some (V.ref (r 0)) := atI_nat (j := 0) (by rw [List.getElem?_map, List.getElem?_range hpos]; rfl)
    refine ⟨_, rfl, t, _, _, _, rfl, rfl, SqT.of ht3, hat, r 0, _, rfl, .inr (SqT.of (sm3 _ _ (hrw 0 hpos))), ?_⟩
    refine ⟨_, rfl, by omega, by rw [List.length_map]; omega, fun l hl => ?_⟩
    rw [List.length_map]
    refine lc_range (lo := 0) (n := ((ns.length : Nat) : Int).toNat) (fun j H' => Same H3 H' ∧ H' l = some (.lst ((ns.take j).map fun x => V.int (pw (-(m : Int)) (F x) k (i : Int))))) ⟨same_new hl _, upd_same⟩ ?_ ?_
    · rintro j H4 hj ⟨s4, h6⟩
      have hj' : j < ns.length := by omega
      have ex : ns[j]? = some ns[j] := List.getElem?_eq_getElem hj'
      refine ⟨rfl, lc_yes ?_⟩
      refine ⟨_, rfl, o, rfl, ⟨_, SqT.of (s4 _ _ ho3)⟩, fun l2 hl2 => ?_⟩
      refine lc_tup (K := K) (a := o) (xs := (List.range k).map fun j => ((List.range (m * k)).map fun c => V.ref (r c)).getD (i + j * m) .non) (fun z H' => Same H4 H' ∧ H' l2 = some (.lst (((List.range z).map fun (b : Nat) => F ns[j] ((i : Int) + b * m)).map V.int))) ⟨same_new hl2 _, upd_same⟩ (fun z H' _ ⟨s5, _⟩ => SqT.of (s5 _ _ (s4 _ _ ho3))) ?_ ?_
      · rintro z y H5 hy ⟨s5, h7⟩
        have hz : z < k := by
          have q1 := (List.getElem?_eq_some_iff.mp hy).1
          rw [List.length_map, List.length_range] at q1
          exact q1
        have hlt : i + z * m < m * k := by
          have q1 : (z + 1) * m ≤ k * m := Nat.mul_le_mul_right m hz
          rw [Nat.add_mul, Nat.mul_comm k m] at q1
          omega
        have ey : y = V.ref (r (i + z * m)) := by
          rw [List.getElem?_map, List.getElem?_range hz] at hy
          have q1 := Option.some.inj hy
          rw [← q1]
          show ((List.range (m * k)).map fun c => V.ref (r c)).getD (i + z * m) V.non = _
          rw [List.getD_eq_getElem?_getD, List.getElem?_map, List.getElem?_range hlt]
          rfl
        subst ey
        refine ⟨rfl, lc_yes ?_⟩
        have hrow := s5 _ _ (s4 _ _ (sm3 _ _ (hrw _ hlt)))
        refine ⟨_, rfl, _, rfl, _, _, _, _, rfl, rfl, SqT.of hrow, at_of (j := j) (by omega) (by rw [List.getElem?_map, ex]; rfl), _, h7, ?_, fun c o' hc => ?_, ?_⟩
        · rw [List.length_map, List.length_map, List.length_range]
          exact lt_line (by omega)
        · rw [upd_ne (ne_of_none hc hl2)]
          exact s5 _ _ hc
        · rw [upd_same, List.range_succ, List.map_append, List.map_append]
          have e1 : ((i + z * m : Nat) : Int) = (i : Int) + z * m := by rw [Int.natCast_add, Int.natCast_mul]
          rw [e1]
          rfl
      · rintro H5 ⟨s5, h7⟩
        rw [List.length_map, List.length_range] at h7
        refine ⟨l2, _, rfl, SqL.of h7, ?_⟩
        rw [pw_fold]
        refine ⟨_, s5 _ _ h6, ?_, fun c o' hc => ?_, ?_⟩
        · rw [List.length_map, List.length_take]
          exact lt_line (by omega)
        · rw [upd_ne (ne_of_none hc hl)]
          exact s5 _ _ (s4 _ _ hc)
        · rw [upd_same, take_next' ex, List.map_append]
          rfl
    · rintro H4 ⟨s4, h6⟩
      rw [Int.toNat_natCast, List.take_length] at h6
      refine ⟨l, _, rfl, .inl ⟨SqL.of h6, fun u hu => ?_⟩⟩
      have s5 := same_new hu (.tup (ns.map fun x => V.int (pw (-(m : Int)) (F x) k (i : Int))))
      have s45 := s4.trans s5
      have hfl5 := s45 _ _ h43
      refine ⟨fl, _, _, rfl, rfl, hfl5, ?_, ?_⟩
      · rw [List.length_map, List.length_range]
        exact lt_line (by omega)
      have huf : fl ≠ u := ne_of_none (s4 _ _ h43) hu
      refine ⟨fun c => if c = i then u else g c, _, _, rfl, fun c o' hc => ?_, ?_, fun c hc => ?_⟩
      · rw [upd_ne (ne_of_none hc hfl)]
        exact s45 _ _ (sm3 _ _ hc)
      · rw [upd_same, List.range_succ, List.map_append]
        refine congrArg (fun l => some (HO.lst l)) ?_
        have e1 : ((List.range i).map fun c => V.ref (if c = i then u else g c)) = (List.range i).map fun c => V.ref (g c) := by
          refine List.map_congr_left fun c hc => ?_
          have := List.mem_range.mp hc
          rw [if_neg (by omega)]
        rw [e1]
        show _ ++ [V.ref u] = _ ++ [V.ref (if i = i then u else g i)]
        rw [if_pos rfl]
      · show (upd _ fl _) (if c = i then u else g c) = _
        by_cases e : c = i
        · rw [if_pos e, upd_ne (Ne.symm huf), upd_same, e]
        · have h7 := s3 _ _ (h5 c (by omega))
          rw [if_neg e, upd_ne (ne_of h7 h43 (fun z => by cases z))]
          exact s45 _ _ h7
  · rintro σ H2 ⟨g, v3, v4, rfl, sm, h4, h5⟩
    rw [Int.toNat_natCast] at h4 h5
    refine ⟨_, rfl, fl, _, rfl, .inl ⟨SqL.of h4, fun u hu => ?_⟩⟩
    have s5 := same_new hu (.tup ((List.range m).map fun c => V.ref (g c)))
    exact q _ u (sm.trans s5) ⟨g, upd_same, fun c hc => s5 _ _ (h5 c hc)⟩
theorem merge_names (f : Str → V) (ks : List Str) (h : ks.Nodup) : mergeK [] (ks.map fun x => ((Sum.inr x : L2.Key), f x)) = ks.map fun x => ((Sum.inr x : L2.Key), f x) := by
  have go : ∀ (js hs : List Str), (hs ++ js).Nodup → mergeK (hs.map fun x => ((Sum.inr x : L2.Key), f x)) (js.map fun x => ((Sum.inr x : L2.Key), f x)) = (hs ++ js).map fun x => ((Sum.inr x : L2.Key), f x) := by
    intro js
    induction js with
    | nil => intro hs _; rw [List.append_nil]; rfl
    | cons j js ih =>
      intro hs hn
      have hj : j ∉ hs := fun z => by
        have q := List.nodup_append.mp hn
        exact q.2.2 j z j List.mem_cons_self rfl
      show mergeK (putK (hs.map fun x => ((Sum.inr x : L2.Key), f x)) (Sum.inr j) (f j)) (js.map fun x => ((Sum.inr x : L2.Key), f x)) = _
      have e1 : putK (hs.map fun x => ((Sum.inr x : L2.Key), f x)) (Sum.inr j) (f j) = (hs ++ [j]).map fun x => ((Sum.inr x : L2.Key), f x) := by
        rw [put_map, put_new hj]
        refine List.map_congr_left fun x _ => ?_
        by_cases e : x = j
        · rw [if_pos e, e]
        · rw [if_neg e]
      rw [e1, ih (hs ++ [j]) (by rw [List.append_assoc]; exact hn), List.append_assoc]
      rfl
  exact go ks [] h
def spByName : Sp := fun vs H Q _ => ∃ (a : Addr) (p : Pg) (m : Nat), vs = [.ref a, .int m] ∧ PgAt H a p ∧ InPool p ∧ p.ok ∧ p.dep ≤ 5 ∧ 1 ≤ m ∧ m ≤ 1000 ∧
  ∀ (H' : Hp) (d : Addr), Same H H' → DictAt H' d p.lines m (fun x c => p.cl m x c) → Q (.ref d) H'
theorem ok_byName {f b i : Addr} {fd bd id' : FuncData} (T : Txt mg) (D : Def K mg "_law_by_name" sByName ["_law_program", "_law_modulus"] f fd) (DB : Def K mg "class_table" sTable ["program", "modulus"] b bd) (GB : FnOk P w K mg base CX0 9 b bd ["program", "modulus"] spTable)
    (DI : Def K mg "lines_of" sLines ["program"] i id') (GI : FnOk P w K mg base CX0 7 i id' ["program"] spLines) : FnOk P w K mg base CX0 10 f fd ["_law_program", "_law_modulus"] spByName := by
  refine D.fn.ok scByName (fun vs H Q E h => ?_) (fun cdv A outer s H vs Q E hr h => ?_)
  · obtain ⟨a, p, m, rfl, _⟩ := h
    rfl
  obtain ⟨a, p, m, rfl, ha, hp, hok, hd, h1, h2, q⟩ := h
  have hr7 : Room 7 _ := hr.mono (by decide)
  refine ⟨_, pss_cons (ps_asg (pe_tup (pa_cons (pe_call GI hr7 rfl DI.mg DI.kp DI.bi .nil pass0 (pa_cons (pv 0) pa_nil)) (pa_cons (pe_call GB hr rfl DB.mg DB.kp DB.bi .nil pass0 (pa_cons (pv 0) (pa_cons (pv 1) pa_nil))) pa_nil)))
      (pg_tup rfl (pgs_cons (pg_name (i := 2) scByName.nd rfl (.inl rfl)) (pgs_cons (pg_name (i := 3) scByName.nd rfl (.inr rfl)) pgs_nil))))
    (pss_one (ps_ret (pe_callTy (call_dictP rfl) rfl T.dict (by decide +kernel) (pa_cons
      (pe_lc (own := [("_law_at", 4), ("_law_name", 5)]) (g := gTup K 2 (gCons (gName 4) (gCons (gName 5) gNil))) rfl scByName.nd (pi_enumT rfl T.enumerate (pa_cons (pv 2) pa_nil)) (blkOk_by (N := ["_law_program", "_law_modulus", "_law_names_here", "_law_table", "_law_at", "_law_name", "_law_row"]) (sc := defScope sByName) (by decide +kernel))
        (fun _ _ _ _ _ => pg_tup rfl (pgs_cons (pg_name (i := 4) scByName.nd rfl (Or.inr rfl)) (pgs_cons (pg_name (i := 5) scByName.nd rfl (Or.inl rfl)) pgs_nil))) (fun _ _ _ _ _ => pts_nil)
        (fun s1 _ C cl _ => pe_tup (pa_cons (pv 5) (pa_cons
          (pe_lc (own := [("_law_row", 6)]) (wi := iTup K (tVar 3)) (g := gName 6) rfl scByName.nd (pi_tup (pv 3)) (blkOk_by (N := ["_law_program", "_law_modulus", "_law_names_here", "_law_table", "_law_at", "_law_name", "_law_row"]) (by with_unfolding_all rfl))
            (fun _ _ _ _ _ => pg_name (i := 6) scByName.nd rfl (Or.inl rfl)) (fun _ _ _ _ _ => pts_nil)
            (fun _ _ _ _ _ => pe_ix (r := rIxT K) ix_tup (pv 6) (pv 4) (fun _ _ => rfl))) pa_nil)))) pa_nil)))), ?_⟩
  refine ⟨_, rfl, a, p, rfl, ha, hp, hd, fun H1 tn s1 hn0 hn => ?_⟩
  have hN : NmOk p.lines m := ⟨lines_nd p, by have := lines_few hp; omega, h1, h2⟩
  refine ⟨_, rfl, _, rfl, a, p, m, rfl, ha.same s1, hp, hok, hd, h1, h2, fun H2 t s2 hT => ⟨small64' (n := 2) (by omega), fun u hu => ?_⟩⟩
  have s3 := same_new hu (.tup [V.ref tn, V.ref t])
  refine ⟨u, _, rfl, SqT.of upd_same, rfl, _, _, rfl, _, _, rfl, rfl, ?_⟩
  obtain ⟨r, ht, hrw⟩ := hT.same s3
  have hn3 := s3 _ _ (s2 _ _ hn)
  have hs3 := s1.trans (s2.trans s3)
  generalize upd H2 u (.tup [V.ref tn, V.ref t]) = H3 at ht hrw hn3 hs3
  refine ⟨_, rfl, tn, _, rfl, SqT.of hn3, fun l hl => ?_⟩
  refine lc_it walk_enumT (fun j H' => ∃ (ps : List Addr) (g : Str → Addr), Same H3 H' ∧ H' l = some (.lst (ps.map V.ref)) ∧ Paired (fun p' kv => SqT K H' p' [kV kv.1, kv.2]) ps ((p.lines.take j).map fun x => ((Sum.inr x : L2.Key), V.ref (g x))) ∧
      ∀ x ∈ p.lines.take j, g x ≠ l ∧ H' (g x) = some (.lst (rowL m fun c => p.cl m x c)))
    ⟨[], fun _ => 0, same_new hl _, upd_same, .nil, fun x hx => by simp at hx⟩ (fun j H' _ ⟨_, _, s4, _⟩ => SqT.of (s4 _ _ hn3)) ?_ ?_
  · rintro j x H4 H5 hj ⟨ps, g, s4, h6, hps, hg⟩ ⟨u2, y, z, rfl, hu2, rfl, hy, hz⟩
    have hj' : j < p.lines.length := by rw [List.length_map] at hj; exact hj
    have ex : p.lines[j]? = some p.lines[j] := List.getElem?_eq_getElem hj'
    have ey : y = V.int (j : Nat) := (Option.some.inj hy).symm
    have ez : z = V.str p.lines[j] := by
      have q1 : (p.lines.map V.str)[j]? = some z := hz
      rw [List.getElem?_map, ex] at q1
      exact (Option.some.inj q1).symm
    subst ey ez
    have s5 := same_new hu2 (.tup [V.int (j : Nat), V.str p.lines[j]])
    refine ⟨u2, _, rfl, SqT.of upd_same, rfl, _, _, rfl, _, _, rfl, rfl, rfl, lc_yes ?_⟩
    have ht5 := s5 _ _ (s4 _ _ ht)
    have hl5 := s5 _ _ h6
    have hno := not_before (lines_nd p) ex
    refine ⟨_, rfl, _, rfl, t, rfl, ⟨_, SqT.of ht5⟩, fun l2 hl2 => ?_⟩
    refine lc_tup (K := K) (a := t) (xs := (List.range m).map fun c => V.ref (r c)) (fun z H' => Same (upd H4 u2 (.tup [V.int (j : Nat), V.str p.lines[j]])) H' ∧ H' l2 = some (.lst (rowL z fun c => p.cl m p.lines[j] c))) ⟨same_new hl2 _, upd_same⟩ (fun z H' _ ⟨s6, _⟩ => SqT.of (s6 _ _ ht5)) ?_ ?_
    · rintro z y H6 hy ⟨s6, h7⟩
      have hz : z < m := by
        have q1 := (List.getElem?_eq_some_iff.mp hy).1
        rw [List.length_map, List.length_range] at q1
        exact q1
      have ey : y = V.ref (r z) := by
        rw [List.getElem?_map, List.getElem?_range hz] at hy
        exact (Option.some.inj hy).symm
      subst ey
      refine ⟨rfl, lc_yes ?_⟩
      have hrow := s6 _ _ (s5 _ _ (s4 _ _ (hrw _ hz)))
      refine ⟨_, rfl, _, rfl, _, _, _, _, rfl, rfl, SqT.of hrow, at_of (j := j) (by omega) (by rw [List.getElem?_map, ex]; rfl), _, h7, ?_, fun c o' hc => ?_, ?_⟩
      · rw [rowL_len]
        exact lt_line (by omega)
      · rw [upd_ne (ne_of_none hc hl2)]
        exact s6 _ _ hc
      · rw [upd_same, rowL_snoc]
    · rintro H6 ⟨s6, h7⟩
      rw [List.length_map, List.length_range] at h7
      refine ⟨small64' (n := 2) (by omega), fun u3 hu3 => ?_⟩
      have s7 := same_new hu3 (.tup [V.str p.lines[j], V.ref l2])
      have hl6 := s7 _ _ (s6 _ _ hl5)
      have s57 := s5.trans (s6.trans s7)
      refine ⟨_, hl6, ?_, ps ++ [u3], fun x => if x = p.lines[j] then l2 else g x, fun c o hc => ?_, ?_, ?_, fun x hx => ?_⟩
      · have e := hps.length
        rw [List.length_map, List.length_take] at e
        rw [List.length_map]
        have := hN.few
        exact lt_line (by omega)
      · rw [upd_ne (ne_of_none hc hl)]
        exact s57 _ _ (s4 _ _ hc)
      · rw [upd_same, List.map_append]; rfl
      · rw [take_next' ex, List.map_append]
        have hne : ∀ c o, upd H6 u3 (.tup [V.str p.lines[j], V.ref l2]) c = some o → (∀ ys, o ≠ .lst ys) → (upd (upd H6 u3 (.tup [V.str p.lines[j], V.ref l2])) l (.lst (ps.map V.ref ++ [V.ref u3]))) c = some o := fun c o hc hno => by
          rw [upd_ne fun e => hno _ (by rw [e, hl6] at hc; exact (Option.some.inj hc).symm)]
          exact hc
        have e1 : ((p.lines.take j).map fun x => ((Sum.inr x : L2.Key), V.ref (if x = p.lines[j] then l2 else g x))) = (p.lines.take j).map fun x => ((Sum.inr x : L2.Key), V.ref (g x)) := by
          refine List.map_congr_left fun x hx => ?_
          rw [if_neg (fun e : x = p.lines[j] => hno (by rw [← e]; exact hx))]
        rw [e1]
        refine Paired.snoc (Paired.mapP hps fun p' kv hs => ?_) ?_
        · have hs2 := sqT_same s57 hs
          rcases hs2 with (hs2 | ⟨o, hs2⟩) | hs2
          · exact .inl (.inl (hne _ _ hs2 fun ys z => by cases z))
          · exact .inl (.inr ⟨o, hne _ _ hs2 fun ys z => by cases z⟩)
          · exact .inr hs2
        · show SqT K _ u3 [V.str p.lines[j], V.ref (if p.lines[j] = p.lines[j] then l2 else g p.lines[j])]
          rw [if_pos rfl]
          exact SqT.of (hne _ _ upd_same fun ys z => by cases z)
      · rw [take_next' ex] at hx
        have hll2 : l2 ≠ l := fun e => by rw [e, hl5] at hl2; cases hl2
        by_cases e : x = p.lines[j]
        · show (if x = p.lines[j] then l2 else g x) ≠ l ∧ (upd _ l _) (if x = p.lines[j] then l2 else g x) = _
          rw [if_pos e, upd_ne hll2, e]
          exact ⟨hll2, s7 _ _ h7⟩
        · have hx' : x ∈ p.lines.take j := by
            rcases List.mem_append.mp hx with z | z
            · exact z
            · exact absurd (List.mem_singleton.mp z) e
          obtain ⟨hgl, h8⟩ := hg x hx'
          show (if x = p.lines[j] then l2 else g x) ≠ l ∧ (upd _ l _) (if x = p.lines[j] then l2 else g x) = _
          rw [if_neg e, upd_ne hgl]
          exact ⟨hgl, s57 _ _ h8⟩
  · rintro H4 ⟨ps, g, s4, h6, hps, hg⟩
    rw [List.length_map, List.take_length] at hps hg
    refine ⟨l, ps, _, rfl, SqL.of h6, hps, fun d hd => ?_⟩
    rw [merge_names (fun x => V.ref (g x)) p.lines (lines_nd p)]
    have s5 := same_new hd (.dK (p.lines.map fun x => ((Sum.inr x : L2.Key), V.ref (g x))))
    exact q _ d (hs3.trans (s4.trans s5)) ⟨g, upd_same, fun x hx => s5 _ _ (hg x hx).2⟩
end
end Ev
/-! EvS1: a set's table of up to 512 slots: a free slot is met, a new table is laid. -/
namespace Ev
open PySem PySem.Spec PyProof.Rows L2
/-- the slots met from x on, as the bits of a number -/
def orb (m : Nat) : Nat → Nat → Nat → Nat
  | 0, _, acc => acc
  | n + 1, x, acc => orb m n ((x * 5 + 1) % (m + 1)) (acc ||| 2 ^ x)
theorem lcg_shift (m x : Nat) : ∀ k, lcgI m ((x * 5 + 1) % (m + 1)) k = lcgI m x (k + 1)
  | 0 => rfl
  | k + 1 => by
    show (lcgI m ((x * 5 + 1) % (m + 1)) k * 5 + 1) % (m + 1) = (lcgI m x (k + 1) * 5 + 1) % (m + 1)
    rw [lcg_shift m x k]
theorem orb_bit (m j : Nat) : ∀ (n x acc : Nat), (orb m n x acc).testBit j = true → acc.testBit j = true ∨ ∃ b, b < n ∧ lcgI m x b = j
  | 0, _, _, h => .inl h
  | n + 1, x, acc, h => by
    rcases orb_bit m j n ((x * 5 + 1) % (m + 1)) (acc ||| 2 ^ x) h with z | ⟨b, hb, e⟩
    · rw [Nat.testBit_or, Nat.testBit_two_pow, Bool.or_eq_true, decide_eq_true_eq] at z
      rcases z with z | z
      · exact .inl z
      · exact .inr ⟨0, Nat.succ_pos n, z⟩
    · exact .inr ⟨b + 1, Nat.succ_lt_succ hb, by rw [← lcg_shift]; exact e⟩
/-- the masks of tables of up to 512 slots -/
def MG (m : Nat) : Prop := m = 7 ∨ m = 31 ∨ m = 127 ∨ m = 511
theorem orb_full : ((List.range 512).all fun i => orb 511 512 i 0 == 2 ^ 512 - 1) = true := by decide +kernel
theorem orb7 : ((List.range 8).all fun i => orb 7 8 i 0 == 2 ^ 8 - 1) = true := by decide +kernel
theorem orb31 : ((List.range 32).all fun i => orb 31 32 i 0 == 2 ^ 32 - 1) = true := by decide +kernel
theorem orb127 : ((List.range 128).all fun i => orb 127 128 i 0 == 2 ^ 128 - 1) = true := by decide +kernel
theorem reach_of {m : Nat} (h : ((List.range (m + 1)).all fun i => orb m (m + 1) i 0 == 2 ^ (m + 1) - 1) = true) {i j : Nat} (hi : i ≤ m) (hj : j ≤ m) : ∃ b, b ≤ m ∧ lcgI m i b = j := by
  have q := eq_of_beq (List.all_eq_true.mp h i (List.mem_range.mpr (Nat.lt_succ_of_le hi)))
  have z : (orb m (m + 1) i 0).testBit j = true := by
    rw [q, Nat.testBit_two_pow_sub_one]
    exact decide_eq_true (Nat.lt_succ_of_le hj)
  rcases orb_bit m j (m + 1) i 0 z with y | ⟨b, hb, e⟩
  · rw [Nat.zero_testBit] at y
    cases y
  · exact ⟨b, Nat.le_of_lt_succ hb, e⟩
theorem reach {m : Nat} (hm : MG m) {i j : Nat} (hi : i ≤ m) (hj : j ≤ m) : ∃ b, b ≤ m ∧ lcgI m i b = j := by
  unfold MG at hm
  rcases hm with e | e | e | e
  · subst e; exact reach_of orb7 hi hj
  · subst e; exact reach_of orb31 hi hj
  · subst e; exact reach_of orb127 hi hj
  · subst e; exact reach_of orb_full hi hj
theorem meets {m : Nat} (hm : MG m) (h : Int) {j : Nat} (hj : j ≤ m) : ∃ n, n ≤ m + 12 ∧ runI m (SetTable.bits h) n = j := by
  obtain ⟨b, hb, e⟩ := reach hm (runI_le m (SetTable.bits h) 12) hj
  refine ⟨12 + b, by omega, ?_⟩
  rw [runI_tail (bits_lt h)]
  exact e
theorem way_in (m : Nat) (h : Int) (k : Nat) : way m h k ≤ m := by
  have hi : SetTable.bits h % (m + 1) < m + 1 := Nat.mod_lt _ (Nat.succ_pos m)
  have r := runEnd_bd (Nat.le_of_lt_succ hi)
  have q := nth_in k (runAt m (SetTable.bits h % (m + 1)) (SetTable.bits h)) (show SetTable.bits h % (m + 1) + (SetTable.runEnd m (SetTable.bits h % (m + 1)) - SetTable.bits h % (m + 1)) ≤ m by omega)
  exact Nat.le_trans (Nat.le_add_right _ _) q
theorem way_off {m : Nat} (h : Int) (n : Nat) : way m h (off m (SetTable.bits h % (m + 1)) (SetTable.bits h) n) = runI m (SetTable.bits h) n := by
  show (nth m (runAt m (SetTable.bits h % (m + 1)) (SetTable.bits h)) (off m (SetTable.bits h % (m + 1)) (SetTable.bits h) n)).j = _
  rw [nth_off, itL_run]
  rfl
/-- the table of a set of n, as far as it is needed here -/
structure Tb (t : SetTable) (n : Nat) : Prop where
  ris : Ris t.place.toList
  dm : t.dummies = #[]
  sz : t.place.size = n
  mg : MG t.mask
  bd : ∀ x ∈ t.place.toList, x ≤ t.mask
/-- the way's first gap -/
theorem Tb.gap {t : SetTable} {n : Nat} (T : Tb t n) (hn : n ≤ t.mask) (h : Int) : ∃ K, K < 10 * SetTable.turns t.mask ∧ way t.mask h K ∉ t.place.toList ∧ ∀ c, c < K → way t.mask h c ∈ t.place.toList := by
  obtain ⟨j, hj, hno⟩ := st_missing t.place.toList (t.mask + 1) (by rw [Array.length_toList, T.sz]; omega)
  obtain ⟨r, hr, er⟩ := meets T.mg h (Nat.le_of_lt_succ hj)
  obtain ⟨k, hk, ek⟩ := run_nth t.mask (SetTable.bits h) r
  have ew : way t.mask h k = j := (congrArg SetTable.Probe.j ek).trans er
  obtain ⟨K, a1, a2, a3⟩ := st_least (p := fun c => way t.mask h c ∉ t.place.toList) k (fun z => hno (by rw [← ew]; exact z))
  refine ⟨K, ?_, a2, fun c hc => Classical.byContradiction fun z => a3 c hc z⟩
  have e2 : SetTable.turns t.mask = t.mask + 15 := rfl
  omega
/-- one is put in -/
theorem Tb.put {t : SetTable} {n : Nat} (T : Tb t n) {j : Nat} (hj : j ≤ t.mask) (hno : j ∉ t.place.toList) :
    Tb (t.put j).1 (n + 1) ∧ (t.put j).1.mask = t.mask ∧ (t.put j).1.plain = t.plain ∧ (t.put j).1.fill = n + 1 ∧ (t.put j).2 ≤ n ∧ (n = 0 → (t.put j).1.place = #[j]) := by
  obtain ⟨c1, _, _⟩ := below_cut T.ris j
  have c2 : SetTable.below t.place j ≤ t.place.toList.length := by rw [Array.length_toList]; exact c1
  have pl := put_place t j
  have hsz : (t.put j).1.place.size = n + 1 := by
    rw [← Array.length_toList, pl, len_ins _ c2, Array.length_toList, T.sz]
  have hd := put_dm T.dm j
  refine ⟨⟨?_, hd, hsz, T.mg, fun x hx => ?_⟩, rfl, rfl, ?_, by rw [← T.sz]; exact c1, fun z => ?_⟩
  · exact ris_insert T.ris fun e => hno (List.mem_of_getElem? (by rw [Array.getElem?_toList]; exact e))
  · rw [pl] at hx
    rcases mem_ins.mp hx with e | e
    · rw [e]; exact hj
    · exact T.bd x e
  · show (t.put j).1.place.size + (t.put j).1.dummies.size = n + 1
    rw [hsz, hd]
    rfl
  · have e0 : t.place = #[] := Array.eq_empty_of_size_eq_zero (by rw [T.sz, z])
    have e1 : (t.put j).1.place.toList = [j] := by rw [pl, e0]; simp
    exact Array.toList_inj.mp (by rw [e1])
/-! ### a new table -/
/-- n slots are taken, each by one below n -/
structure Occ (m n : Nat) (ow : Array (Option Nat)) : Prop where
  sz : ow.size = m + 1
  lt : ∀ j k, j ≤ m → oAt ow j = some k → k < n
  ps : ∃ ps : List Nat, ps.Nodup ∧ ps.length = n ∧ ∀ j, j ∈ ps ↔ j ≤ m ∧ oAt ow j ≠ none
theorem Occ.free {m n : Nat} {ow : Array (Option Nat)} (hm : MG m) (O : Occ m n ow) (hn : n ≤ m) (h : Int) :
    ∃ j, j ≤ m ∧ SetTable.layClean.free m ow (SetTable.turns m) (SetTable.bits h % (m + 1)) (SetTable.bits h) = some j ∧ oAt ow j = none := by
  obtain ⟨ps, _, hl, hps⟩ := O.ps
  obtain ⟨j, hj, hno⟩ := st_missing ps (m + 1) (by omega)
  have hjm : j ≤ m := Nat.le_of_lt_succ hj
  have hjn : oAt ow j = none := Classical.byContradiction fun z => hno ((hps j).mpr ⟨hjm, z⟩)
  obtain ⟨r, hr, er⟩ := meets hm h hjm
  obtain ⟨K, a1, a2, a3⟩ := st_least (p := fun c => oAt ow (way m h c) = none) (off m (SetTable.bits h % (m + 1)) (SetTable.bits h) r) (by
    show oAt ow (way m h (off m (SetTable.bits h % (m + 1)) (SetTable.bits h) r)) = none
    rw [way_off, er]
    exact hjn)
  have e2 : SetTable.turns m = m + 15 := rfl
  refine ⟨way m h K, way_in m h K, free_spec m ow (SetTable.turns m) r _ _ K (by omega) a1 (fun c hc => ?_) (Option.isNone_iff_eq_none.mpr a2), a2⟩
  have q := a3 c hc
  rw [← Bool.not_eq_true, Option.isNone_iff_eq_none]
  exact q
theorem Occ.next {m n : Nat} {ow : Array (Option Nat)} (O : Occ m n ow) {j : Nat} (hj : j ≤ m) (hf : oAt ow j = none) : Occ m (n + 1) (ow.setIfInBounds j (some n)) := by
  obtain ⟨ps, hnd, hl, hps⟩ := O.ps
  have hin : j < ow.size := by rw [O.sz]; exact Nat.lt_succ_of_le hj
  refine ⟨by rw [Array.size_setIfInBounds]; exact O.sz, fun i k hi e => ?_, j :: ps, List.nodup_cons.mpr ⟨fun z => ((hps j).mp z).2 hf, hnd⟩, by rw [List.length_cons, hl], fun i => ?_⟩
  · by_cases c : i = j
    · rw [c, oAt_set_self _ hin] at e
      rw [← Option.some.inj e]
      exact Nat.lt_succ_self n
    · rw [oAt_set_ne _ c] at e
      exact Nat.lt_succ_of_lt (O.lt i k hi e)
  · by_cases c : i = j
    · subst c
      rw [oAt_set_self _ hin]
      exact ⟨fun _ => ⟨hj, fun z => nomatch z⟩, fun _ => List.mem_cons_self⟩
    · rw [oAt_set_ne _ c, ← hps i, List.mem_cons]
      exact ⟨fun z => z.elim (fun z => absurd z c) id, .inr⟩
theorem Occ.zero (m : Nat) : Occ m 0 (Array.replicate (m + 1) none) := by
  refine ⟨Array.size_replicate, fun j k hj e => ?_, [], List.nodup_nil, rfl, fun j => ⟨fun z => (by cases z), fun ⟨z, z2⟩ => absurd (oAt_init z) z2⟩⟩
  rw [oAt_init hj] at e
  cases e
theorem Occ.fold {m : Nat} (hm : MG m) : ∀ (hs : List Int) (n : Nat) (ow : Array (Option Nat)), Occ m n ow → n + hs.length ≤ m → ∃ ow', hs.foldl (stepF m) (some (ow, n)) = some (ow', n + hs.length) ∧ Occ m (n + hs.length) ow'
  | [], n, ow, O, _ => ⟨ow, rfl, O⟩
  | h :: hs, n, ow, O, hl => by
    rw [List.length_cons] at hl
    obtain ⟨j, hj, e, hf⟩ := O.free hm (by omega) h
    obtain ⟨ow', e2, O2⟩ := Occ.fold hm hs (n + 1) _ (O.next hj hf) (by omega)
    rw [show n + 1 + hs.length = n + (h :: hs).length by rw [List.length_cons]; omega] at e2 O2
    exact ⟨ow', by rw [List.foldl_cons, stepF_some e]; exact e2, O2⟩
theorem lay_new (t : SetTable) {hs : Array Int} {wanted M : Nat} (hw : SetTable.sizeAbove wanted - 1 = M) (hM : MG M) (hn : hs.size ≤ M) :
    ∃ t' order, t.relaid hs wanted = some (t', order) ∧ order.size = hs.size ∧ (∀ i ∈ order.toList, i < hs.size) ∧ Tb t' hs.size ∧ t'.mask = M ∧ t'.plain = t.plain := by
  obtain ⟨ow, e, O⟩ := Occ.fold hM hs.toList 0 _ (Occ.zero M) (by rw [Array.length_toList]; omega)
  rw [Nat.zero_add, Array.length_toList] at e O
  have ec : SetTable.layClean M hs = some ow := by
    rw [layClean_eq, e]
    rfl
  have er : t.relaid hs wanted = some (tabOf t M ow, ((liveOf M ow).map (·.2)).toArray) := by
    rw [relaid_eq, hw, ec]
    rfl
  obtain ⟨ps, hnd, hl, hps⟩ := O.ps
  have rr : Ris (List.range (M + 1)) := List.pairwise_lt_range
  obtain ⟨r1, r2⟩ := ris_live (fun j => ow.getD j none) (List.range (M + 1)) rr
  have r1 : Ris ((liveOf M ow).map (·.1)) := r1
  have r2 : ∀ x ∈ (liveOf M ow).map (·.1), x ∈ List.range (M + 1) := r2
  have nd : ((liveOf M ow).map (·.1)).Nodup := List.Pairwise.imp (fun h => Nat.ne_of_lt h) r1
  have pm : ((liveOf M ow).map (·.1)).Perm ps := (List.perm_ext_iff_of_nodup nd hnd).mpr fun j => by
    rw [hps j, List.mem_map]
    constructor
    · rintro ⟨⟨y, k⟩, hq, rfl⟩
      obtain ⟨b1, b2⟩ := (mem_live O.sz).mp hq
      exact ⟨b1, by rw [b2]; exact fun z => nomatch z⟩
    · rintro ⟨b1, b2⟩
      cases q : oAt ow j with
      | none => exact absurd q b2
      | some k => exact ⟨(j, k), (mem_live O.sz).mpr ⟨b1, q⟩, rfl⟩
  have ll : (liveOf M ow).length = hs.size := by
    have q := pm.length_eq
    rw [List.length_map] at q
    exact q.trans hl
  refine ⟨_, _, er, ?_, fun i hi => ?_, ⟨r1, rfl, ?_, hM, fun x hx => Nat.le_of_lt_succ (List.mem_range.mp (r2 x hx))⟩, rfl, rfl⟩
  · rw [List.size_toArray, List.length_map]
    exact ll
  · obtain ⟨⟨y, k⟩, hq, rfl⟩ := List.mem_map.mp hi
    obtain ⟨b1, b2⟩ := (mem_live O.sz).mp hq
    exact O.lt y k b1 b2
  · show ((liveOf M ow).map (·.1)).toArray.size = hs.size
    rw [List.size_toArray, List.length_map]
    exact ll
theorem grow5 : SetTable.sizeAbove (SetTable.grown 5) = 32 := by decide +kernel
theorem grow19 : SetTable.sizeAbove (SetTable.grown 19) = 128 := by decide +kernel
theorem grow77 : SetTable.sizeAbove (SetTable.grown 77) = 512 := by decide +kernel
end Ev
/-! EvS2: a set of tuples of ints, few or many: search, add. -/
namespace Ev
open PySem PySem.Spec PyProof.Rows L2
/-- the value is a tuple of the ints k -/
def KeyV (P : Program) (w : World) (h : Heap) (k : List Int) (v : Value) : Prop := ∃ b, v = Value.ref b ∧ IsT P w h k b
/-- at a stands a set of tuples of ints, its table sound -/
structure Sn (P : Program) (w : World) (h : Heap) (a : Addr) (es : Array (Int × Value)) (ep : Nat) (t : SetTable) : Prop where
  ob : ∃ o, h.get? a = some o ∧ o.ExactSet ∧ o.data = .set es ep t
  row : ∀ e ∈ es.toList, ∃ k, e.1 = thash P w k ∧ KeyV P w h k e.2
  tab : Tb t es.size
  pl : t.plain = true
  rm : es.size * 5 < t.mask * 3
section
variable {P : Program} {w : World} {A : Around} {E : Value → Shared → Prop} {s : Shared} {a : Addr} {es : Array (Int × Value)} {ep : Nat} {t : SetTable}
theorem Tb.fits {n : Nat} (T : Tb t n) (h : n ≤ t.mask) : t.fits n = true := by
  unfold SetTable.fits SetTable.fill
  rw [T.dm, T.sz, Bool.and_eq_true, beq_iff_eq, decide_eq_true_eq]
  exact ⟨rfl, h⟩
theorem Sn.fits (R : Sn P w s.heap a es ep t) : t.fits es.size = true := R.tab.fits (by have := R.rm; omega)
theorem MG.odd {m : Nat} (h : MG m) : m % 2 = 1 := by
  unfold MG at h
  omega
theorem MG.most {m : Nat} (h : MG m) : m ≤ 511 := by
  unfold MG at h
  omega
theorem nth_dummy (m : Nat) : ∀ (n : Nat) (p : SetTable.Probe), p.dummy = none → (nth m p n).dummy = none
  | 0, _, h => h
  | n + 1, p, h => nth_dummy m n (adv m p) (by unfold adv; split <;> exact h)
/-- the state of the probe at the c-th step -/
abbrev stand0 (m : Nat) (h : Int) (c : Nat) : SetTable.Probe := nth m (runAt m (SetTable.bits h % (m + 1)) (SetTable.bits h)) c
theorem stand_add (m : Nat) (h : Int) (c q : Nat) : nth m (stand0 m h c) q = stand0 m h (c + q) := (nth_add m c _ q).symm
theorem KeyV.inj {h : Heap} {k k' : List Int} {v : Value} (x : KeyV P w h k v) (y : KeyV P w h k' v) : k = k' := by
  obtain ⟨b, rfl, hb⟩ := x
  obtain ⟨b', e, hb'⟩ := y
  injection e with e
  subst e
  exact hb.inj hb'
theorem seek (R : Sn P w s.heap a es ep t) {x : Addr} {k : List Int} (hx : IsT P w s.heap k x) (hu : A.units < cLine) {K : Nat} (hKf : K < 10 * SetTable.turns t.mask) (hgap : way t.mask (thash P w k) K ∉ t.place.toList)
    (hfull : ∀ c, c < K → way t.mask (thash P w k) c ∈ t.place.toList) {Q : SetFound → Shared → Prop} (hin : (∃ e ∈ es.toList, KeyV P w s.heap k e.2) → Q (.there none) s)
    (hout : (∀ (c i : Nat) (e : Int × Value), c < K → t.place.toList[i]? = some (way t.mask (thash P w k) c) → es[i]? = some e → ¬ KeyV P w s.heap k e.2) → Q (.free (way t.mask (thash P w k) K) false) s) :
    ∀ (f c : Nat) (stand : Option SetTable.Probe), stand.getD (t.probeStart (thash P w k)) = stand0 t.mask (thash P w k) c → c ≤ K → K < f + c →
      (∀ (c' i : Nat) (e : Int × Value), c' < c → t.place.toList[i]? = some (way t.mask (thash P w k) c') → es[i]? = some e → ¬ KeyV P w s.heap k e.2) → wpAny (model P w) A (setSearchFrom a (.ref x) (thash P w k) true f stand) Q E s := by
  intro f
  induction f with
  | zero => intro c stand _ h1 h2 _; omega
  | succ f ih =>
    intro c stand hst hc hf hpast
    obtain ⟨o, ho, hex, hd⟩ := R.ob
    -- what an entry is
    have ent : ∀ (i j : Nat), t.place.toList[i]? = some j → ∃ e k', es[i]? = some e ∧ e ∈ es.toList ∧ e.1 = thash P w k' ∧ KeyV P w s.heap k' e.2 := fun i j hij => by
      have h1 : i < t.place.toList.length := (List.getElem?_eq_some_iff.mp hij).1
      rw [Array.length_toList, R.tab.sz] at h1
      have h2 : es[i] ∈ es.toList := Array.mem_toList_iff.mpr (Array.getElem_mem h1)
      obtain ⟨k', e1, e2⟩ := R.row _ h2
      exact ⟨es[i], k', Array.getElem?_eq_getElem h1, h2, e1, e2⟩
    have hsh : ∀ (i : Nat) (e : Int × Value), es[i]? = some e → (es[i]?.map (·.1)).getD 0 = e.1 := fun i e he => by rw [he]; rfl
    rw [setSearchFrom_succ]
    refine wpAny_bind (wpAny_setState_of ho hd R.fits ?_)
    dsimp only
    refine wp_if_neg (by unfold SetTable.gaveWay; rw [R.tab.mg.odd]; decide) ?_
    try refine wpAny_bind (wpAny_pure ?_)
    have ew : ∀ q, (nth t.mask (stand0 t.mask (thash P w k) c) q).j = way t.mask (thash P w k) (c + q) := fun q => congrArg SetTable.Probe.j (stand_add t.mask (thash P w k) c q)
    rcases go_spec t R.tab.ris R.tab.dm (fun i => (es[i]?.map (·.1)).getD 0) (thash P w k) (10 * SetTable.turns t.mask) (K - c) (stand0 t.mask (thash P w k) c) (nth_dummy _ c _ rfl) (by omega)
      (fun q hq => by rw [ew]; exact hfull _ (by omega)) (by rw [ew, show c + (K - c) = K by omega]; exact hgap) with ⟨q, i, hq, hi, hh, hno, hpr⟩ | ⟨hno, hpr⟩
    · rw [ew] at hi
      rw [ew, stand_add] at hpr
      have hp : t.probe (fun i => (es[i]?.map (·.1)).getD 0) (thash P w k) (stand.getD (t.probeStart (thash P w k))) = some (.candidate (way t.mask (thash P w k) (c + q)) i (stand0 t.mask (thash P w k) (c + (q + 1)))) := by
        rw [hst]
        exact hpr
      rw [hp]
      dsimp only
      obtain ⟨e, k', he, hem, heh, b, heb, hbt⟩ := ent _ _ hi
      -- those before it are others
      have past : ∀ (c' i' : Nat) (e' : Int × Value), c' < c + q → t.place.toList[i']? = some (way t.mask (thash P w k) c') → es[i']? = some e' → ¬ KeyV P w s.heap k e'.2 := fun c' i' e' hc' hi' he' hk => by
        rcases Nat.lt_or_ge c' c with z | z
        · exact hpast c' i' e' z hi' he' hk
        · refine hno (c' - c) i' (by omega) (by rw [ew, show c + (c' - c) = c' by omega]; exact hi') ?_
          obtain ⟨e2, k2, y1, y2, y3, y4⟩ := ent _ _ hi'
          rw [he'] at y1
          obtain rfl := Option.some.inj y1
          rw [hsh i' e' he', y3, y4.inj hk]
      have tail : wpAny (model P w) A (searchRest a (.ref x) (thash P w k) true f es t (way t.mask (thash P w k) (c + q)) i (stand0 t.mask (thash P w k) (c + (q + 1)))) Q E s := by
        unfold searchRest
        obtain ⟨e1, e2⟩ := e
        have heb : e2 = Value.ref b := heb
        subst heb
        rw [he]
        dsimp only
        refine wpAny_bind (wpAny_holding (wpAny_eqBool_tuple hu hbt hx ?_))
        refine wpAny_bind (wpAny_setState_of ho hd R.fits ?_)
        dsimp only
        by_cases hkk : k' = k
        · refine wp_if_pos (by simp [hkk]) (wpAny_pure (hin ⟨_, hem, b, rfl, ?_⟩))
          rw [← hkk]
          exact hbt
        · refine wp_if_neg (by simp [hkk]) ?_
          try refine wpAny_bind (wpAny_pure ?_)
          rw [sameMem]
          dsimp only
          simp only [if_true, slot_live R.tab.ris hi, he]
          refine wpAny_bind (wpAny_isSame_ref_self (wpAny_bind (wpAny_pure ?_)))
          simp only [if_true]
          refine wp_if_neg (by simp [hkk]) ?_
          refine ih (c + (q + 1)) _ rfl (by omega) (by omega) fun c' i' e' hc' hi' he' hk => ?_
          rcases Nat.lt_or_ge c' (c + q) with z | z
          · exact past c' i' e' z hi' he' hk
          · have ec : c' = c + q := by omega
            rw [ec] at hi'
            have s1 := slot_live R.tab.ris hi'
            rw [slot_live R.tab.ris hi] at s1
            injection s1 with s1
            rw [← s1, he] at he'
            obtain rfl := Option.some.inj he'
            exact hkk (KeyV.inj ⟨b, rfl, hbt⟩ hk)
      by_cases hl : t.led = true
      · refine wp_if_neg (by simp [hl]) ?_
        try refine wpAny_bind (wpAny_pure ?_)
        exact tail
      · refine wp_if_pos (by simp [hl]) (wpAny_bind (seen_tup hx (fun y hy => ?_) ?_))
        · obtain ⟨e', he', rfl⟩ := List.mem_map.mp hy
          have hm : e' ∈ es.toList := by
            have z : e' ∈ es ∧ e'.1 = thash P w k := by simpa using he'
            exact Array.mem_toList_iff.mpr z.1
          obtain ⟨k2, _, b2, y1, y2⟩ := R.row e' hm
          exact ⟨k2, b2, y1, y2⟩
        · refine wp_if_neg (by decide) ?_
          try refine wpAny_bind (wpAny_pure ?_)
          exact tail
    · rw [ew, show c + (K - c) = K by omega] at hpr
      have hp : t.probe (fun i => (es[i]?.map (·.1)).getD 0) (thash P w k) (stand.getD (t.probeStart (thash P w k))) = some (.empty (way t.mask (thash P w k) K) none) := by
        rw [hst]
        exact hpr
      rw [hp]
      dsimp only
      refine wpAny_pure (hout fun c' i' e' hc' hi' he' hk => ?_)
      rcases Nat.lt_or_ge c' c with z | z
      · exact hpast c' i' e' z hi' he' hk
      · refine hno (c' - c) i' (by omega) (by rw [ew, show c + (c' - c) = c' by omega]; exact hi') ?_
        obtain ⟨e2, k2, y1, y2, y3, y4⟩ := ent _ _ hi'
        rw [he'] at y1
        obtain rfl := Option.some.inj y1
        show (es[i']?.map (·.1)).getD 0 = thash P w k
        rw [hsh i' e' he', y3, y4.inj hk]
theorem keyV_same {h h' : Heap} {o : Obj} {k : List Int} {v : Value} (x : KeyV P w h k v) (ho : h.get? a = some o) (hd : o.data = .set es ep t) (hs : Heap.SameBut a h h') : KeyV P w h' k v := by
  obtain ⟨b, e, hb⟩ := x
  exact ⟨b, e, isT_same hb ho hd hs⟩
/-- the table laid anew, larger: as many entries, each one of the old -/
theorem relay {o : Obj} (ho : s.heap.get? a = some o) (hex : o.ExactSet) (hd : o.data = .set es ep t) (hrow : ∀ e ∈ es.toList, ∃ k, e.1 = thash P w k ∧ KeyV P w s.heap k e.2) (T : Tb t es.size) (hfl : es.size ≤ t.mask) (hpl : t.plain = true)
    {wanted M : Nat} (hw : SetTable.sizeAbove wanted - 1 = M) (hM : MG M) (hn : es.size * 5 < M * 3) {Q : Unit → Shared → Prop}
    (hQ : ∀ h' es' ep' t', Heap.SameBut a s.heap h' → Sn P w h' a es' ep' t' → es'.size = es.size → Q () { s with heap := h' }) : wpAny (model P w) A (setRelay a wanted) Q E s := by
  obtain ⟨t', order, e, osz, olt, T', em, ep'⟩ := lay_new t (hs := es.map (·.1)) (wanted := wanted) hw hM (by rw [Array.size_map]; omega)
  rw [Array.size_map] at osz olt T'
  have hsub : ∀ l : List Nat, (∀ i ∈ l, i < es.size) → (l.filterMap (es[·]?)).length = l.length ∧ ∀ x ∈ l.filterMap (es[·]?), x ∈ es.toList := by
    intro l
    induction l with
    | nil => intro _; exact ⟨rfl, fun x hx => by cases hx⟩
    | cons i l ih =>
      intro hl
      have hi := hl i List.mem_cons_self
      obtain ⟨a1, a2⟩ := ih fun j hj => hl j (List.mem_cons_of_mem _ hj)
      rw [List.filterMap_cons_some (Array.getElem?_eq_getElem hi)]
      refine ⟨by rw [List.length_cons, List.length_cons, a1], fun x hx => ?_⟩
      rcases List.mem_cons.mp hx with rfl | hx
      · exact Array.mem_toList_iff.mpr (Array.getElem_mem hi)
      · exact a2 x hx
  obtain ⟨f1, f2⟩ := hsub order.toList olt
  have hsz : (order.filterMap (es[·]?)).size = es.size := by
    rw [← Array.length_toList, Array.toList_filterMap, f1, Array.length_toList, osz]
  have hmem : ∀ x ∈ (order.filterMap (es[·]?)).toList, x ∈ es.toList := fun x hx => f2 x (by rw [Array.toList_filterMap] at hx; exact hx)
  have hM5 := hM.most
  have hsl : SetTable.sizeAbove wanted ≤ sizeLine := by rw [sizeLine_eq]; omega
  rw [setRelay_eq]
  refine wpAny_bind (wpAny_setState_of ho hd (T.fits hfl) ?_)
  dsimp only
  refine wp_if_neg (by omega) ?_
  try refine wpAny_bind (wpAny_pure ?_)
  rw [e]
  dsimp only
  refine wpAny_bind (wp_if_neg (by rw [hsz]; simp) ?_)
  try refine wpAny_bind (wpAny_pure ?_)
  refine wpAny_pure ?_
  dsimp only
  refine wpAny_storeSet_of ho hd ?_ (by rw [hsz, sizeLine_eq]; omega)
  have sb : Heap.SameBut a s.heap (s.heap.update a (Obj.putSet (order.filterMap (es[·]?)) t')) := Heap.SameBut.update ..
  refine hQ _ _ (ep + 1) t' sb ⟨⟨_, store_at ho hd, ⟨hex.1, hex.2.1, hex.2.2⟩, rfl⟩, fun x hx => ?_, by rw [hsz]; exact T', ep'.trans hpl, by rw [hsz, em]; exact hn⟩ hsz
  obtain ⟨k, h1, h2⟩ := hrow x (hmem x hx)
  exact ⟨k, h1, keyV_same h2 ho hd sb⟩
/-- one more: it was there, or it is put in -/
theorem add_one (R : Sn P w s.heap a es ep t) {x : Addr} {k : List Int} (hx : IsT P w s.heap k x) (hu : A.units < cLine) (hfew : es.size < 300) {Q : Bool → Shared → Prop}
    (hin : (∃ e ∈ es.toList, KeyV P w s.heap k e.2) → ∀ b, Q b s)
    (hout : ∀ b h' es' ep' t', Heap.SameBut a s.heap h' → Sn P w h' a es' ep' t' → es'.size = es.size + 1 → (es.size = 0 → t.mask = 7 → t'.mask = 7 ∧ t'.place = #[way 7 (thash P w k) 0] ∧ ∃ v, es' = #[(thash P w k, v)] ∧ KeyV P w h' k v) →
      (∀ e : Int × Value, t.place.toList[0]? = some (way t.mask (thash P w k) 0) → es[0]? = some e → ¬ KeyV P w s.heap k e.2) → Q b { s with heap := h' }) :
    wpAny (model P w) A (setAddHashed a (.ref x) (thash P w k)) Q E s := by
  obtain ⟨o, ho, hex, hd⟩ := R.ob
  have hrm := R.rm
  obtain ⟨K, hKf, hgap, hfull⟩ := R.tab.gap (by omega) (thash P w k)
  have hmm := R.tab.mg.most
  have etn : SetTable.turns t.mask = t.mask + 15 := rfl
  unfold setAddHashed
  refine wpAny_holding ?_
  rw [show (100000 : Nat) = 99999 + 1 from rfl, setAddHashedIn_succ]
  refine wpAny_bind (wpAny_setState_of ho hd R.fits ?_)
  dsimp only
  refine wp_if_neg (by simp [byScan, Value.scannable]) ?_
  try refine wpAny_bind (wpAny_pure ?_)
  refine wpAny_bind ?_
  unfold setSearch
  refine seek R hx hu hKf hgap hfull (fun hm => ?_) (fun hno => ?_) 100000 0 none rfl (Nat.zero_le K) (by omega) fun c' i e hc' => absurd hc' (Nat.not_lt_zero c')
  · dsimp only
    exact wpAny_pure (hin hm false)
  · dsimp only
    refine wpAny_bind (wpAny_setState_of ho hd R.fits ?_)
    dsimp only
    obtain ⟨T1, m1, p1, f1, b1, z1⟩ := R.tab.put (way_in t.mask (thash P w k) K) hgap
    have hpl1 := p1.trans R.pl
    have first : ∀ e : Int × Value, t.place.toList[0]? = some (way t.mask (thash P w k) 0) → es[0]? = some e → ¬ KeyV P w s.heap k e.2 := fun e h0 he => by
      refine hno 0 0 e (Nat.pos_of_ne_zero fun z => ?_) h0 he
      rw [z] at hgap
      exact hgap (List.mem_of_getElem? h0)
    have hK0 : es.size = 0 → K = 0 := fun z => Classical.byContradiction fun y => by
      have q := hfull 0 (Nat.pos_of_ne_zero y)
      have e0 : t.place = #[] := Array.eq_empty_of_size_eq_zero (by rw [R.tab.sz, z])
      rw [e0] at q
      simp at q
    generalize hpt : t.put (way t.mask (thash P w k) K) = pt at T1 m1 p1 f1 b1 z1 hpl1 ⊢
    obtain ⟨t1, p⟩ := pt
    dsimp only at T1 m1 p1 f1 b1 z1 hpl1 ⊢
    first
      | (refine wpAny_bind ?_; refine wp_if_pos hpl1 ?_; refine hashBy_tup hx ?_)
      | refine wp_if_pos hpl1 (wpAny_bind (hashBy_tup hx ?_))
    simp only [if_true]
    have hin1 : (SetTable.insertAt es p (thash P w k, Value.ref x)).toList = es.toList.take p ++ (thash P w k, Value.ref x) :: es.toList.drop p := SetTable.toList_insertAt _ _ _
    have hes : (SetTable.insertAt es p (thash P w k, Value.ref x)).size = es.size + 1 := by
      rw [← Array.length_toList, hin1, len_ins _ (by rw [Array.length_toList]; exact b1), Array.length_toList]
    have hone : es.size = 0 → SetTable.insertAt es p (thash P w k, Value.ref x) = #[(thash P w k, Value.ref x)] := fun z => by
      have e0 : es = #[] := Array.eq_empty_of_size_eq_zero z
      refine Array.toList_inj.mp ?_
      rw [hin1, e0]
      simp
    generalize SetTable.insertAt es p (thash P w k, Value.ref x) = es1 at hin1 hes hone ⊢
    refine wpAny_bind (wpAny_storeSet_of ho hd ?_ (by rw [hes, sizeLine_eq]; omega))
    have sb : Heap.SameBut a s.heap (s.heap.update a (Obj.putSet es1 t1)) := Heap.SameBut.update ..
    have ho1 := store_at (es' := es1) (t' := t1) ho hd
    generalize s.heap.update a (Obj.putSet es1 t1) = h1 at sb ho1 ⊢
    have hrow1 : ∀ e ∈ es1.toList, ∃ k', e.1 = thash P w k' ∧ KeyV P w h1 k' e.2 := fun e he => by
      rw [hin1] at he
      rcases mem_ins.mp he with rfl | he
      · exact ⟨k, rfl, x, rfl, isT_same hx ho hd sb⟩
      · obtain ⟨k', y1, y2⟩ := R.row e he
        exact ⟨k', y1, keyV_same y2 ho hd sb⟩
    have T1' : Tb t1 es1.size := by rw [hes]; exact T1
    by_cases hf : t1.tooFull = true
    · have hfull1 : t1.mask * 3 ≤ (es.size + 1) * 5 := by
        have q := hf
        unfold SetTable.tooFull at q
        rw [decide_eq_true_eq, f1] at q
        exact q
      have hz : es.size ≠ 0 := fun z => by
        have q : 7 ≤ t.mask := by have := R.tab.mg; unfold MG at this; omega
        omega
      first
        | (refine wpAny_bind ?_; refine wp_if_pos (by simp [hf]) ?_)
        | (refine wp_if_pos (by simp [hf]) ?_; refine wpAny_bind ?_)
      have go : ∀ M, SetTable.sizeAbove (SetTable.grown (es.size + 1)) - 1 = M → MG M → (es.size + 1) * 5 < M * 3 → wpAny (model P w) A (setRelay a (SetTable.grown (es.size + 1))) (fun _ s' => wpAny (model P w) A (pure true) Q E s') E { s with heap := h1 } := fun M g1 g2 g3 => by
        refine relay (s := { s with heap := h1 }) ho1 ⟨hex.1, hex.2.1, hex.2.2⟩ rfl hrow1 T1' (by rw [hes, m1]; omega) hpl1 g1 g2 (by rw [hes]; exact g3) fun h2 es2 ep2 t2 sb2 R2 e2 => ?_
        exact wpAny_pure (hout true h2 es2 ep2 t2 (sb.trans sb2) R2 (e2.trans hes) (fun z => absurd z hz) first)
      have hmg := R.tab.mg
      unfold MG at hmg
      rw [m1] at hfull1
      rcases hmg with e | e | e | e
      · have e2 : es.size = 4 := by omega
        rw [e2] at go ⊢
        exact go 31 (by rw [grow5]) (.inr (.inl rfl)) (by decide)
      · have e2 : es.size = 18 := by omega
        rw [e2] at go ⊢
        exact go 127 (by rw [grow19]) (.inr (.inr (.inl rfl))) (by decide)
      · have e2 : es.size = 76 := by omega
        rw [e2] at go ⊢
        exact go 511 (by rw [grow77]) (.inr (.inr (.inr rfl))) (by decide)
      · omega
    · have hroom : es1.size * 5 < t1.mask * 3 := by
        have q := hf
        unfold SetTable.tooFull at q
        rw [decide_eq_true_eq, f1] at q
        rw [hes]
        omega
      first
        | refine wp_if_neg (by simp [hf]) ?_
        | (refine wpAny_bind ?_; refine wp_if_neg (by simp [hf]) ?_; refine wpAny_pure ?_)
      refine wpAny_pure (hout true h1 es1 (ep + 1) t1 sb ⟨⟨_, ho1, ⟨hex.1, hex.2.1, hex.2.2⟩, rfl⟩, hrow1, T1', hpl1, hroom⟩ hes (fun z e7 => ⟨m1.trans e7, ?_, Value.ref x, hone z, x, rfl, isT_same hx ho hd sb⟩) first)
      have q := z1 z
      rw [hK0 z, e7] at q
      exact q
end
end Ev
/-! EvS3: len(set(t)), t a tuple of tuples of ints: it is 1 just where all are equal. -/
namespace Ev
open PySem PySem.Spec PyProof.Rows L2
/-- the set at a after the first i of the rows: none; one, for they are equal; two at least, for they are not -/
def Ph (P : Program) (w : World) (h : Heap) (a : Addr) (ks : List (List Int)) (i : Nat) : Prop :=
  ∃ (es : Array (Int × Value)) (ep : Nat) (t : SetTable), Sn P w h a es ep t ∧ es.size ≤ i ∧
    ((i = 0 ∧ es.size = 0 ∧ t.mask = 7) ∨
     (∃ (k0 : List Int) (v : Value), (∀ k ∈ ks.take i, k = k0) ∧ es = #[(thash P w k0, v)] ∧ KeyV P w h k0 v ∧ t.mask = 7 ∧ t.place = #[way 7 (thash P w k0) 0]) ∨
     (2 ≤ es.size ∧ ∃ k ∈ ks.take i, ∃ k' ∈ ks.take i, k ≠ k'))
section
variable {P : Program} {w : World} {A : Around} {E : Value → Shared → Prop} {s : Shared}
theorem KeyV.moved {h h' : Heap} {I : Addr} {oI : Obj} (hI : h.get? I = some oI) (hc : oI.cls ≠ .type "tuple") (hk : ∀ b o, b ≠ I → h.get? b = some o → h'.get? b = some o) {k : List Int} {v : Value} (x : KeyV P w h k v) : KeyV P w h' k v := by
  obtain ⟨b, e, o, its, n, ho, ho2, rest⟩ := x
  refine ⟨b, e, o, its, n, hk b o (fun z => ?_) ho, ho2, rest⟩
  rw [z, hI] at ho
  rw [Option.some.inj ho] at hc
  exact hc ho2
theorem Ph.moved {h h' : Heap} {a I : Addr} {oI : Obj} {ks : List (List Int)} {i : Nat} (hI : h.get? I = some oI) (hc : oI.cls ≠ .type "tuple") (ha : a ≠ I) (hk : ∀ b o, b ≠ I → h.get? b = some o → h'.get? b = some o) (x : Ph P w h a ks i) : Ph P w h' a ks i := by
  obtain ⟨es, ep, t, ⟨⟨o, ho, hx⟩, hrow, ht, hp, hr⟩, hz, c⟩ := x
  refine ⟨es, ep, t, ⟨⟨o, hk a o ha ho, hx⟩, fun e he => ?_, ht, hp, hr⟩, hz, ?_⟩
  · obtain ⟨k, y1, y2⟩ := hrow e he
    exact ⟨k, y1, y2.moved hI hc hk⟩
  · rcases c with c | ⟨k0, v, c1, c2, c3, c4⟩ | c
    · exact .inl c
    · exact .inr (.inl ⟨k0, v, c1, c2, c3.moved hI hc hk, c4⟩)
    · exact .inr (.inr c)
theorem take_snoc {α : Type} {l : List α} {i : Nat} {x : α} (h : l[i]? = some x) : l.take (i + 1) = l.take i ++ [x] := by
  rw [List.take_add_one, h]
  rfl
/-- one row more -/
theorem Ph.add {a x : Addr} {ks : List (List Int)} {i : Nat} {k : List Int} (hp : Ph P w s.heap a ks i) (hk : ks[i]? = some k) (hx : IsT P w s.heap k x) (hu : A.units < cLine) (hi : i < 300) {Q : Bool → Shared → Prop}
    (hQ : ∀ b h', Heap.SameBut a s.heap h' → Ph P w h' a ks (i + 1) → Q b { s with heap := h' }) : wpAny (model P w) A (setAddHashed a (.ref x) (thash P w k)) Q E s := by
  obtain ⟨es, ep, t, R, hz, c⟩ := hp
  have htk := take_snoc hk
  refine add_one R hx hu (by omega) (fun ⟨e, he, hke⟩ b => ?_) (fun b h' es' ep' t' sb R' hsz hone hno => ?_)
  · refine hQ b s.heap (Heap.SameBut.refl a s.heap) ⟨es, ep, t, R, by omega, ?_⟩
    rcases c with ⟨_, c2, _⟩ | ⟨k0, v, c1, c2, c3, c4⟩ | ⟨c1, k1, hk1, k2, hk2, hne⟩
    · have e0 : es = #[] := Array.eq_empty_of_size_eq_zero c2
      rw [e0] at he
      simp at he
    · refine .inr (.inl ⟨k0, v, fun k' hk' => ?_, c2, c3, c4⟩)
      rw [htk] at hk'
      rcases List.mem_append.mp hk' with z | z
      · exact c1 k' z
      · rw [List.mem_singleton.mp z]
        rw [c2] at he
        have e1 : e = (thash P w k0, v) := by simpa using he
        rw [e1] at hke
        exact hke.inj c3
    · refine .inr (.inr ⟨c1, k1, ?_, k2, ?_, hne⟩)
      · rw [htk]; exact List.mem_append_left _ hk1
      · rw [htk]; exact List.mem_append_left _ hk2
  · refine hQ b h' sb ⟨es', ep', t', R', by omega, ?_⟩
    rcases c with ⟨c1, c2, c3⟩ | ⟨k0, v, c1, c2, c3, c4, c5⟩ | ⟨c1, k1, hk1, k2, hk2, hne⟩
    · obtain ⟨m7, pl, v, e1, kv⟩ := hone c2 c3
      refine .inr (.inl ⟨k, v, fun k' hk' => ?_, e1, kv, m7, pl⟩)
      rw [htk, c1] at hk'
      simpa using hk'
    · refine .inr (.inr ⟨by rw [hsz, c2]; show 2 ≤ 1 + 1; decide, ?_⟩)
      have hkk : k ≠ k0 := fun z => by
        subst z
        refine hno (thash P w k, v) ?_ (by rw [c2]; rfl) c3
        rw [c4, c5]
        rfl
      have h1 : 1 ≤ i := by
        rw [c2] at hz
        exact hz
      have hlt : 0 < ks.length := by
        have q := (List.getElem?_eq_some_iff.mp hk).1
        omega
      have hm0 : ks[0] ∈ ks.take i := by
        refine List.mem_take_iff_getElem.mpr ⟨0, ?_, rfl⟩
        omega
      refine ⟨ks[0], ?_, k, ?_, fun z => hkk ?_⟩
      · rw [htk]; exact List.mem_append_left _ hm0
      · rw [htk]; exact List.mem_append_right _ (List.mem_singleton.mpr rfl)
      · rw [← z]; exact c1 _ hm0
    · refine .inr (.inr ⟨by omega, k1, ?_, k2, ?_, hne⟩)
      · rw [htk]; exact List.mem_append_left _ hk1
      · rw [htk]; exact List.mem_append_left _ hk2
/-- set.update's loop over a tuple -/
theorem fill_set {I L S : Addr} {items : Array Value} (hh : A.in1.handled = none) (hLI : L ≠ I) (hSI : S ≠ I) (hSL : S ≠ L) (ks : List (List Int)) (hn : items.size = ks.length) (hfew : ks.length < 300) (h0 : Heap)
    (hval : ∀ (i : Nat) (v : Value), items[i]? = some v → ∃ k, ks[i]? = some k ∧ KeyV P w h0 k v) (hS0 : h0.get? S = none) (hI0 : h0.get? I = none) (hu : A.in1.units < cLine) {R : Result → Shared → Prop} :
    ∀ (n i : Nat) (s : Shared), i + n = ks.length → s.heap.IsTupleIter I L i → s.heap.IsTuple L items → (∀ b o, h0.get? b = some o → s.heap.get? b = some o) → Ph P w s.heap S ks i →
      (∀ s', Moved [S, I] (fun a b => b = a) s s' → Ph P w s'.heap S ks ks.length → (∀ b o, h0.get? b = some o → s'.heap.get? b = some o) → R (.ok (.ret .none)) s') →
      codeAny (model P w) A (.builtin "set.update.loop" ⟨[.ref S, .ref I], []⟩) R s := by
  have W := (Walks.tuple (prog := P) (w := w) (A := A.in1) hh I L hLI items).toS
  have grow : ∀ {s s' : Shared}, Moved [I] (fun a b => b = a) s s' → (∀ b o, h0.get? b = some o → s.heap.get? b = some o) → ∀ b o, h0.get? b = some o → s'.heap.get? b = some o := fun hm hkp b o e =>
    hm.heap b o (fun hb => by rw [List.mem_singleton.mp hb, hI0] at e; cases e) (hkp b o e)
  have phm : ∀ {s s' : Shared} {i : Nat}, s.heap.IsTupleIter I L i → Moved [I] (fun a b => b = a) s s' → Ph P w s.heap S ks i → Ph P w s'.heap S ks i := fun hit hm hp => by
    obtain ⟨o, ho, hc, _⟩ := hit
    exact hp.moved ho (by rw [hc]; intro z; injection z with z; exact absurd z (by decide)) hSI fun b o' hb e => hm.heap b o' (fun z => hb (List.mem_singleton.mp z)) e
  intro n
  induction n with
  | zero =>
    intro i s hi hit htp hkp hph hR
    have ei : i = ks.length := by omega
    subst ei
    refine codeAny_builtin F.entry_set_update_loop ?_
    rw [Around.under_plainId F.plain_set_update_loop _]
    show wpAny _ A.in1 (pyNext (.ref I) >>= _) _ _ s
    refine wpAny_bind (W.done s _ _ (by rw [hn]; exact ⟨hit, htp⟩) fun s' hm => wpAny_pure ?_)
    exact hR s' (hm.mono fun b hb => List.mem_cons_of_mem _ hb) (phm hit hm hph) (grow hm hkp)
  | succ n ih =>
    intro i s hi hit htp hkp hph hR
    refine codeAny_builtin F.entry_set_update_loop ?_
    rw [Around.under_plainId F.plain_set_update_loop _]
    show wpAny _ A.in1 (pyNext (.ref I) >>= _) _ _ s
    refine wpAny_bind (W.item i s _ _ (by omega) ⟨hit, htp⟩ fun v s' hv hst hm => ?_)
    obtain ⟨k, hk, b, rfl, hb⟩ := hval i v hv
    have hkp' := grow hm hkp
    have hx : IsT P w s'.heap k b := isT_keep hb hkp'
    show wpAny _ A.in1 (holding [Value.ref b] (setAdd S (.ref b)) >>= _) _ _ s'
    refine wpAny_bind (wpAny_holding ?_)
    unfold setAdd
    refine wpAny_holding (wpAny_bind (wpAny_pyHash_tuple hu hx ?_))
    have hph2 := phm hit hm hph
    refine Ph.add (s := { s' with toks := s'.toks + (k.length + 1) }) hph2 hk hx hu (by omega) fun b' h' sb hph' => ?_
    have out : ∀ c o, c ≠ S → s'.heap.get? c = some o → h'.get? c = some o := fun c o hc e => (sb.2 c hc).trans e
    refine wpAny_pure ⟨plainId_quiet F.plain_set_update_loop _, ih (i + 1) _ (by omega) (hst.1.at fun o e => out I o (Ne.symm hSI) e) (hst.2.at fun o e => out L o (Ne.symm hSL) e)
      (fun c o e => out c o (fun z => by rw [z, hS0] at e; cases e) (hkp' c o e)) hph' fun s2 hm2 hp2 hk2 => ?_⟩
    refine hR s2 (Moved.trans (fun _ _ _ y z => z.trans y) ((hm.mono fun c hc => List.mem_cons_of_mem _ hc).then_heap (Nat.le_add_right _ _) fun c o hc e => ?_) hm2) hp2 hk2
    exact out c o (fun z => hc (by rw [z]; exact List.mem_cons_self)) e
theorem ph_fresh {h : Heap} {a : Addr} {led : Bool} {ks : List (List Int)} (ho : h.get? a = some { cls := .type "set", dict := none, data := .set #[] 0 (.fresh 0 0 led) }) : Ph P w h a ks 0 := by
  refine ⟨#[], 0, .fresh 0 0 led, ⟨⟨_, ho, ⟨rfl, rfl, rfl⟩, rfl⟩, fun e he => ?_, ⟨List.Pairwise.nil, rfl, rfl, .inl rfl, fun x hx => ?_⟩, rfl, ?_⟩, Nat.le_refl _, .inl ⟨rfl, rfl, rfl⟩⟩
  · simp at he
  · cases hx
  · show 0 * 5 < 7 * 3
    decide
end
end Ev
/-! EvS4: set(t) of a tuple of tuples of ints. -/
namespace Ev
open PySem PySem.Spec PyProof.Rows L2
section
variable {P : Program} {w : World} {A : Around} {E : Value → Shared → Prop} {s : Shared}
theorem isi_tuple_set : isSubtype (.type "tuple") (.type "set") = pure false := by rw [isSubtype_type]; kernel_rfl
theorem isi_tuple_frozen : isSubtype (.type "tuple") (.type "frozenset") = pure false := by rw [isSubtype_type]; kernel_rfl
/-- set(t) of a tuple of tuples of ints -/
theorem call_setTup {l : Addr} {items : Array Value} (ks : List (List Int)) {Q : Value → Shared → Prop} (hh : A.handled = none) (hl : s.heap.IsTuple l items) (hn : items.size = ks.length) (hfew : ks.length < 300)
    (hval : ∀ (i : Nat) (v : Value), items[i]? = some v → ∃ k, ks[i]? = some k ∧ KeyV P w s.heap k v) (hu : A.units + 3 < cLine)
    (h : ∀ (h' : Heap) (tk : Nat), Ph P w h' s.heap.objs.size ks ks.length → (∀ b o, s.heap.get? b = some o → h'.get? b = some o) → Q (.ref s.heap.objs.size) { s with heap := h', toks := tk }) :
    wpAny (model P w) A (call (.type "set") [.ref l]) Q E s := by
  obtain ⟨cc, ctl, hmro⟩ := F.called_set.mro
  have hmade := F.called_set.made
  have hsub := F.called_set.sub
  refine wpAny_call (codeAny_of_tree ?_)
  show wpAny _ _ (callAny (.type "set") _) _ _ _
  refine wpAny_pure ⟨Code.quiet_builtin _ (by decide +kernel), codeAny_builtin F.entry_type_call ?_⟩
  rw [Around.under_plain (weight_type_call_type "set" [.ref l] []) rfl]
  have hnt := F.called_set.notType
  have hcc := F.called_set.canCreate
  have hct := F.typeCall_set_1 (.ref l)
  repeat (any_goals (first | assumption | wp_step))
  refine codeAny_mono (code_set_new_1 (.ref l) (E := E) (Q₁ := fun obj s₁ => ∃ led : Bool, obj = .ref s.heap.objs.size ∧ s₁ = { s with heap := s.heap.push { cls := .type "set", dict := none, data := .set #[] 0 (.fresh 0 0 led) } }) fun led => ⟨led, rfl, rfl⟩) fun r s₁ hr => ?_
  match r, hr with
  | .error e, hr => exact hr
  | .ok (.ret obj), hr =>
    obtain ⟨led, rfl, rfl⟩ := hr
    have hS : (s.heap.push { cls := .type "set", dict := none, data := .set #[] 0 (.fresh 0 0 led) }).get? s.heap.objs.size = some { cls := .type "set", dict := none, data := .set #[] 0 (.fresh 0 0 led) } := Heap.get?_push_size _ rfl
    have hT : Shared.TypeIs { s with heap := s.heap.push { cls := .type "set", dict := none, data := .set #[] 0 (.fresh 0 0 led) } } (.ref s.heap.objs.size) "set" := ⟨_, hS, rfl⟩
    have hil := F.called_set.init.lookup
    have hib := F.called_set.init.bind (.ref s.heap.objs.size)
    repeat (any_goals (first | assumption | wp_step))
    refine codeAny_mono (codeAny_call_builtin (R := wants (fun r s₂ => r = .none ∧ ∃ h' tk, s₂ = { s with heap := h', toks := tk } ∧ Ph P w h' s.heap.objs.size ks ks.length ∧ ∀ b o, s.heap.get? b = some o → h'.get? b = some o) E) F.called_set.init.plain F.entry_set_init (check_set_init_1 hT ?_)) fun r₂ s₂ hr₂ => ?_
    · obtain ⟨ol, hol, hcl, nl, hdl⟩ := id hl
      have hlS : l < s.heap.objs.size := Heap.lt_size hol
      have hl1 : (s.heap.push { cls := .type "set", dict := none, data := .set #[] 0 (.fresh 0 0 led) }).IsTuple l items := hl.push _
      obtain ⟨ocls, odict, odata, oslots⟩ := ol
      simp only at hcl hdl
      subst hcl; subst hdl
      have hol' : (s.heap.push { cls := .type "set", dict := none, data := .set #[] 0 (.fresh 0 0 led) }).get? l = some { cls := .type "tuple", dict := odict, data := .seq items nl, slots := oslots } := Heap.get?_push_of_some _ hol
      have q1 := isi_tuple_set
      have q2 := isi_tuple_frozen
      have q3 : (Value.type "tuple" == Value.type "dict") = false := by decide
      unfold Builtin.«set.__init__» noKeywords Builtin.Frozenset.updateFrom
      generalize hPI : pyIter = PI
      wp_walk
      subst hPI
      have hne1 : l ≠ (s.heap.push { cls := .type "set", dict := none, data := .set #[] 0 (.fresh 0 0 led) }).objs.size := by
        rw [Heap.size_push]; exact Nat.ne_of_lt (Nat.lt_succ_of_lt hlS)
      have hne2 : s.heap.objs.size ≠ (s.heap.push { cls := .type "set", dict := none, data := .set #[] 0 (.fresh 0 0 led) }).objs.size := by
        rw [Heap.size_push]; exact Nat.ne_of_lt (Nat.lt_succ_self _)
      have out : ∀ b, s.heap.objs.size ≤ b → s.heap.get? b = none := fun b hb => by
        cases q : s.heap.get? b with
        | none => rfl
        | some o => exact absurd (Heap.lt_size q) (Nat.not_lt.mpr hb)
      refine wpAny_pyIter_tuple hl1 ?_
      refine wpAny_bind (wpAny_runValue ?_)
      refine fill_set (by simp [hh]) hne1 hne2 (Nat.ne_of_gt hlS) ks hn hfew s.heap hval (out _ (Nat.le_refl _)) (out _ (by rw [Heap.size_push]; exact Nat.le_succ _)) hu ks.length 0 _ (by omega)
        ⟨_, Heap.get?_push_size _ rfl, rfl, rfl⟩ (hl1.push _) (fun b o e => Heap.get?_push_of_some _ (Heap.get?_push_of_some _ e)) (ph_fresh (led := led) (Heap.get?_push_of_some _ hS)) fun s' hm hph hkp => ?_
      obtain ⟨h', g2, d', tk', os'⟩ := s'
      have eg : g2 = s.gens := hm.gens
      have ed : d' = s.drawn := hm.drawn
      have eo : os' = s.os := hm.os
      subst eg ed eo
      show wpAny _ _ _ _ _ _
      refine wpAny_pure ?_
      show wpAny _ _ (ret Value.none) _ _ _
      exact wpAny_pure ⟨rfl, h', tk', rfl, hph, hkp⟩
    · match r₂, hr₂ with
      | .error e, hr₂ => exact hr₂
      | .ok (.ret r), hr₂ =>
        obtain ⟨rfl, h', tk, rfl, hph, hkp⟩ := hr₂
        repeat (any_goals (first | assumption | wp_step))
        exact h h' tk hph hkp
end
end Ev
/-! EvS5: the rule for len(set(t)). -/
namespace Ev
open PySem PySem.Spec PyProof.Rows L2
def tLenSetT (K : PySem.W.Frag) (ta : TE) : TE := fun σ H Q => ta σ H fun x H1 => ∃ (l : Addr) (rs : List (Addr × List Int)), x = V.ref l ∧ SqT K H1 l (rs.map fun p => V.ref p.1) ∧ (∀ p ∈ rs, SqT K H1 p.1 (p.2.map V.int)) ∧ 1 ≤ rs.length ∧ rs.length < 300 ∧
  ∀ n : Nat, (n = 1 ↔ ∀ p ∈ rs, ∀ q ∈ rs, p.2 = q.2) → Q (.int n) H1
theorem pe_lenSetT {X : Cx} {a : Expr} {ta : TE} {p p2 q pos : Pos} (hc : X.calm = true) (hu : X.A.units + 64 < cLine) (hg : Gl X "len") (hm : X.mg "len" = none) (hg2 : Gl X "set") (hm2 : X.mg "set" = none) (ha : PE X a ta)
    (na : starEach [a] X.env = (false, eval a X.env) :: starEach [] X.env := by rfl) : PE X (.Call (.Name "len" p) [.Call (.Name "set" p2) [a] [] q] [] pos) (tLenSetT X.K ta) := by
  refine ⟨fun pins s σ H Q I h => Call_ (ld_blt I hg hm PySem.boot_len ?_)⟩
  refine PyProof.Rows.callWith_builtin1 (PyProof.Rows.args_cons ?_ rfl) rfl rfl
  refine Call_ (ld_blt I hg2 hm2 PyProof.Rows.boot_set ?_)
  refine PyProof.Rows.callWith_type1 (PyProof.Rows.args_cons (thn (ha.run pins s σ H _ I h) fun v s1 ⟨x, H1, I1, r1, q1⟩ => PyProof.Rows.args_nil ?_) na) na rfl
  obtain ⟨l, rs, rfl, hq, hk, h1, h3, q1⟩ := q1
  cases r1
  obtain ⟨its, rv, ⟨o, ho, hcl, n, hd⟩, hz⟩ := I1.tuple hq
  have er := refs_of_vals rv
  have hlen : its.length = rs.length := by rw [er, List.length_map]
  refine call_setTup (s := s1) (items := its.toArray) (rs.map (·.2)) (I1.ok.hd hc) ⟨o, ho, hcl, n, hd⟩ (by rw [List.size_toArray, List.length_map, hlen]) (by rw [List.length_map]; exact h3) (fun i v hv => ?_) (by omega) fun h' tk hph hkp => ?_
  · have hv' : its[i]? = some v := by simpa using hv
    rw [er, List.getElem?_map] at hv'
    cases e : rs[i]? with
    | none => rw [e] at hv'; cases hv'
    | some p =>
      rw [e] at hv'
      refine ⟨p.2, by rw [List.getElem?_map, e]; rfl, p.1, (Option.some.inj hv').symm, I1.isT (hk p (List.mem_of_getElem? e))⟩
  · obtain ⟨es, ep, t, R, hsz, c⟩ := hph
    obtain ⟨o2, ho2, hex, hd2⟩ := R.ob
    refine PyProof.Rows.args_nil ?_
    have I2 : Inv X pins σ H1 { s1 with heap := h', toks := tk } := I1.kept hkp
    rw [List.length_map] at hsz
    refine call_len_set ho2 hex hd2 (Tb.fits R.tab (by have := R.rm; omega)) (by omega) ⟨.int es.size, H1, I2.tok _, ⟨_, rfl⟩, q1 es.size ?_⟩
    rw [List.take_length] at c
    rcases c with ⟨c1, _⟩ | ⟨k0, v, c1, c2, _⟩ | ⟨c1, k, hk1, k', hk2, hne⟩
    · rw [List.length_map] at c1
      omega
    · rw [c2]
      refine ⟨fun _ p hp q hq => ?_, fun _ => rfl⟩
      rw [c1 p.2 (List.mem_map.mpr ⟨p, hp, rfl⟩), c1 q.2 (List.mem_map.mpr ⟨q, hq, rfl⟩)]
    · refine ⟨fun z => by omega, fun z => ?_⟩
      obtain ⟨p, hp, rfl⟩ := List.mem_map.mp hk1
      obtain ⟨q, hq, rfl⟩ := List.mem_map.mp hk2
      exact absurd (z p hp q hq) hne
end Ev
/-! EvR1: is_even, _law_joined_right. -/
namespace Ev
open PySem PySem.Spec PyProof.Rows L2
/-! ### rows and tables as data -/
theorem dp_ints {K : PySem.W.Frag} {H : Hp} : ∀ ns : List Int, DpAll K H (ns.map V.int) (ns.map PyData.int)
  | [] => .nil
  | n :: ns => .cons (.int n) (dp_ints ns)
theorem eqv_ints : ∀ ns : List Int, PyData.eqvAll (ns.map PyData.int) (ns.map PyData.int) = true
  | [] => by simp [PyData.eqvAll]
  | n :: ns => by simp [PyData.eqvAll, PyData.eqv, eqv_ints ns]
theorem can_ints : ∀ ns : List Int, PyData.canLayAll0 (ns.map PyData.int) = true
  | [] => by simp [PyData.canLayAll0]
  | n :: ns => by simp [PyData.canLayAll0, PyData.canLay0, can_ints ns]
theorem dep_ints : ∀ ns : List Int, PyData.depthAll (ns.map PyData.int) = 0
  | [] => by simp [PyData.depthAll]
  | n :: ns => by simp [PyData.depthAll, PyData.depth, dep_ints ns]
theorem shaped_row (ns : List Int) : SeqAt.shaped (.list (ns.map PyData.int)) = true := by
  unfold SeqAt.shaped
  simp only [PyData.canLay0, PyData.depth, can_ints ns, dep_ints ns]
  decide
/-- a table as data: a tuple of tuples of ints -/
def dTab (rows : List (List Int)) : List PyData := rows.map fun r => .tuple (r.map PyData.int)
theorem eqv_tab : ∀ rows : List (List Int), PyData.eqvAll (dTab rows) (dTab rows) = true
  | [] => by simp [dTab, PyData.eqvAll]
  | r :: rows => by
    have ih := eqv_tab rows
    unfold dTab at ih ⊢
    simp [PyData.eqvAll, PyData.eqv, eqv_ints r, ih]
theorem can_tab : ∀ rows : List (List Int), PyData.canLayAll0 (dTab rows) = true
  | [] => by simp [dTab, PyData.canLayAll0]
  | r :: rows => by
    have ih := can_tab rows
    unfold dTab at ih ⊢
    simp [PyData.canLayAll0, PyData.canLay0, can_ints r, ih]
theorem dep_tab : ∀ rows : List (List Int), PyData.depthAll (dTab rows) ≤ 1
  | [] => by simp [dTab, PyData.depthAll]
  | r :: rows => by
    have ih := dep_tab rows
    unfold dTab at ih ⊢
    simp only [List.map_cons, PyData.depthAll, PyData.depth, dep_ints r]
    omega
theorem shaped_tab (rows : List (List Int)) : SeqAt.shaped (.tuple (dTab rows)) = true := by
  unfold SeqAt.shaped
  have q := dep_tab rows
  simp only [PyData.canLay0, PyData.depth, can_tab rows, Bool.true_and]
  exact decide_eq_true (by omega)
/-- the rows of a table -/
def rowsT (ns : List Str) (m : Nat) (F : Str → Int → Int) : List (List Int) := (List.range m).map fun (c : Nat) => ns.map fun x => F x (c : Int)
theorem dp_rows {K : PySem.W.Frag} {H : Hp} {r : Nat → Addr} {ns : List Str} {F : Str → Int → Int} : ∀ cs : List Nat, (∀ c ∈ cs, H (r c) = some (.tup (ns.map fun x => V.int (F x (c : Int))))) → DpAll K H (cs.map fun c => V.ref (r c)) (dTab (cs.map fun (c : Nat) => ns.map fun x => F x (c : Int)))
  | [], _ => .nil
  | c :: cs, h => by
    refine .cons (.tup (SqT.of (h c List.mem_cons_self)) ?_) (dp_rows cs fun d hd => h d (List.mem_cons_of_mem _ hd))
    have q := dp_ints (K := K) (H := H) (ns.map fun x => F x (c : Int))
    rw [List.map_map] at q
    exact q
theorem TabAt.dp {K : PySem.W.Frag} {H : Hp} {t : Addr} {ns : List Str} {m : Nat} {F : Str → Int → Int} (h : TabAt H t ns m F) : Dp K H (.ref t) (.tuple (dTab (rowsT ns m F))) := by
  obtain ⟨r, h1, h2⟩ := h
  exact .tup (SqT.of h1) (dp_rows _ fun c hc => h2 c (List.mem_range.mp hc))
theorem rowsT_congr {ns : List Str} {m : Nat} {F G : Str → Int → Int} (h : ∀ x ∈ ns, ∀ c : Nat, c < m → F x c = G x c) : rowsT ns m F = rowsT ns m G := by
  unfold rowsT
  refine List.map_congr_left fun c hc => List.map_congr_left fun x hx => h x hx c (List.mem_range.mp hc)
theorem PgV.ne {H : Hp} {p : Pg} {vs : List V} (h : PgV H p vs) (hp : p ≠ .nil) : vs ≠ [] := fun e => by
  rw [e] at h
  cases p with
  | nil => exact hp rfl
  | line n t r => obtain ⟨_, _, e, _⟩ := h; cases e
  | loop k b r => obtain ⟨_, _, _, _, e, _⟩ := h; cases e
section
variable {P : Program} {w : World} {K : PySem.W.Frag} {mg : Str → Option Value} {base : Heap}
theorem scEven : FnScope ["program", "modulus"] ["program", "modulus"] (defScope sEven) := ⟨rfl, rfl, rfl, by decide +kernel, rfl, by decide +kernel, by decide +kernel⟩
/-- all classes of p modulo m tick alike -/
def Flat (p : Pg) (m : Nat) : Prop := ∀ x ∈ p.lines, ∀ c d : Nat, c < m → d < m → p.cl m x c = p.cl m x d
def spEven : Sp := fun vs H Q _ => ∃ (a : Addr) (p : Pg) (m : Nat), vs = [.ref a, .int m] ∧ PgAt H a p ∧ InPool p ∧ p.ok ∧ p.dep ≤ 5 ∧ 1 ≤ m ∧ m ≤ 250 ∧
  ∀ (H' : Hp) (b : Bool), Same H H' → (b = true ↔ Flat p m) → Q (.bl b) H'
theorem ok_even {f b : Addr} {fd bd : FuncData} (T : Txt mg) (D : Def K mg "is_even" sEven ["program", "modulus"] f fd) (DB : Def K mg "class_table" sTable ["program", "modulus"] b bd) (GB : FnOk P w K mg base CX0 9 b bd ["program", "modulus"] spTable) :
    FnOk P w K mg base CX0 10 f fd ["program", "modulus"] spEven := by
  refine D.fn.ok scEven (fun vs H Q E h => ?_) (fun cdv A outer s H vs Q E hr h => ?_)
  · obtain ⟨a, p, m, rfl, _⟩ := h
    rfl
  obtain ⟨a, p, m, rfl, ha, hp, hok, hd, h1, h2, q⟩ := h
  refine ⟨_, pss_one (ps_ret (pe_cmpR op_eq (pe_lenSetT rfl hr.units rfl T.len rfl T.set (pe_call GB hr rfl DB.mg DB.kp DB.bi .nil pass0 (pa_cons (pv 0) (pa_cons (pv 1) pa_nil)))) pe_int (nomark _))), ?_⟩
  refine ⟨_, rfl, _, rfl, a, p, m, rfl, ha, hp, hok, hd, h1, by omega, fun H1 t s1 ⟨r, ht, hrw⟩ => ?_⟩
  have hv : ∀ c : Nat, c < m → SqT K H1 (r c) ((p.lines.map fun x => p.cl m x c).map V.int) := fun c hc => by
    rw [List.map_map]
    exact SqT.of (hrw c hc)
  refine ⟨t, (List.range m).map fun (c : Nat) => (r c, p.lines.map fun x => p.cl m x c), rfl, ?_, fun e he => ?_, ?_, ?_, fun n hn => ⟨rfl, ?_⟩⟩
  · rw [List.map_map]
    exact SqT.of ht
  · obtain ⟨c, hc, rfl⟩ := List.mem_map.mp he
    exact hv c (List.mem_range.mp hc)
  · rw [List.length_map, List.length_range]; exact h1
  · rw [List.length_map, List.length_range]; omega
  · refine q H1 _ s1 ?_
    have e1 : ∀ n : Nat, (V.int n = V.int 1) ↔ n = 1 := fun n => ⟨fun z => by injection z with z; omega, fun z => by rw [z]; rfl⟩
    rw [decide_eq_true_iff]
    refine (e1 n).trans (hn.trans ⟨fun z x hx c d hc hd => ?_, fun z e he e' he' => ?_⟩)
    · have q1 := z _ (List.mem_map.mpr ⟨c, List.mem_range.mpr hc, rfl⟩) _ (List.mem_map.mpr ⟨d, List.mem_range.mpr hd, rfl⟩)
      exact (List.map_inj_left.mp q1) x hx
    · obtain ⟨c, hc, rfl⟩ := List.mem_map.mp he
      obtain ⟨d, hd, rfl⟩ := List.mem_map.mp he'
      exact List.map_congr_left fun x hx => z x hx c d (List.mem_range.mp hc) (List.mem_range.mp hd)
end
end Ev
/-! EvR2: _law_joined_right. -/
namespace Ev
open PySem PySem.Spec PyProof.Rows L2
section
variable {P : Program} {w : World} {K : PySem.W.Frag} {mg : Str → Option Value} {base : Heap}
theorem scJR : FnScope ["_law_one", "_law_other", "_law_modulus", "_law_first", "_law_second", "_law_both", "_law_zero", "_law_shift", "_law_name", "_law_ahead", "_law_behind", "_law_at"] ["_law_one", "_law_other", "_law_modulus"] (defScope sJR) := ⟨rfl, rfl, rfl, by decide +kernel, rfl, by decide +kernel, by decide +kernel⟩
/-- what the law hands on as a program -/
structure Fit (p : Pg) : Prop where
  pool : InPool p
  ok : p.ok
  dep : p.dep ≤ 4
  wide : p.wide ≤ 50
  ne : p ≠ .nil
theorem Fit.app {p q : Pg} (hp : Fit p) (hq : Fit q) : InPool (p.app q) ∧ (p.app q).ok ∧ (p.app q).dep ≤ 5 ∧ (p.app q).wide ≤ 200 := by
  have h1 := hp.dep
  have h2 := hq.dep
  have h3 := hp.wide
  have h4 := hq.wide
  refine ⟨app_pool hp.pool hq.pool, app_ok _ _ hp.ok hq.ok, ?_, ?_⟩
  · rw [app_dep]; omega
  · rw [app_wide]; omega
def spJR : Sp := fun vs H Q _ => ∃ (a b : Addr) (p q : Pg) (m : Nat), vs = [.ref a, .ref b, .int m] ∧ PgAt H a p ∧ PgAt H b q ∧ Fit p ∧ Fit q ∧ 1 ≤ m ∧ m ≤ 100 ∧ ∀ H', Same H H' → Q (.bl true) H'
/-- the row by get: the program's own, or zeros -/
theorem get_row {H : Hp} {d z : Addr} {p : Pg} {m : Nat} (h : DictAt H d p.lines m (fun x c => p.cl m x c)) (hz : H z = some (.lst (rowL m fun _ => 0))) (x : Str) :
    ∃ o, DGet H d (.str x) o ∧ ∃ l, o.getD (.ref z) = .ref l ∧ H l = some (.lst (rowL m fun c => p.cl m x c)) := by
  obtain ⟨r, h1, h2⟩ := h
  have hv := val_map (f := fun x => V.ref (r x)) (x := x) (ks := p.lines)
  refine ⟨_, .inl ⟨_, Sum.inr x, .inl h1, rfl, rfl⟩, ?_⟩
  rw [hv]
  by_cases c : x ∈ p.lines
  · rw [if_pos c]
    exact ⟨r x, rfl, h2 x c⟩
  · rw [if_neg c]
    refine ⟨z, rfl, ?_⟩
    rw [hz]
    refine congrArg (fun l => some (HO.lst l)) (rowL_congr fun i _ => ?_)
    exact (cl_no m x p (fun e => c (mem_lines.mpr e)) i).symm
theorem ok_JR {f y i g : Addr} {fd yd id' gd : FuncData} (T : Txt mg) (D : Def K mg "_law_joined_right" sJR ["_law_one", "_law_other", "_law_modulus"] f fd)
    (DY : Def K mg "_law_by_name" sByName ["_law_program", "_law_modulus"] y yd) (GY : FnOk P w K mg base CX0 10 y yd ["_law_program", "_law_modulus"] spByName)
    (DI : Def K mg "lines_of" sLines ["program"] i id') (GI : FnOk P w K mg base CX0 7 i id' ["program"] spLines) (DG : Def K mg "length" sLen ["program"] g gd) (GG : FnOk P w K mg base CX0 12 g gd ["program"] (spLen 5)) :
    FnOk P w K mg base CX0 13 f fd ["_law_one", "_law_other", "_law_modulus"] spJR := by
  refine D.fn.ok scJR (fun vs H Q E h => ?_) (fun cdv A outer s H vs Q E hr h => ?_)
  · obtain ⟨a, b, p, q, m, rfl, _⟩ := h
    rfl
  obtain ⟨a, b, p, q, m, rfl, hp, hq, fp, fq, h1, h2, k⟩ := h
  have hu := hu_of hr
  have hrY : Room 10 _ := hr.mono (by decide)
  have hrI : Room 7 _ := hr.mono (by decide)
  refine ⟨_, pss_cons (ps_par3 (i := 3) (j := 4) (l := 5) rfl scJR.nd rfl rfl rfl (by decide) (by decide) (by decide) rfl rfl rfl
      (pa_cons (pe_call GY hrY rfl DY.mg DY.kp DY.bi .nil pass0 (pa_cons (pv 0) (pa_cons (pv 2) pa_nil))) (pa_cons (pe_call GY hrY rfl DY.mg DY.kp DY.bi .nil pass0 (pa_cons (pv 1) (pa_cons (pv 2) pa_nil)))
        (pa_cons (pe_call GY hrY rfl DY.mg DY.kp DY.bi .nil pass0 (pa_cons (pe_op op_catT (pv 0) (pv 1)) (pa_cons (pv 2) pa_nil))) pa_nil))) rfl)
    (pss_cons (ps_asg (pe_tup (pa_cons (pe_op op_rep (pe_lst (pa_cons pe_int pa_nil)) (pv 2)) (pa_cons (pe_op op_mod (pe_call GG hr rfl DG.mg DG.kp DG.bi .nil pass0 (pa_cons (pv 0) pa_nil)) (pv 2)) pa_nil)))
      (pg_tup rfl (pgs_cons (pg_name (i := 6) scJR.nd rfl (.inl rfl)) (pgs_cons (pg_name (i := 7) scJR.nd rfl (.inr rfl)) pgs_nil))))
    (pss_cons (ps_for PassesOwn.never rfl (pi_tup (pe_call GI hrI rfl DI.mg DI.kp DI.bi .nil pass0 (pa_cons (pe_op op_catT (pv 0) (pv 1)) pa_nil))) (pg_name (i := 8) scJR.nd rfl (.inl rfl))
      (pss_cons (ps_asg (pe_tup (pa_cons (pe_dget2 hu (pv 3) (pv 8) (pv 6) ⟨rfl, rfl, rfl, rfl⟩) (pa_cons (pe_dget2 hu (pv 4) (pv 8) (pv 6) ⟨rfl, rfl, rfl, rfl⟩) pa_nil)))
        (pg_tup rfl (pgs_cons (pg_name (i := 9) scJR.nd rfl (.inr rfl)) (pgs_cons (pg_name (i := 10) scJR.nd rfl (.inr rfl)) pgs_nil))))
      (pss_one (ps_if (pt_cmpR (op_neD hr.units) (pe_dget hu (pv 5) (pv 8) (fun _ _ => rfl))
        (pe_lc (own := [("_law_at", 11)]) (g := gName 11) rfl scJR.nd (pi_range1 rfl T.range (pa_cons (pv 2) pa_nil)) (blkOk_by (N := ["_law_one", "_law_other", "_law_modulus", "_law_first", "_law_second", "_law_both", "_law_zero", "_law_shift", "_law_name", "_law_ahead", "_law_behind", "_law_at"]) (sc := defScope sJR) (by decide +kernel))
          (fun _ _ _ _ _ => pg_name (i := 11) scJR.nd rfl (Or.inl rfl)) (fun _ _ _ _ _ => pts_nil)
          (fun _ _ _ _ _ => pe_op op_add (pe_ix (r := rIxL K) ix_list (pv 9) (pv 11) (fun _ _ => rfl)) (pe_ix (r := rIxL K) ix_list (pv 10) (pe_op op_mod (pe_op op_sub (pv 11) (pv 7)) (pv 2)) (fun _ _ => rfl)))) (nomark _))
        (pss_one (ps_ret pe_bl)) pss_nil))))
    (pss_one (ps_ret (pe_cmpR op_eq (pe_call GG hr rfl DG.mg DG.kp DG.bi .nil pass0 (pa_cons (pe_op op_catT (pv 0) (pv 1)) pa_nil))
      (pe_op op_add (pe_call GG hr rfl DG.mg DG.kp DG.bi .nil pass0 (pa_cons (pv 0) pa_nil)) (pe_call GG hr rfl DG.mg DG.kp DG.bi .nil pass0 (pa_cons (pv 1) pa_nil))) (nomark _)))))), ?_⟩
  obtain ⟨xs, ha, hv⟩ := id hp
  obtain ⟨ys, hb, hw⟩ := id hq
  have hxs := hv.ne fp.ne
  have hys := hw.ne fq.ne
  have hfw := fp.wide
  have hfw2 := fq.wide
  have hfd := fp.dep
  have hfd2 := fq.dep
  obtain ⟨b1, b2, b3, b4⟩ := fp.app fq
  have hlen : xs.length + ys.length ≤ sizeLine := by
    rw [hv.len, hw.len]
    exact small64' (n := p.wide + q.wide) (by omega)
  have hm0 : (0 : Int) < (m : Int) := by omega
  -- one + other, at any time
  have cat : ∀ {H' : Hp} {t : Addr}, Same H H' → H' t = none → PgAt (upd H' t (.tup (xs ++ ys))) t (p.app q) := fun s ht => ⟨_, upd_same, ((hv.same s).same (same_new ht _)).app ((hw.same s).same (same_new ht _))⟩
  refine ⟨_, rfl, _, rfl, a, p, m, rfl, hp, fp.pool, fp.ok, by omega, h1, by omega, fun H1 d1 s1 hD1 => ?_⟩
  refine ⟨_, rfl, _, rfl, b, q, m, rfl, hq.same s1, fq.pool, fq.ok, by omega, h1, by omega, fun H2 d2 s2 hD2 => ?_⟩
  have s02 := s1.trans s2
  refine ⟨_, rfl, _, rfl, a, b, xs, ys, rfl, rfl, SqT.of (s02 _ _ ha), SqT.of (s02 _ _ hb), hxs, hlen, fun e => absurd e hys, fun _ t0 ht0 => ?_⟩
  have s3 := same_new ht0 (.tup (xs ++ ys))
  refine ⟨_, rfl, t0, p.app q, m, rfl, cat s02 ht0, b1, b2, b3, h1, by omega, fun H4 d3 s4 hD3 => ⟨_, _, _, rfl, ?_⟩⟩
  have s04 := s02.trans (s3.trans s4)
  have hD1' := hD1.same (s2.trans (s3.trans s4))
  have hD2' := hD2.same (s3.trans s4)
  -- zero, shift
  refine ⟨small64' (n := 1) (by omega), fun z0 hz0 => ⟨_, rfl, z0, (m : Int), _, rfl, rfl, upd_same, by omega, by omega, ?_, fun z hz => ?_⟩⟩
  · show 1 * ((m : Int)).toNat ≤ sizeLine
    rw [Nat.one_mul, Int.toNat_natCast]
    exact small64' (n := m) (by omega)
  have s5 := same_new hz0 (.lst [V.int 0])
  have s6 := same_new hz (.lst (List.replicate ((m : Int)).toNat [V.int 0]).flatten)
  have s06 := s04.trans (s5.trans s6)
  refine ⟨_, rfl, a, p, rfl, hp.same s06, fp.ok, by omega, by omega, fun H7 s7 => ⟨_, rfl, _, _, rfl, rfl, hm0, small64' (n := 2) (by omega), fun t1 ht1 => ?_⟩⟩
  have s8 := same_new ht1 (.tup [V.ref z, V.int (p.len % (m : Int))])
  refine ⟨t1, _, rfl, SqT.of upd_same, rfl, _, _, rfl, _, _, rfl, rfl, ?_⟩
  have hzr : (upd (upd H4 z0 (.lst [V.int 0])) z (.lst (List.replicate ((m : Int)).toNat [V.int 0]).flatten)) z = some (.lst (rowL m fun _ => 0)) := by
    rw [upd_same, Int.toNat_natCast, rep_zero]
  have hzr' := s8 _ _ (s7 _ _ hzr)
  have s08 := s06.trans (s7.trans s8)
  have s48 := s5.trans (s6.trans (s7.trans s8))
  have hE1 := hD1'.same s48
  have hE2 := hD2'.same s48
  have hE3 := hD3.same s48
  generalize upd H7 t1 (.tup [V.ref z, V.int (p.len % (m : Int))]) = H8 at hzr' s08 hE1 hE2 hE3
  -- for name in lines_of(one + other)
  refine ⟨_, rfl, _, rfl, a, b, xs, ys, rfl, rfl, SqT.of (s08 _ _ ha), SqT.of (s08 _ _ hb), hxs, hlen, fun e => absurd e hys, fun _ t2 ht2 => ?_⟩
  have s9 := same_new ht2 (.tup (xs ++ ys))
  refine ⟨t2, p.app q, rfl, cat s08 ht2, b1, b3, fun H10 tn s10 hn0 hn => ?_⟩
  have s8a := s9.trans s10
  refine ⟨tn, rfl, ⟨_, SqT.of hn⟩, for_tup (K := K) (a := tn) (xs := (p.app q).lines.map V.str) (fun j σ H' => ∃ v8 v9 v10 : Option V, σ = [some (.ref a), some (.ref b), some (.int m), some (.ref d1), some (.ref d2), some (.ref d3), some (.ref z), some (.int (p.len % (m : Int))), v8, v9, v10, none] ∧ Same H10 H')
    ⟨none, none, none, rfl, Same.refl H10⟩ (fun j σ H' _ ⟨_, _, _, _, sm⟩ => SqT.of (sm _ _ hn)) ?_ ?_⟩
  · rintro j y σ H' hy ⟨v8, v9, v10, rfl, sm⟩
    obtain ⟨nm, hnm, rfl⟩ := List.mem_map.mp (List.mem_of_getElem? hy)
    have s8' := s8a.trans sm
    obtain ⟨o1, g1, l1, e1, r1⟩ := get_row (hE1.same s8') (s8' _ _ hzr') nm
    obtain ⟨o2, g2, l2, e2, r2⟩ := get_row (hE2.same s8') (s8' _ _ hzr') nm
    have isD : ∀ {H : Hp} {d : Addr} {ns : List Str} {m : Nat} {F : Str → Int → Int}, DictAt H d ns m F → IsD H d := fun h => by
      obtain ⟨r, h, _⟩ := h
      exact .inl ⟨_, .inl h⟩
    refine ⟨_, rfl, d1, rfl, isD (hE1.same s8'), _, rfl, _, rfl, o1, g1, _, rfl, d2, rfl, isD (hE2.same s8'), _, rfl, _, rfl, o2, g2, small64' (n := 2) (by omega), fun t3 ht3 => ?_⟩
    rw [e1, e2]
    have s11 := same_new ht3 (.tup [V.ref l1, V.ref l2])
    refine ⟨t3, _, rfl, SqT.of upd_same, rfl, _, _, rfl, _, _, rfl, rfl, ?_⟩
    have r1' := s11 _ _ r1
    have r2' := s11 _ _ r2
    have hE3' := hE3.same (s8'.trans s11)
    have smA := sm.trans s11
    generalize upd H' t3 (.tup [V.ref l1, V.ref l2]) = HA at r1' r2' hE3' smA
    obtain ⟨r, hd3, hrw⟩ := hE3'
    have hget : DGet HA d3 (.str nm) (some (.ref (r nm))) := by
      have hv := val_map (f := fun x => V.ref (r x)) (x := nm) (ks := (p.app q).lines)
      rw [if_pos hnm] at hv
      exact .inl ⟨_, Sum.inr nm, .inl hd3, rfl, hv.symm⟩
    refine ⟨_, rfl, _, rfl, d3, _, rfl, hget, _, rfl, (m : Int), rfl, by omega, by omega, fun l hl => ?_⟩
    refine lc_range (lo := 0) (n := ((m : Int)).toNat) (fun c H' => Same HA H' ∧ H' l = some (.lst (rowL c fun c => p.cl m nm c + q.cl m nm (c - p.len)))) ⟨same_new hl _, upd_same⟩ ?_ ?_
    · rintro c H3 hc ⟨s12, h6⟩
      have hcm : c < m := by omega
      refine ⟨rfl, lc_yes ?_⟩
      have m1 := Int.emod_nonneg (0 + (c : Int) - p.len % (m : Int)) (show (m : Int) ≠ 0 by omega)
      have m2 := Int.emod_lt_of_pos (0 + (c : Int) - p.len % (m : Int)) hm0
      refine ⟨_, rfl, _, rfl, _, _, _, _, rfl, rfl, SqL.of (s12 _ _ r1'), at_row (cl_per m nm p) (by omega) (by omega), _, rfl, _, rfl, _, rfl, _, _, rfl, rfl, _, rfl, _, _, rfl, rfl, hm0, _, _, _, _, rfl, rfl, SqL.of (s12 _ _ r2'), at_row (cl_per m nm q) (by omega) (by omega), _, _, rfl, rfl, _, h6, ?_, fun x o hx => ?_, ?_⟩
      · rw [rowL_len]
        exact lt_line (by omega)
      · rw [upd_ne (ne_of_none hx hl)]
        exact s12 _ _ hx
      · rw [upd_same, rowL_snoc]
        have e3 : q.cl m nm ((0 + (c : Int) - p.len % (m : Int)) % (m : Int)) = q.cl m nm ((c : Int) - p.len) := by
          rw [(cl_per m nm q).mod (0 + (c : Int) - p.len % (m : Int)), Int.zero_add, shift_eq (cl_per m nm q)]
        rw [e3, Int.zero_add]
    · rintro H3 ⟨s12, h6⟩
      rw [Int.toNat_natCast] at h6
      have hB := s12 _ _ (hrw nm hnm)
      have eR : rowL m (fun c => (p.app q).cl m nm c) = rowL m fun c => p.cl m nm c + q.cl m nm (c - p.len) := rowL_congr fun c _ => cl_app m nm p q c
      rw [eR, rowL_ints] at hB
      rw [rowL_ints] at h6
      refine ⟨_, _, .lst (SqL.of hB) (dp_ints _), .lst (SqL.of h6) (dp_ints _), shaped_row _, shaped_row _, _, rfl, ?_⟩
      rw [PyData.eqv, eqv_ints]
      exact iteF ⟨_, _, _, rfl, smA.trans s12⟩
  · rintro σ H' ⟨v8, v9, v10, rfl, sm⟩
    have s0e := s08.trans (s8a.trans sm)
    refine ⟨_, rfl, _, rfl, a, b, xs, ys, rfl, rfl, SqT.of (s0e _ _ ha), SqT.of (s0e _ _ hb), hxs, hlen, fun e => absurd e hys, fun _ t4 ht4 => ?_⟩
    have sB := s0e.trans (same_new ht4 (.tup (xs ++ ys)))
    refine ⟨t4, p.app q, rfl, cat s0e ht4, b2, b3, b4, fun HB s13 => ?_⟩
    have sC := sB.trans s13
    refine ⟨_, rfl, a, p, rfl, hp.same sC, fp.ok, by omega, by omega, fun HC s14 => ⟨_, rfl, b, q, rfl, hq.same (sC.trans s14), fq.ok, by omega, by omega, fun HD s15 => ⟨_, _, rfl, rfl, rfl, ?_⟩⟩⟩
    rw [app_len, decide_eq_true rfl]
    exact k _ (sC.trans (s14.trans s15))
end
end Ev
/-! EvR3: _law_right. -/
namespace Ev
open PySem PySem.Spec PyProof.Rows L2
theorem lines_one (p : Pg) : (Pg.loop 1 p .nil).lines = p.lines := by
  unfold Pg.lines
  rw [nm_one]
theorem cl_once (m : Int) (x : Str) (p : Pg) (c : Int) : (Pg.loop 1 p .nil).cl m x c = p.cl m x c := by
  show (0 + p.cl m x (c - ((0 : Nat) : Int) * p.len)) + 0 = _
  rw [Int.natCast_zero, Int.zero_mul, Int.sub_zero]
  omega
theorem one_fit {p : Pg} (h : Fit p) : InPool (.loop 1 p .nil) ∧ (Pg.loop 1 p .nil).ok ∧ (Pg.loop 1 p .nil).dep ≤ 5 := by
  have h1 := h.dep
  have h2 := h.wide
  refine ⟨loop_pool h.pool, ⟨⟨by decide, by decide⟩, h.ok, h.ne, by omega, trivial⟩, ?_⟩
  show max (p.dep + 1) 0 ≤ 5
  omega
/-- where the finer classes tick alike, the coarser do -/
theorem flat_of {p : Pg} {m k : Nat} (hm : 0 < m) (hk : 0 < k) (h : Flat p (m * k)) : Flat p m := by
  intro x hx c d hc hd
  have e1 : ∀ i : Int, p.cl m x i = ((List.range k).map fun (j : Nat) => p.cl (m * k) x (i + j * m)).sum := fun i => by
    rw [pw_fold (f := fun y => p.cl (m * k) x y) (m := (m : Int)) (c := i) k]
    exact (cl_fold (by omega) hk x p i).symm
  rw [e1, e1]
  refine congrArg List.sum (List.map_congr_left fun j hj => ?_)
  have hj := List.mem_range.mp hj
  have q1 : (j + 1) * m ≤ k * m := Nat.mul_le_mul_right m hj
  rw [Nat.add_mul, Nat.one_mul, Nat.mul_comm k m] at q1
  have q := h x hx (c + j * m) (d + j * m) (by omega) (by omega)
  rw [Int.natCast_mul] at q
  rw [Int.natCast_add, Int.natCast_add, Int.natCast_mul] at q
  exact q
section
variable {P : Program} {w : World} {K : PySem.W.Frag} {mg : Str → Option Value} {base : Heap}
theorem scRight : FnScope ["_law_pot_here", "_law_program", "_law_modulus", "_law_often", "_law_table", "_law_finer", "_law_name", "_law_count"] ["_law_pot_here", "_law_program"] (defScope sRight) := ⟨rfl, rfl, rfl, by decide +kernel, rfl, by decide +kernel, by decide +kernel⟩
def spRight : Sp := fun vs H Q _ => ∃ (p a : Addr) (c : Nat) (R : Pg), vs = [.ref p, .ref a] ∧ PotAt H p c ∧ c ≤ 90000 ∧ PgAt H a R ∧ Fit R ∧ ∀ H', SameBut p H H' → PotAt H' p (c + 2) → Q (.bl true) H'
theorem ok_right {f t b o s i : Addr} {fd td bd od sd id' : FuncData} (T : Txt mg) (D : Def K mg "_law_right" sRight ["_law_pot_here", "_law_program"] f fd)
    (DT : Def K mg "_law_take" sTake ["_law_pot_here", "_law_many_here"] t td)
    (DB : Def K mg "class_table" sTable ["program", "modulus"] b bd) (GB : FnOk P w K mg base CX0 9 b bd ["program", "modulus"] spTable)
    (DF : Def K mg "_law_folded" sFolded ["_law_table", "_law_modulus"] o od)
    (DS : Def K mg "totals" sTotals ["program"] s sd) (GS : FnOk P w K mg base CX0 8 s sd ["program"] spTotals)
    (DE : Def K mg "is_even" sEven ["program", "modulus"] i id') (GE : FnOk P w K mg base CX0 10 i id' ["program", "modulus"] spEven) : FnOk P w K mg base CX0 11 f fd ["_law_pot_here", "_law_program"] spRight := by
  have GT : FnOk P w K mg base CX0 10 t td ["_law_pot_here", "_law_many_here"] spTake := ok_take DT
  have GF : FnOk P w K mg base CX0 10 o od ["_law_table", "_law_modulus"] spFolded := ok_folded T DF
  refine D.fn.ok scRight (fun vs H Q E h => ?_) (fun cdv A outer s H vs Q E hr h => ?_)
  · obtain ⟨p, a, c, R, rfl, _⟩ := h
    rfl
  obtain ⟨p, a, c, R, rfl, hp, hc, ha, fR, k⟩ := h
  have hr9 : Room 9 _ := hr.mono (by decide)
  have hr8 : Room 8 _ := hr.mono (by decide)
  refine ⟨_, pss_cons (ps_par (i := 2) (j := 3) rfl scRight.nd rfl rfl (by decide) rfl rfl (pa_cons (pe_op op_add pe_int (pe_call GT hr rfl DT.mg DT.kp DT.bi .nil pass0 (pa_cons (pv 0) (pa_cons pe_int pa_nil)))) (pa_cons (pe_op op_add pe_int (pe_call GT hr rfl DT.mg DT.kp DT.bi .nil pass0 (pa_cons (pv 0) (pa_cons pe_int pa_nil)))) pa_nil)) rfl)
    (pss_cons (ps_par (i := 4) (j := 5) rfl scRight.nd rfl rfl (by decide) rfl rfl (pa_cons (pe_call GB hr9 rfl DB.mg DB.kp DB.bi .nil pass0 (pa_cons (pv 1) (pa_cons (pv 2) pa_nil))) (pa_cons (pe_call GB hr9 rfl DB.mg DB.kp DB.bi .nil pass0 (pa_cons (pv 1) (pa_cons (pe_op op_mul (pv 2) (pv 3)) pa_nil))) pa_nil)) rfl)
    (pss_cons (ps_if (PW.pt (pw_or (pt_cmpR (op_neD hr.units) (pv 4) (pe_call GF hr rfl DF.mg DF.kp DF.bi .nil pass0 (pa_cons (pv 5) (pa_cons (pv 2) pa_nil))) (nomark _))
        (pw_or1 (pt_cmpR (op_neD hr.units) (pe_call GB hr9 rfl DB.mg DB.kp DB.bi .nil pass0 (pa_cons (pe_tup (pa_cons (pe_tup (pa_cons pe_str (pa_cons pe_int (pa_cons (pv 1) pa_nil)))) pa_nil)) (pa_cons (pv 2) pa_nil))) (pv 4) (nomark _))))) (pss_one (ps_ret pe_bl)) pss_nil)
    (pss_cons (ps_if (pt_cmpR (op_neD hr.units) (pe_call GB hr9 rfl DB.mg DB.kp DB.bi .nil pass0 (pa_cons (pv 1) (pa_cons pe_int pa_nil))) (pe_tup (pa_cons (pe_callTy call_tuple_of rfl T.tuple (by decide +kernel) (pa_cons
        (pe_lc (own := [("_law_name", 6), ("_law_count", 7)]) (g := gTup K 2 (gCons (gName 6) (gCons (gName 7) gNil))) rfl scRight.nd (pi_tup (pe_call GS hr8 rfl DS.mg DS.kp DS.bi .nil pass0 (pa_cons (pv 1) pa_nil))) (blkOk_by (N := ["_law_pot_here", "_law_program", "_law_modulus", "_law_often", "_law_table", "_law_finer", "_law_name", "_law_count"]) (sc := defScope sRight) (by decide +kernel))
          (fun _ _ _ _ _ => pg_tup rfl (pgs_cons (pg_name (i := 6) scRight.nd rfl (Or.inl rfl)) (pgs_cons (pg_name (i := 7) scRight.nd rfl (Or.inl rfl)) pgs_nil))) (fun _ _ _ _ _ => pts_nil) (fun _ _ _ _ _ => pv 7)) pa_nil)) pa_nil)) (nomark _)) (pss_one (ps_ret pe_bl)) pss_nil)
    (pss_one (ps_ret (pe_or (pe_cmpR op_isBl (pe_call GE hr rfl DE.mg DE.kp DE.bi .nil pass0 (pa_cons (pv 1) (pa_cons (pv 2) pa_nil))) pe_bl (nomark _))
      (pe_one (pe_cmpR op_isBl (pe_call GE hr rfl DE.mg DE.kp DE.bi .nil pass0 (pa_cons (pv 1) (pa_cons (pe_op op_mul (pv 2) (pv 3)) pa_nil))) pe_bl (nomark _))))))))), ?_⟩
  have hfd := fR.dep
  have hfw := fR.wide
  -- modulus, often
  refine ⟨_, rfl, p, 40, c, rfl, hp, by omega, ⟨by decide, by decide⟩, fun H1 r1 sb1 hp1 h10 h11 => ?_⟩
  refine ⟨_, _, rfl, rfl, _, rfl, p, 6, _, rfl, hp1, by omega, ⟨by decide, by decide⟩, fun H2 r2 sb2 hp2 h20 h21 => ?_⟩
  obtain ⟨m, em⟩ : ∃ m : Nat, 1 + r1 = (m : Int) := ⟨(1 + r1).toNat, by omega⟩
  obtain ⟨n, en⟩ : ∃ n : Nat, 1 + r2 = (n : Int) := ⟨(1 + r2).toNat, by omega⟩
  have hm1 : 1 ≤ m := by omega
  have hm2 : m ≤ 40 := by omega
  have hn1 : 1 ≤ n := by omega
  have hn2 : n ≤ 6 := by omega
  have hmn : m * n ≤ 40 * 6 := Nat.mul_le_mul hm2 hn2
  have hmn1 : 1 ≤ m * n := Nat.mul_pos hm1 hn1
  refine ⟨_, _, rfl, rfl, .int m, .int n, by show [V.int (1 + r1), V.int (1 + r2)] = _; rw [em, en], ?_⟩
  have sb := sb1.trans sb2
  have ha2 : PgAt H2 a R := ha.but hp sb
  have emul : V.int ((m : Int) * (n : Int)) = V.int ((m * n : Nat) : Int) := by rw [Int.natCast_mul]
  -- table, finer
  refine ⟨_, rfl, _, rfl, a, R, m, rfl, ha2, fR.pool, fR.ok, by omega, hm1, by omega, fun H3 t3 s3 hT3 => ?_⟩
  refine ⟨_, rfl, _, rfl, _, rfl, _, _, rfl, rfl, .inl ⟨by omega, by omega⟩, a, R, m * n, by show [V.ref a, V.int ((m : Int) * (n : Int))] = _; rw [emul], ha2.same s3, fR.pool, fR.ok, by omega, hmn1, by omega, fun H4 t4 s4 hT4 => ⟨_, _, rfl, ?_⟩⟩
  have hT3' := hT3.same s4
  have s24 := s3.trans s4
  have h8 := lines_few fR.pool
  -- table != folded
  refine ⟨_, rfl, _, rfl, _, rfl, t4, R.lines, m, n, _, rfl, hT4, by omega, hm1, hn1, by omega, fun H5 t5 s5 hT5 => ?_⟩
  have hT35 := hT3'.same s5
  have eF : rowsT R.lines m (fun x c => pw (-(m : Int)) (fun c => R.cl ((m * n : Nat) : Int) x c) n c) = rowsT R.lines m (fun x c => R.cl m x c) := rowsT_congr fun x _ c _ => by
    show pw (-(m : Int)) (fun c => R.cl ((m * n : Nat) : Int) x c) n c = R.cl m x c
    rw [Int.natCast_mul]
    exact cl_fold (by omega) (by omega) x R c
  have dF := hT5.dp (K := K)
  rw [eF] at dF
  refine ⟨_, _, hT35.dp, dF, shaped_tab _, shaped_tab _, _, rfl, ?_⟩
  rw [PyData.eqv, eqv_tab]
  refine iteF ?_
  -- class_table of the loop
  obtain ⟨o1, o2, o3⟩ := one_fit fR
  have s25 := s24.trans s5
  refine ⟨_, rfl, small64' (n := 3) (by omega), fun u hu => ⟨small64' (n := 1) (by omega), fun v hv => ?_⟩⟩
  have s6 := same_new hu (.tup [V.str kLoop, V.int 1, V.ref a])
  have s7 := same_new hv (.tup [V.ref u])
  have s27 := s25.trans (s6.trans s7)
  have hL : PgAt (upd (upd H5 u (.tup [V.str kLoop, V.int 1, V.ref a])) v (.tup [V.ref u])) v (.loop 1 R .nil) := ⟨_, upd_same, one_loop (s7 _ _ upd_same) (ha2.same s27)⟩
  refine ⟨_, rfl, v, _, m, rfl, hL, o1, o2, o3, hm1, by omega, fun H8 t8 s8 hT8 => ⟨_, rfl, ?_⟩⟩
  have hT38 := hT35.same (s6.trans (s7.trans s8))
  rw [lines_one] at hT8
  have eL : rowsT R.lines m (fun x c => (Pg.loop 1 R .nil).cl m x c) = rowsT R.lines m (fun x c => R.cl m x c) := rowsT_congr fun x _ c _ => cl_once m x R c
  have dL := hT8.dp (K := K)
  rw [eL] at dL
  refine ⟨_, _, dL, hT38.dp, shaped_tab _, shaped_tab _, _, rfl, ?_⟩
  rw [PyData.eqv, eqv_tab]
  refine iteF ?_
  -- class_table of 1, totals
  have s28 := s27.trans s8
  refine ⟨_, rfl, a, R, 1, rfl, ha2.same s28, fR.pool, fR.ok, by omega, Nat.le_refl _, by decide, fun H9 t9 s9 hT9 => ?_⟩
  have s29 := s28.trans s9
  refine ⟨_, rfl, a, R, rfl, ha2.same s29, fR.pool, fR.ok, by omega, fun H10 t10 ps s10 h10 hps hpz => ?_⟩
  refine ⟨t10, rfl, ⟨_, SqT.of h10⟩, fun l hl => ?_⟩
  have hpl : ps.length = R.lines.length := by
    have q := congrArg List.length hps
    rw [List.length_map, List.length_map] at q
    exact q
  refine lc_tup (K := K) (a := t10) (xs := ps.map fun z => V.ref z.1) (fun j H' => Same H10 H' ∧ H' l = some (.lst (((ps.take j).map fun z => z.2.2).map V.int))) ⟨same_new hl _, upd_same⟩ (fun j H' _ ⟨sm, _⟩ => SqT.of (sm _ _ h10)) ?_ ?_
  · rintro j y H' hy ⟨sm, h6⟩
    have hj : j < ps.length := by
      have q1 := (List.getElem?_eq_some_iff.mp hy).1
      rw [List.length_map] at q1
      exact q1
    have ex : ps[j]? = some ps[j] := List.getElem?_eq_getElem hj
    have ey : y = V.ref ps[j].1 := by
      rw [List.getElem?_map, ex] at hy
      exact (Option.some.inj hy).symm
    subst ey
    have hz := sm _ _ (hpz _ (List.getElem_mem hj))
    refine ⟨_, _, rfl, SqT.of hz, rfl, _, _, rfl, _, _, rfl, rfl, rfl, lc_yes ?_⟩
    refine ⟨_, rfl, _, h6, ?_, fun x o hx => ?_, ?_⟩
    · rw [List.length_map, List.length_map, List.length_take]
      exact lt_line (by omega)
    · rw [upd_ne (ne_of_none hx hl)]
      exact sm _ _ hx
    · rw [upd_same, take_next' ex, List.map_append, List.map_append]
      rfl
  · rintro H' ⟨sm, h6⟩
    rw [List.length_map, List.take_length] at h6
    have eT : (ps.map fun z => z.2.2) = R.lines.map fun x => R.cl 1 x 0 := by
      have q := congrArg (List.map fun z : Str × Int => z.2) hps
      rw [List.map_map, List.map_map] at q
      refine q.trans (List.map_congr_left fun x _ => ?_)
      exact (cl_one x R fR.ok 0).symm
    rw [eT] at h6
    refine ⟨l, _, rfl, .inl ⟨SqL.of h6, fun u1 hu1 => ⟨small64' (n := 1) (by omega), fun u2 hu2 => ?_⟩⟩⟩
    have sa := same_new hu1 (.tup ((R.lines.map fun x => R.cl 1 x 0).map V.int))
    have sb3 := same_new hu2 (.tup [V.ref u1])
    have s9e := s10.trans (sm.trans (sa.trans sb3))
    have dU : Dp K (upd (upd H' u1 (.tup ((R.lines.map fun x => R.cl 1 x 0).map V.int))) u2 (.tup [V.ref u1])) (.ref u2) (.tuple (dTab (rowsT R.lines 1 fun x c => R.cl ((1 : Nat) : Int) x c))) :=
      .tup (SqT.of upd_same) (.cons (.tup (SqT.of (sb3 _ _ upd_same)) (dp_ints _)) .nil)
    refine ⟨_, _, (hT9.same s9e).dp, dU, shaped_tab _, shaped_tab _, _, rfl, ?_⟩
    rw [PyData.eqv, eqv_tab]
    refine iteF ?_
    -- is_even
    have s2e := s29.trans s9e
    refine ⟨_, rfl, _, rfl, a, R, m, rfl, ha2.same s2e, fR.pool, fR.ok, by omega, hm1, by omega, fun H12 b1 s12 hb1 => ⟨b1, true, rfl, rfl, _, rfl, ?_⟩⟩
    have fin : ∀ H', Same H2 H' → Q (.bl true) H' := fun H' sx => k H' (sb.trans (Same.but sx p)) (hp2.same sx)
    refine ite2 (fun _ => fin _ (s2e.trans s12)) fun e => ?_
    have hb1f : ¬ Flat R m := fun z => e (decide_eq_true (hb1.mpr z))
    refine ⟨_, rfl, _, rfl, _, rfl, _, _, rfl, rfl, .inl ⟨by omega, by omega⟩, a, R, m * n, by show [V.ref a, V.int ((m : Int) * (n : Int))] = _; rw [emul], ha2.same (s2e.trans s12), fR.pool, fR.ok, by omega, hmn1, by omega, fun H13 b2 s13 hb2 => ⟨b2, false, rfl, rfl, ?_⟩⟩
    have hb2f : b2 = false := Bool.eq_false_iff.mpr fun z => hb1f (flat_of hm1 hn1 (hb2.mp z))
    rw [decide_eq_true hb2f]
    exact fin _ (s2e.trans (s12.trans s13))
end
end Ev
/-! EvR4: law. -/
namespace Ev
open PySem PySem.Spec PyProof.Rows L2
theorem Good.fit {p : Pg} {d w : Nat} (h : Good p d w) (hd : d ≤ 4) (hw : w ≤ 50) : Fit p := ⟨h.pool, h.ok, Nat.le_trans h.dep hd, Nat.le_trans h.wide hw, h.ne⟩
theorem line_fit {n : Str} {t : Int} (hn : n ∈ pool) (h1 : 1 ≤ t) (h2 : t ≤ 10 ^ 12) : Fit (.line n t .nil) := ⟨line_pool hn, ⟨⟨h1, h2⟩, trivial⟩, Nat.zero_le _, by show 1 ≤ 50; decide, fun z => nomatch z⟩
/-- what is changed at a new pot alone leaves all the old -/
theorem old_new {p : Addr} {H H1 H' : Hp} (s : Same H H1) (hp : H p = none) (sb : SameBut p H1 H') : Same H H' := fun b o e => sb b o (s b o e) (ne_of_none e hp)
section
variable {P : Program} {w : World} {K : PySem.W.Frag} {mg : Str → Option Value} {base : Heap}
theorem scLaw : FnScope ["_law_script", "_law_k", "_law_pot_here", "_law_great_here", "_law_small_here", "_law_word", "_law_modulus"] ["_law_script"] (defScope sLaw) := ⟨rfl, rfl, rfl, by decide +kernel, rfl, by decide +kernel, by decide +kernel⟩
def spLaw (K : PySem.W.Frag) : Sp := fun vs H Q _ => ∃ (a : Addr) (ns : List Int), vs = [.ref a] ∧ SqL K H a (ns.map V.int) ∧ ns.length ≤ 63 ∧ ∀ H', Q (.bl true) H'
theorem ok_law {f p t o n g j s r m : Addr} {fd pd td od nd gd jd sd rd md : FuncData} (T : Txt mg) (D : Def K mg "law" sLaw ["_law_script"] f fd)
    (DP : Def K mg "_law_pot" sPot ["_law_script", "_law_k"] p pd) (DT : Def K mg "_law_take" sTake ["_law_pot_here", "_law_many_here"] t td) (DO : Def K mg "_law_of" sOf ["_law_pot_here", "_law_some"] o od)
    (DN : Def K mg "_law_names" sLNames ["_law_pot_here", "_law_many_here"] n nd) (DG : Def K mg "_law_great" sGreat ["_law_pot_here", "_law_names_here", "_law_depth"] g gd)
    (DS : Def K mg "_law_small" sSmall ["_law_pot_here", "_law_most"] s sd) (GS : FnOk P w K mg base CX0 6 s sd ["_law_pot_here", "_law_most"] spSmall)
    (DR : Def K mg "_law_right" sRight ["_law_pot_here", "_law_program"] r rd) (GR : FnOk P w K mg base CX0 11 r rd ["_law_pot_here", "_law_program"] spRight)
    (DM : Def K mg "_law_many" sMany ["_law_items_here"] m md) (DJ : Def K mg "_law_joined_right" sJR ["_law_one", "_law_other", "_law_modulus"] j jd) (GJ : FnOk P w K mg base CX0 13 j jd ["_law_one", "_law_other", "_law_modulus"] spJR) :
    FnOk P w K mg base CX0 14 f fd ["_law_script"] (spLaw K) := by
  have GP : FnOk P w K mg base CX0 1 p pd ["_law_script", "_law_k"] (spPot K) := ok_pot T DP
  have GT : FnOk P w K mg base CX0 1 t td ["_law_pot_here", "_law_many_here"] spTake := ok_take DT
  have GN : FnOk P w K mg base CX0 2 n nd ["_law_pot_here", "_law_many_here"] spLNames := ok_lnames T DN DT
  have GG : FnOk P w K mg base CX0 6 g gd ["_law_pot_here", "_law_names_here", "_law_depth"] (spGreat 3) := great_all T DG DT DO 3
  have GM : FnOk P w K mg base CX0 6 m md ["_law_items_here"] (spMany 5) := many_all T DM 5
  refine D.fn.ok scLaw (fun vs H Q E h => ?_) (fun cdv A outer st H vs Q E hr h => ?_)
  · obtain ⟨a, ns, rfl, _⟩ := h
    rfl
  obtain ⟨a, ns, rfl, hS, h63, q⟩ := h
  have hr1 : Room 1 _ := hr.mono (by decide)
  have hr2 : Room 2 _ := hr.mono (by decide)
  have hr6 : Room 6 _ := hr.mono (by decide)
  have hr11 : Room 11 _ := hr.mono (by decide)
  refine ⟨_, pss_cons (ps_for PassesOwn.never rfl (pi_range1 rfl T.range (pa_cons (pe_callB (call_max2 rfl) (by rfl) T.max (by decide +kernel) (pa_cons pe_int (pa_cons (pe_callB (call_min2 rfl) (by rfl) T.min (by decide +kernel) (pa_cons pe_int (pa_cons (pe_callB call_len_seq rfl T.len PySem.boot_len (pa_cons (pv 0) pa_nil)) pa_nil))) pa_nil))) pa_nil)) (pg_name (i := 1) scLaw.nd rfl (.inl rfl))
      (pss_cons (ps_set (i := 2) scLaw.nd rfl (.inl rfl) (pe_call GP hr1 rfl DP.mg DP.kp DP.bi .nil pass0 (pa_cons (pv 0) (pa_cons (pv 1) pa_nil))))
      (pss_cons (ps_asg (pe_tup (pa_cons (pe_call GG hr6 rfl DG.mg DG.kp DG.bi .nil pass0 (pa_cons (pv 2) (pa_cons (pe_call GN hr2 rfl DN.mg DN.kp DN.bi .nil pass0 (pa_cons (pv 2) (pa_cons pe_int pa_nil))) (pa_cons pe_int pa_nil))))
          (pa_cons (pe_call GS hr6 rfl DS.mg DS.kp DS.bi .nil pass0 (pa_cons (pv 2) (pa_cons pe_int pa_nil))) pa_nil)))
        (pg_tup rfl (pgs_cons (pg_name (i := 3) scLaw.nd rfl (.inl rfl)) (pgs_cons (pg_tup rfl (pgs_cons (pg_name (i := 4) scLaw.nd rfl (.inl rfl)) (pgs_cons (pg_name (i := 5) scLaw.nd rfl (.inl rfl)) pgs_nil))) pgs_nil))))
      (pss_cons (ps_if (PW.pt (pw_or (pt_not (pt_val (pe_call GR hr11 rfl DR.mg DR.kp DR.bi .nil pass0 (pa_cons (pv 2) (pa_cons (pv 3) pa_nil))))) (pw_or1 (pt_not (pt_val (pe_call GR hr11 rfl DR.mg DR.kp DR.bi .nil pass0 (pa_cons (pv 2) (pa_cons (pv 4) pa_nil)))))))) (pss_one (ps_ret pe_bl)) pss_nil)
      (pss_cons (ps_set (i := 6) scLaw.nd rfl (.inl rfl) (pe_op op_add pe_int (pe_call GT hr1 rfl DT.mg DT.kp DT.bi .nil pass0 (pa_cons (pv 2) (pa_cons pe_int pa_nil)))))
      (pss_cons (ps_if (pt_cmpR op_gt (pe_call GM hr6 rfl DM.mg DM.kp DM.bi .nil pass0 (pa_cons (pe_op op_catT (pv 3) (pv 4)) pa_nil)) pe_int (nomark _))
          (pss_one (ps_set (i := 4) scLaw.nd rfl (.inl rfl) (pe_tup (pa_cons (pe_tup (pa_cons pe_str (pa_cons (pe_ix ix_list (pv 5) pe_int (fun _ _ => rfl)) (pa_cons (pe_callB call_len_seq rfl T.len PySem.boot_len (pa_cons (pv 5) pa_nil)) pa_nil)))) pa_nil)))) pss_nil)
      (pss_one (ps_if (PW.pt (pw_or (pt_not (pt_val (pe_call GJ hr rfl DJ.mg DJ.kp DJ.bi .nil pass0 (pa_cons (pv 3) (pa_cons (pv 4) (pa_cons (pv 6) pa_nil)))))) (pw_or1 (pt_not (pt_val (pe_call GJ hr rfl DJ.mg DJ.kp DJ.bi .nil pass0 (pa_cons (pv 4) (pa_cons (pv 3) (pa_cons (pv 6) pa_nil))))))))) (pss_one (ps_ret pe_bl)) pss_nil))))))))
    (pss_one (ps_ret pe_bl)), ?_⟩
  refine ⟨_, rfl, a, _, rfl, .inl hS, _, _, rfl, _, _, rfl, _, rfl, ?_, ?_, ?_⟩
  · split <;> (try split) <;> omega
  · split <;> (try split) <;> omega
  refine for_range (lo := 0) (n := (if (if (((ns.map V.int).length : Nat) : Int) < 2 then (((ns.map V.int).length : Nat) : Int) else 2) > 1 then (if (((ns.map V.int).length : Nat) : Int) < 2 then (((ns.map V.int).length : Nat) : Int) else 2) else 1).toNat)
    (fun c σ H' => ∃ v1 v2 v3 v4 v5 v6 : Option V, σ = [some (.ref a), v1, v2, v3, v4, v5, v6] ∧ Same H H') ⟨none, none, none, none, none, none, rfl, Same.refl H⟩ ?_ ?_
  · rintro c σ H0 hc ⟨v1, v2, v3, v4, v5, v6, rfl, s0⟩
    have hc2 : c ≤ 100 := by
      have e : (if (if (((ns.map V.int).length : Nat) : Int) < 2 then (((ns.map V.int).length : Nat) : Int) else 2) > 1 then (if (((ns.map V.int).length : Nat) : Int) < 2 then (((ns.map V.int).length : Nat) : Int) else 2) else 1).toNat ≤ 100 := by
        split <;> (try split) <;> omega
      omega
    -- pot
    refine ⟨_, rfl, _, rfl, a, ns, 0 + (c : Int), rfl, s0.seq hS, ⟨by omega, by omega⟩, fun H1 p s1 hpn hp1 => ?_⟩
    -- great, (small, word)
    refine ⟨_, rfl, _, rfl, p, _, 3, rfl, hp1, by decide, ⟨by decide, by decide⟩, fun H2 nl names sb2 hnl0 hnlp hnl hnlen hnin hp2 => ?_⟩
    refine ⟨p, nl, _, 3, names, rfl, hp2, by decide, hnl, hnlp, by omega, by omega, hnin, ⟨by decide, by decide⟩, fun H3 tg R sb3 hR gR hp3 => ?_⟩
    refine ⟨_, rfl, p, _, rfl, hp3, by decide, fun H4 ts as lw S word sb4 hts hA gA hlw hw1 hw2 hwin hlwp hp4 => ⟨small64' (n := 2) (by omega), fun u hu => ?_⟩⟩
    have s5 := same_new hu (.tup [V.ref tg, V.ref ts])
    refine ⟨u, _, rfl, SqT.of upd_same, rfl, _, _, rfl, _, _, rfl, ts, _, rfl, SqT.of (s5 _ _ hts), rfl, _, _, rfl, _, _, rfl, rfl, rfl, ?_⟩
    have sb25 : SameBut p H1 (upd H4 u (.tup [V.ref tg, V.ref ts])) := sb2.trans (sb3.trans (sb4.trans (Same.but s5 p)))
    have hR5 := (hR.but hp3 sb4).same s5
    have hA5 := hA.same s5
    have hlw5 := s5 _ _ hlw
    have hp5 := hp4.same s5
    have fR := gR.fit (by decide) (by decide)
    have fA := gA.fit (by decide) (by decide)
    generalize upd H4 u (.tup [V.ref tg, V.ref ts]) = H5 at sb25 hR5 hA5 hlw5 hp5
    -- right, twice
    refine ⟨_, rfl, _, rfl, p, tg, _, R, rfl, hp5, by decide, hR5, fR, fun H6 sb6 hp6 => ⟨_, rfl, ?_⟩⟩
    refine iteF ?_
    have hA6 := hA5.but hp5 sb6
    have hR6 := hR5.but hp5 sb6
    have hlw6 := sb6 _ _ hlw5 hlwp
    refine ⟨_, rfl, _, rfl, p, as, _, S, rfl, hp6, by decide, hA6, fA, fun H7 sb7 hp7 => ⟨_, rfl, ?_⟩⟩
    refine iteF ?_
    have hA7 := hA6.but hp6 sb7
    have hR7 := hR6.but hp6 sb7
    have hlw7 := sb7 _ _ hlw6 hlwp
    -- modulus
    refine ⟨_, rfl, p, 40, _, rfl, hp7, by decide, ⟨by decide, by decide⟩, fun H8 r1 sb8 hp8 h10 h11 => ⟨_, _, rfl, rfl, ?_⟩⟩
    obtain ⟨m', em⟩ : ∃ m' : Nat, 1 + r1 = (m' : Int) := ⟨(1 + r1).toNat, by omega⟩
    have hA8 := hA7.but hp7 sb8
    have hR8 := hR7.but hp7 sb8
    have hlw8 := sb8 _ _ hlw7 hlwp
    have sb18 := sb25.trans (sb6.trans (sb7.trans sb8))
    have s08 : Same H0 H8 := old_new s1 hpn sb18
    -- many
    obtain ⟨xs, hx, hv⟩ := id hR8
    obtain ⟨ys, hy, hw⟩ := id hA8
    have hxs := hv.ne fR.ne
    have hys := hw.ne fA.ne
    have hfw := fR.wide
    have hfw2 := fA.wide
    obtain ⟨b1, b2, b3, b4⟩ := fR.app fA
    have hlen : xs.length + ys.length ≤ sizeLine := by
      rw [hv.len, hw.len]
      exact small64' (n := R.wide + S.wide) (by omega)
    refine ⟨_, rfl, _, rfl, tg, as, xs, ys, rfl, rfl, SqT.of hx, SqT.of hy, hxs, hlen, fun e => absurd e hys, fun _ u2 hu2 => ?_⟩
    have s9 := same_new hu2 (.tup (xs ++ ys))
    refine ⟨u2, R.app S, rfl, ⟨_, upd_same, (hv.same s9).app (hw.same s9)⟩, b2, b3, b4, fun H10 z s10 => ⟨_, _, rfl, rfl, _, rfl, ?_⟩⟩
    have s8a := s9.trans s10
    have hR10 := hR8.same s8a
    have hA10 := hA8.same s8a
    have hlw10 := s8a _ _ hlw8
    have s0a := s08.trans s8a
    refine ite2 (fun _ => ?yes) (fun _ => ?no)
    case' yes =>
      obtain ⟨w0, wr, rfl⟩ : ∃ w0 wr, word = w0 :: wr := by
        cases word with
        | nil => exact absurd hw1 (by decide)
        | cons x r => exact ⟨x, r, rfl⟩
      refine ⟨_, rfl, lw, _, _, _, rfl, rfl, SqL.of hlw10, at0, _, rfl, lw, _, rfl, .inl (SqL.of hlw10), small64' (n := 3) (by omega), fun u3 hu3 => ⟨small64' (n := 1) (by omega), fun u4 hu4 => ?_⟩⟩
      have s11 := same_new hu3 (.tup [V.str kLine, V.str w0, V.int ((((w0 :: wr).map V.str).length : Nat) : Int)])
      have s12 := same_new hu4 (.tup [V.ref u3])
      obtain ⟨H12, hH12⟩ : ∃ H12, H12 = upd (upd H10 u3 (.tup [V.str kLine, V.str w0, V.int ((((w0 :: wr).map V.str).length : Nat) : Int)])) u4 (.tup [V.ref u3]) := ⟨_, rfl⟩
      obtain ⟨S', hS'⟩ : ∃ S', S' = Pg.line w0 ((((w0 :: wr).map V.str).length : Nat) : Int) .nil := ⟨_, rfl⟩
      have hA12 : PgAt H12 u4 S' := by
        rw [hH12, hS']
        exact ⟨_, upd_same, one_line (s12 _ _ upd_same)⟩
      have fS : Fit S' := by
        rw [hS']
        refine line_fit (hwin w0 List.mem_cons_self) ?_ ?_
        · rw [List.length_map]; omega
        · rw [List.length_map]
          have e : (10 : Int) ^ 12 = 1000000000000 := by decide
          omega
      have hR12 : PgAt H12 tg R := by rw [hH12]; exact hR10.same (s11.trans s12)
      have s0b : Same H0 H12 := by rw [hH12]; exact s0a.trans (s11.trans s12)
      rw [← hH12]
      clear hH12 hS' s11 s12 hu3 hu4 hlw10 hlw8 hlw7 hlw6 hlw5 hlw hw1 hw2 hwin
    case' no =>
      have hA12 := hA10
      have fS := fA
      have hR12 := hR10
      have s0b := s0a
    all_goals
      refine ⟨_, rfl, _, rfl, _, rfl, tg, _, R, _, m', by rw [← em]; rfl, hR12, hA12, fR, fS, by omega, by omega, fun H13 s13 => ⟨_, rfl, ?_⟩⟩
      refine iteF ?_
      refine ⟨_, rfl, _, rfl, _, rfl, _, tg, _, R, m', by rw [← em]; rfl, hA12.same s13, hR12.same s13, fS, fR, by omega, by omega, fun H14 s14 => ⟨_, rfl, ?_⟩⟩
      refine iteF ?_
      exact ⟨_, _, _, _, _, _, rfl, s0.trans (s0b.trans (s13.trans s14))⟩
  · rintro σ H' ⟨v1, v2, v3, v4, v5, v6, rfl, s0⟩
    exact q H'
end
end Ev
/-! EvEnd: the top's facts, the defs, the claim. -/
namespace Ev
open PySem PySem.Spec PyProof.Rows L2
theorem tops {l : PySem.W.OpenLaw} {w : World} {K : PySem.W.Frag} {h : Heap} {mg : Str → Option Value} {fa f0 f1 f2 f3 f4 f5 f6 f7 f8 f9 f10 f11 f12 f13 f14 f15 f16 f17 f18 f19 f20 f21 f22 f23 f24 f25 f26 f27 : Addr} {lt : Tok} (X : K.In h) (G : h.Ns mainGlobals mg) (hfa : mg "law" = some (.ref fa))
    {od0 an0 od1 an1 od2 an2 od3 an3 od4 an4 od5 an5 od6 an6 od7 an7 od8 an8 od9 an9 od10 an10 od11 an11 od12 an12 od13 an13 od14 an14 od15 an15 od16 an16 od17 an17 od18 an18 od19 an19 od20 an20 od21 an21 od22 an22 od23 an23 od24 an24 od25 an25 od26 an26 od27 an27 : Option Addr} {sl0 sl1 sl2 sl3 sl4 sl5 sl6 sl7 sl8 sl9 sl10 sl11 sl12 sl13 sl14 sl15 sl16 sl17 sl18 sl19 sl20 sl21 sl22 sl23 sl24 sl25 sl26 sl27 : Array (Option Value)} {oc0 kV0 dc0 pm0 cd0 ct0 oc1 kV1 dc1 pm1 cd1 ct1 oc2 kV2 dc2 pm2 cd2 ct2 oc3 kV3 dc3 pm3 cd3 ct3 oc4 kV4 dc4 pm4 cd4 ct4 oc5 kV5 dc5 pm5 cd5 ct5 oc6 kV6 dc6 pm6 cd6 ct6 oc7 kV7 dc7 pm7 cd7 ct7 oc8 kV8 dc8 pm8 cd8 ct8 oc9 kV9 dc9 pm9 cd9 ct9 oc10 kV10 dc10 pm10 cd10 ct10 oc11 kV11 dc11 pm11 cd11 ct11 oc12 kV12 dc12 pm12 cd12 ct12 oc13 kV13 dc13 pm13 cd13 ct13 oc14 kV14 dc14 pm14 cd14 ct14 oc15 kV15 dc15 pm15 cd15 ct15 oc16 kV16 dc16 pm16 cd16 ct16 oc17 kV17 dc17 pm17 cd17 ct17 oc18 kV18 dc18 pm18 cd18 ct18 oc19 kV19 dc19 pm19 cd19 ct19 oc20 kV20 dc20 pm20 cd20 ct20 oc21 kV21 dc21 pm21 cd21 ct21 oc22 kV22 dc22 pm22 cd22 ct22 oc23 kV23 dc23 pm23 cd23 ct23 oc24 kV24 dc24 pm24 cd24 ct24 oc25 kV25 dc25 pm25 cd25 ct25 oc26 kV26 dc26 pm26 cd26 ct26 oc27 kV27 dc27 pm27 cd27 ct27 : Value}
    (a0 : PySem.W.nsIn K mainGlobals "item_length" = some (some (.ref f0))) (l0 : K.lookup f0 = some ⟨oc0, od0, .func (PySem.W.fnOf "item_length" "item_length" (defArgs sItem) (defBody sItem) (defScope sItem) .none kV0 dc0 pm0 an0 cd0 ct0), sl0⟩) (c0 : PySem.W.codeIn K cd0 "item_length" = true) (k0 : PySem.W.keepIn K (.ref f0) = true)
    (a1 : PySem.W.nsIn K mainGlobals "length" = some (some (.ref f1))) (l1 : K.lookup f1 = some ⟨oc1, od1, .func (PySem.W.fnOf "length" "length" (defArgs sLen) (defBody sLen) (defScope sLen) .none kV1 dc1 pm1 an1 cd1 ct1), sl1⟩) (c1 : PySem.W.codeIn K cd1 "length" = true) (k1 : PySem.W.keepIn K (.ref f1) = true)
    (a2 : PySem.W.nsIn K mainGlobals "names_of" = some (some (.ref f2))) (l2 : K.lookup f2 = some ⟨oc2, od2, .func (PySem.W.fnOf "names_of" "names_of" (defArgs sNames) (defBody sNames) (defScope sNames) .none kV2 dc2 pm2 an2 cd2 ct2), sl2⟩) (c2 : PySem.W.codeIn K cd2 "names_of" = true) (k2 : PySem.W.keepIn K (.ref f2) = true)
    (a3 : PySem.W.nsIn K mainGlobals "lines_of" = some (some (.ref f3))) (l3 : K.lookup f3 = some ⟨oc3, od3, .func (PySem.W.fnOf "lines_of" "lines_of" (defArgs sLines) (defBody sLines) (defScope sLines) .none kV3 dc3 pm3 an3 cd3 ct3), sl3⟩) (c3 : PySem.W.codeIn K cd3 "lines_of" = true) (k3 : PySem.W.keepIn K (.ref f3) = true)
    (a4 : PySem.W.nsIn K mainGlobals "add_counts" = some (some (.ref f4))) (l4 : K.lookup f4 = some ⟨oc4, od4, .func (PySem.W.fnOf "add_counts" "add_counts" (defArgs sAddC) (defBody sAddC) (defScope sAddC) .none kV4 dc4 pm4 an4 cd4 ct4), sl4⟩) (c4 : PySem.W.codeIn K cd4 "add_counts" = true) (k4 : PySem.W.keepIn K (.ref f4) = true)
    (a5 : PySem.W.nsIn K mainGlobals "counts_of" = some (some (.ref f5))) (l5 : K.lookup f5 = some ⟨oc5, od5, .func (PySem.W.fnOf "counts_of" "counts_of" (defArgs sCounts) (defBody sCounts) (defScope sCounts) .none kV5 dc5 pm5 an5 cd5 ct5), sl5⟩) (c5 : PySem.W.codeIn K cd5 "counts_of" = true) (k5 : PySem.W.keepIn K (.ref f5) = true)
    (a6 : PySem.W.nsIn K mainGlobals "totals" = some (some (.ref f6))) (l6 : K.lookup f6 = some ⟨oc6, od6, .func (PySem.W.fnOf "totals" "totals" (defArgs sTotals) (defBody sTotals) (defScope sTotals) .none kV6 dc6 pm6 an6 cd6 ct6), sl6⟩) (c6 : PySem.W.codeIn K cd6 "totals" = true) (k6 : PySem.W.keepIn K (.ref f6) = true)
    (a7 : PySem.W.nsIn K mainGlobals "nothing" = some (some (.ref f7))) (l7 : K.lookup f7 = some ⟨oc7, od7, .func (PySem.W.fnOf "nothing" "nothing" (defArgs sNothing) (defBody sNothing) (defScope sNothing) .none kV7 dc7 pm7 an7 cd7 ct7), sl7⟩) (c7 : PySem.W.codeIn K cd7 "nothing" = true) (k7 : PySem.W.keepIn K (.ref f7) = true)
    (a8 : PySem.W.nsIn K mainGlobals "joined" = some (some (.ref f8))) (l8 : K.lookup f8 = some ⟨oc8, od8, .func (PySem.W.fnOf "joined" "joined" (defArgs sJoined) (defBody sJoined) (defScope sJoined) .none kV8 dc8 pm8 an8 cd8 ct8), sl8⟩) (c8 : PySem.W.codeIn K cd8 "joined" = true) (k8 : PySem.W.keepIn K (.ref f8) = true)
    (a9 : PySem.W.nsIn K mainGlobals "line_block" = some (some (.ref f9))) (l9 : K.lookup f9 = some ⟨oc9, od9, .func (PySem.W.fnOf "line_block" "line_block" (defArgs sLineB) (defBody sLineB) (defScope sLineB) .none kV9 dc9 pm9 an9 cd9 ct9), sl9⟩) (c9 : PySem.W.codeIn K cd9 "line_block" = true) (k9 : PySem.W.keepIn K (.ref f9) = true)
    (a10 : PySem.W.nsIn K mainGlobals "repeated" = some (some (.ref f10))) (l10 : K.lookup f10 = some ⟨oc10, od10, .func (PySem.W.fnOf "repeated" "repeated" (defArgs sRep) (defBody sRep) (defScope sRep) .none kV10 dc10 pm10 an10 cd10 ct10), sl10⟩) (c10 : PySem.W.codeIn K cd10 "repeated" = true) (k10 : PySem.W.keepIn K (.ref f10) = true)
    (a11 : PySem.W.nsIn K mainGlobals "block_of" = some (some (.ref f11))) (l11 : K.lookup f11 = some ⟨oc11, od11, .func (PySem.W.fnOf "block_of" "block_of" (defArgs sBlock) (defBody sBlock) (defScope sBlock) .none kV11 dc11 pm11 an11 cd11 ct11), sl11⟩) (c11 : PySem.W.codeIn K cd11 "block_of" = true) (k11 : PySem.W.keepIn K (.ref f11) = true)
    (a12 : PySem.W.nsIn K mainGlobals "class_table" = some (some (.ref f12))) (l12 : K.lookup f12 = some ⟨oc12, od12, .func (PySem.W.fnOf "class_table" "class_table" (defArgs sTable) (defBody sTable) (defScope sTable) .none kV12 dc12 pm12 an12 cd12 ct12), sl12⟩) (c12 : PySem.W.codeIn K cd12 "class_table" = true) (k12 : PySem.W.keepIn K (.ref f12) = true)
    (a13 : PySem.W.nsIn K mainGlobals "is_even" = some (some (.ref f13))) (l13 : K.lookup f13 = some ⟨oc13, od13, .func (PySem.W.fnOf "is_even" "is_even" (defArgs sEven) (defBody sEven) (defScope sEven) .none kV13 dc13 pm13 an13 cd13 ct13), sl13⟩) (c13 : PySem.W.codeIn K cd13 "is_even" = true) (k13 : PySem.W.keepIn K (.ref f13) = true)
    (a14 : PySem.W.nsIn K mainGlobals "_law_pot" = some (some (.ref f14))) (l14 : K.lookup f14 = some ⟨oc14, od14, .func (PySem.W.fnOf "_law_pot" "_law_pot" (defArgs sPot) (defBody sPot) (defScope sPot) .none kV14 dc14 pm14 an14 cd14 ct14), sl14⟩) (c14 : PySem.W.codeIn K cd14 "_law_pot" = true) (k14 : PySem.W.keepIn K (.ref f14) = true)
    (a15 : PySem.W.nsIn K mainGlobals "_law_take" = some (some (.ref f15))) (l15 : K.lookup f15 = some ⟨oc15, od15, .func (PySem.W.fnOf "_law_take" "_law_take" (defArgs sTake) (defBody sTake) (defScope sTake) .none kV15 dc15 pm15 an15 cd15 ct15), sl15⟩) (c15 : PySem.W.codeIn K cd15 "_law_take" = true) (k15 : PySem.W.keepIn K (.ref f15) = true)
    (a16 : PySem.W.nsIn K mainGlobals "_law_of" = some (some (.ref f16))) (l16 : K.lookup f16 = some ⟨oc16, od16, .func (PySem.W.fnOf "_law_of" "_law_of" (defArgs sOf) (defBody sOf) (defScope sOf) .none kV16 dc16 pm16 an16 cd16 ct16), sl16⟩) (c16 : PySem.W.codeIn K cd16 "_law_of" = true) (k16 : PySem.W.keepIn K (.ref f16) = true)
    (a17 : PySem.W.nsIn K mainGlobals "_law_names" = some (some (.ref f17))) (l17 : K.lookup f17 = some ⟨oc17, od17, .func (PySem.W.fnOf "_law_names" "_law_names" (defArgs sLNames) (defBody sLNames) (defScope sLNames) .none kV17 dc17 pm17 an17 cd17 ct17), sl17⟩) (c17 : PySem.W.codeIn K cd17 "_law_names" = true) (k17 : PySem.W.keepIn K (.ref f17) = true)
    (a18 : PySem.W.nsIn K mainGlobals "_law_items" = some (some (.ref f18))) (l18 : K.lookup f18 = some ⟨oc18, od18, .func (PySem.W.fnOf "_law_items" "_law_items" (defArgs sLItems) (defBody sLItems) (defScope sLItems) .none kV18 dc18 pm18 an18 cd18 ct18), sl18⟩) (c18 : PySem.W.codeIn K cd18 "_law_items" = true) (k18 : PySem.W.keepIn K (.ref f18) = true)
    (a19 : PySem.W.nsIn K mainGlobals "_law_ticks" = some (some (.ref f19))) (l19 : K.lookup f19 = some ⟨oc19, od19, .func (PySem.W.fnOf "_law_ticks" "_law_ticks" (defArgs sTicks) (defBody sTicks) (defScope sTicks) .none kV19 dc19 pm19 an19 cd19 ct19), sl19⟩) (c19 : PySem.W.codeIn K cd19 "_law_ticks" = true) (k19 : PySem.W.keepIn K (.ref f19) = true)
    (a20 : PySem.W.nsIn K mainGlobals "_law_small" = some (some (.ref f20))) (l20 : K.lookup f20 = some ⟨oc20, od20, .func (PySem.W.fnOf "_law_small" "_law_small" (defArgs sSmall) (defBody sSmall) (defScope sSmall) .none kV20 dc20 pm20 an20 cd20 ct20), sl20⟩) (c20 : PySem.W.codeIn K cd20 "_law_small" = true) (k20 : PySem.W.keepIn K (.ref f20) = true)
    (a21 : PySem.W.nsIn K mainGlobals "_law_great" = some (some (.ref f21))) (l21 : K.lookup f21 = some ⟨oc21, od21, .func (PySem.W.fnOf "_law_great" "_law_great" (defArgs sGreat) (defBody sGreat) (defScope sGreat) .none kV21 dc21 pm21 an21 cd21 ct21), sl21⟩) (c21 : PySem.W.codeIn K cd21 "_law_great" = true) (k21 : PySem.W.keepIn K (.ref f21) = true)
    (a22 : PySem.W.nsIn K mainGlobals "_law_many" = some (some (.ref f22))) (l22 : K.lookup f22 = some ⟨oc22, od22, .func (PySem.W.fnOf "_law_many" "_law_many" (defArgs sMany) (defBody sMany) (defScope sMany) .none kV22 dc22 pm22 an22 cd22 ct22), sl22⟩) (c22 : PySem.W.codeIn K cd22 "_law_many" = true) (k22 : PySem.W.keepIn K (.ref f22) = true)
    (a23 : PySem.W.nsIn K mainGlobals "_law_folded" = some (some (.ref f23))) (l23 : K.lookup f23 = some ⟨oc23, od23, .func (PySem.W.fnOf "_law_folded" "_law_folded" (defArgs sFolded) (defBody sFolded) (defScope sFolded) .none kV23 dc23 pm23 an23 cd23 ct23), sl23⟩) (c23 : PySem.W.codeIn K cd23 "_law_folded" = true) (k23 : PySem.W.keepIn K (.ref f23) = true)
    (a24 : PySem.W.nsIn K mainGlobals "_law_by_name" = some (some (.ref f24))) (l24 : K.lookup f24 = some ⟨oc24, od24, .func (PySem.W.fnOf "_law_by_name" "_law_by_name" (defArgs sByName) (defBody sByName) (defScope sByName) .none kV24 dc24 pm24 an24 cd24 ct24), sl24⟩) (c24 : PySem.W.codeIn K cd24 "_law_by_name" = true) (k24 : PySem.W.keepIn K (.ref f24) = true)
    (a25 : PySem.W.nsIn K mainGlobals "_law_joined_right" = some (some (.ref f25))) (l25 : K.lookup f25 = some ⟨oc25, od25, .func (PySem.W.fnOf "_law_joined_right" "_law_joined_right" (defArgs sJR) (defBody sJR) (defScope sJR) .none kV25 dc25 pm25 an25 cd25 ct25), sl25⟩) (c25 : PySem.W.codeIn K cd25 "_law_joined_right" = true) (k25 : PySem.W.keepIn K (.ref f25) = true)
    (a26 : PySem.W.nsIn K mainGlobals "_law_right" = some (some (.ref f26))) (l26 : K.lookup f26 = some ⟨oc26, od26, .func (PySem.W.fnOf "_law_right" "_law_right" (defArgs sRight) (defBody sRight) (defScope sRight) .none kV26 dc26 pm26 an26 cd26 ct26), sl26⟩) (c26 : PySem.W.codeIn K cd26 "_law_right" = true) (k26 : PySem.W.keepIn K (.ref f26) = true)
    (a27 : PySem.W.nsIn K mainGlobals "law" = some (some (.ref f27))) (l27 : K.lookup f27 = some ⟨oc27, od27, .func (PySem.W.fnOf "law" "law" (defArgs sLaw) (defBody sLaw) (defScope sLaw) .none kV27 dc27 pm27 an27 cd27 ct27), sl27⟩) (c27 : PySem.W.codeIn K cd27 "law" = true) (k27 : PySem.W.keepIn K (.ref f27) = true)
    (v0 : PySem.W.nsIn K mainGlobals "LINE" = some (some (.str kLine lt))) (z0 : PySem.W.nsIn K mainGlobals "sum" = some none) (z1 : PySem.W.nsIn K mainGlobals "tuple" = some none) (z2 : PySem.W.nsIn K mainGlobals "sorted" = some none) (z3 : PySem.W.nsIn K mainGlobals "enumerate" = some none) (z4 : PySem.W.nsIn K mainGlobals "int" = some none) (z5 : PySem.W.nsIn K mainGlobals "range" = some none) (z6 : PySem.W.nsIn K mainGlobals "len" = some none) (z7 : PySem.W.nsIn K mainGlobals "set" = some none) (z8 : PySem.W.nsIn K mainGlobals "abs" = some none) (z9 : PySem.W.nsIn K mainGlobals "max" = some none) (z10 : PySem.W.nsIn K mainGlobals "min" = some none) (z11 : PySem.W.nsIn K mainGlobals "dict" = some none) :
    ∃ fd : FuncData, (∀ (s : Shared) (v : Value), BindsTo s fd ⟨[v], []⟩ [("_law_script", v)]) ∧ ∀ base : Heap, K.In base → base.Ns mainGlobals mg → FnOk l.prog w K mg base CX0 14 fa fd ["_law_script"] (spLaw K) := by
  have e := hfa.symm.trans (PySem.W.mg_of X G a27)
  cases e
  have F0 := fun_mk (st := sItem) l0 c0 k0
  have D0 : Def K mg "item_length" sItem ["item"] f0 _ := ⟨F0, PySem.W.mg_of X G a0, F0.binds (ps := ["item"]) fun _ _ _ _ _ _ us hl => match us, hl with | [_], _ => rfl⟩
  have F1 := fun_mk (st := sLen) l1 c1 k1
  have D1 : Def K mg "length" sLen ["program"] f1 _ := ⟨F1, PySem.W.mg_of X G a1, F1.binds (ps := ["program"]) fun _ _ _ _ _ _ us hl => match us, hl with | [_], _ => rfl⟩
  have F2 := fun_mk (st := sNames) l2 c2 k2
  have D2 : Def K mg "names_of" sNames ["items"] f2 _ := ⟨F2, PySem.W.mg_of X G a2, F2.binds (ps := ["items"]) fun _ _ _ _ _ _ us hl => match us, hl with | [_], _ => rfl⟩
  have F3 := fun_mk (st := sLines) l3 c3 k3
  have D3 : Def K mg "lines_of" sLines ["program"] f3 _ := ⟨F3, PySem.W.mg_of X G a3, F3.binds (ps := ["program"]) fun _ _ _ _ _ _ us hl => match us, hl with | [_], _ => rfl⟩
  have F4 := fun_mk (st := sAddC) l4 c4 k4
  have D4 : Def K mg "add_counts" sAddC ["found", "counts", "times"] f4 _ := ⟨F4, PySem.W.mg_of X G a4, F4.binds (ps := ["found", "counts", "times"]) fun _ _ _ _ _ _ us hl => match us, hl with | [_, _, _], _ => rfl⟩
  have F5 := fun_mk (st := sCounts) l5 c5 k5
  have D5 : Def K mg "counts_of" sCounts ["items"] f5 _ := ⟨F5, PySem.W.mg_of X G a5, F5.binds (ps := ["items"]) fun _ _ _ _ _ _ us hl => match us, hl with | [_], _ => rfl⟩
  have F6 := fun_mk (st := sTotals) l6 c6 k6
  have D6 : Def K mg "totals" sTotals ["program"] f6 _ := ⟨F6, PySem.W.mg_of X G a6, F6.binds (ps := ["program"]) fun _ _ _ _ _ _ us hl => match us, hl with | [_], _ => rfl⟩
  have F7 := fun_mk (st := sNothing) l7 c7 k7
  have D7 : Def K mg "nothing" sNothing ["names", "modulus"] f7 _ := ⟨F7, PySem.W.mg_of X G a7, F7.binds (ps := ["names", "modulus"]) fun _ _ _ _ _ _ us hl => match us, hl with | [_, _], _ => rfl⟩
  have F8 := fun_mk (st := sJoined) l8 c8 k8
  have D8 : Def K mg "joined" sJoined ["one", "other", "modulus"] f8 _ := ⟨F8, PySem.W.mg_of X G a8, F8.binds (ps := ["one", "other", "modulus"]) fun _ _ _ _ _ _ us hl => match us, hl with | [_, _, _], _ => rfl⟩
  have F9 := fun_mk (st := sLineB) l9 c9 k9
  have D9 : Def K mg "line_block" sLineB ["names", "name", "ticks", "modulus"] f9 _ := ⟨F9, PySem.W.mg_of X G a9, F9.binds (ps := ["names", "name", "ticks", "modulus"]) fun _ _ _ _ _ _ us hl => match us, hl with | [_, _, _, _], _ => rfl⟩
  have F10 := fun_mk (st := sRep) l10 c10 k10
  have D10 : Def K mg "repeated" sRep ["block", "names", "rounds", "modulus"] f10 _ := ⟨F10, PySem.W.mg_of X G a10, F10.binds (ps := ["block", "names", "rounds", "modulus"]) fun _ _ _ _ _ _ us hl => match us, hl with | [_, _, _, _], _ => rfl⟩
  have F11 := fun_mk (st := sBlock) l11 c11 k11
  have D11 : Def K mg "block_of" sBlock ["items", "names", "modulus"] f11 _ := ⟨F11, PySem.W.mg_of X G a11, F11.binds (ps := ["items", "names", "modulus"]) fun _ _ _ _ _ _ us hl => match us, hl with | [_, _, _], _ => rfl⟩
  have F12 := fun_mk (st := sTable) l12 c12 k12
  have D12 : Def K mg "class_table" sTable ["program", "modulus"] f12 _ := ⟨F12, PySem.W.mg_of X G a12, F12.binds (ps := ["program", "modulus"]) fun _ _ _ _ _ _ us hl => match us, hl with | [_, _], _ => rfl⟩
  have F13 := fun_mk (st := sEven) l13 c13 k13
  have D13 : Def K mg "is_even" sEven ["program", "modulus"] f13 _ := ⟨F13, PySem.W.mg_of X G a13, F13.binds (ps := ["program", "modulus"]) fun _ _ _ _ _ _ us hl => match us, hl with | [_, _], _ => rfl⟩
  have F14 := fun_mk (st := sPot) l14 c14 k14
  have D14 : Def K mg "_law_pot" sPot ["_law_script", "_law_k"] f14 _ := ⟨F14, PySem.W.mg_of X G a14, F14.binds (ps := ["_law_script", "_law_k"]) fun _ _ _ _ _ _ us hl => match us, hl with | [_, _], _ => rfl⟩
  have F15 := fun_mk (st := sTake) l15 c15 k15
  have D15 : Def K mg "_law_take" sTake ["_law_pot_here", "_law_many_here"] f15 _ := ⟨F15, PySem.W.mg_of X G a15, F15.binds (ps := ["_law_pot_here", "_law_many_here"]) fun _ _ _ _ _ _ us hl => match us, hl with | [_, _], _ => rfl⟩
  have F16 := fun_mk (st := sOf) l16 c16 k16
  have D16 : Def K mg "_law_of" sOf ["_law_pot_here", "_law_some"] f16 _ := ⟨F16, PySem.W.mg_of X G a16, F16.binds (ps := ["_law_pot_here", "_law_some"]) fun _ _ _ _ _ _ us hl => match us, hl with | [_, _], _ => rfl⟩
  have F17 := fun_mk (st := sLNames) l17 c17 k17
  have D17 : Def K mg "_law_names" sLNames ["_law_pot_here", "_law_many_here"] f17 _ := ⟨F17, PySem.W.mg_of X G a17, F17.binds (ps := ["_law_pot_here", "_law_many_here"]) fun _ _ _ _ _ _ us hl => match us, hl with | [_, _], _ => rfl⟩
  have F18 := fun_mk (st := sLItems) l18 c18 k18
  have D18 : Def K mg "_law_items" sLItems ["_law_pot_here", "_law_names_here", "_law_many_here", "_law_depth", "_law_most"] f18 _ := ⟨F18, PySem.W.mg_of X G a18, F18.binds (ps := ["_law_pot_here", "_law_names_here", "_law_many_here", "_law_depth", "_law_most"]) fun _ _ _ _ _ _ us hl => match us, hl with | [_, _, _, _, _], _ => rfl⟩
  have F19 := fun_mk (st := sTicks) l19 c19 k19
  have D19 : Def K mg "_law_ticks" sTicks ["_law_items_here"] f19 _ := ⟨F19, PySem.W.mg_of X G a19, F19.binds (ps := ["_law_items_here"]) fun _ _ _ _ _ _ us hl => match us, hl with | [_], _ => rfl⟩
  have F20 := fun_mk (st := sSmall) l20 c20 k20
  have D20 : Def K mg "_law_small" sSmall ["_law_pot_here", "_law_most"] f20 _ := ⟨F20, PySem.W.mg_of X G a20, F20.binds (ps := ["_law_pot_here", "_law_most"]) fun _ _ _ _ _ _ us hl => match us, hl with | [_, _], _ => rfl⟩
  have F21 := fun_mk (st := sGreat) l21 c21 k21
  have D21 : Def K mg "_law_great" sGreat ["_law_pot_here", "_law_names_here", "_law_depth"] f21 _ := ⟨F21, PySem.W.mg_of X G a21, F21.binds (ps := ["_law_pot_here", "_law_names_here", "_law_depth"]) fun _ _ _ _ _ _ us hl => match us, hl with | [_, _, _], _ => rfl⟩
  have F22 := fun_mk (st := sMany) l22 c22 k22
  have D22 : Def K mg "_law_many" sMany ["_law_items_here"] f22 _ := ⟨F22, PySem.W.mg_of X G a22, F22.binds (ps := ["_law_items_here"]) fun _ _ _ _ _ _ us hl => match us, hl with | [_], _ => rfl⟩
  have F23 := fun_mk (st := sFolded) l23 c23 k23
  have D23 : Def K mg "_law_folded" sFolded ["_law_table", "_law_modulus"] f23 _ := ⟨F23, PySem.W.mg_of X G a23, F23.binds (ps := ["_law_table", "_law_modulus"]) fun _ _ _ _ _ _ us hl => match us, hl with | [_, _], _ => rfl⟩
  have F24 := fun_mk (st := sByName) l24 c24 k24
  have D24 : Def K mg "_law_by_name" sByName ["_law_program", "_law_modulus"] f24 _ := ⟨F24, PySem.W.mg_of X G a24, F24.binds (ps := ["_law_program", "_law_modulus"]) fun _ _ _ _ _ _ us hl => match us, hl with | [_, _], _ => rfl⟩
  have F25 := fun_mk (st := sJR) l25 c25 k25
  have D25 : Def K mg "_law_joined_right" sJR ["_law_one", "_law_other", "_law_modulus"] f25 _ := ⟨F25, PySem.W.mg_of X G a25, F25.binds (ps := ["_law_one", "_law_other", "_law_modulus"]) fun _ _ _ _ _ _ us hl => match us, hl with | [_, _, _], _ => rfl⟩
  have F26 := fun_mk (st := sRight) l26 c26 k26
  have D26 : Def K mg "_law_right" sRight ["_law_pot_here", "_law_program"] f26 _ := ⟨F26, PySem.W.mg_of X G a26, F26.binds (ps := ["_law_pot_here", "_law_program"]) fun _ _ _ _ _ _ us hl => match us, hl with | [_, _], _ => rfl⟩
  have F27 := fun_mk (st := sLaw) l27 c27 k27
  have D27 : Def K mg "law" sLaw ["_law_script"] _ _ := ⟨F27, PySem.W.mg_of X G a27, F27.binds (ps := ["_law_script"]) fun _ _ _ _ _ _ us hl => match us, hl with | [_], _ => rfl⟩
  have T : Txt mg := ⟨⟨lt, PySem.W.mg_of X G v0⟩, PySem.W.mg_none_of X G z0, PySem.W.mg_none_of X G z1, PySem.W.mg_none_of X G z2, PySem.W.mg_none_of X G z3, PySem.W.mg_none_of X G z4, PySem.W.mg_none_of X G z5, PySem.W.mg_none_of X G z6, PySem.W.mg_none_of X G z7, PySem.W.mg_none_of X G z8, PySem.W.mg_none_of X G z9, PySem.W.mg_none_of X G z10, PySem.W.mg_none_of X G z11⟩
  refine ⟨PySem.W.fnOf "law" "law" (defArgs sLaw) (defBody sLaw) (defScope sLaw) .none kV27 dc27 pm27 an27 cd27 ct27, fun s v => .of_eq rfl, fun base _ _ => ?_⟩
  have GLen : FnOk l.prog w K mg base CX0 12 f1 _ ["program"] (spLen 5) := len_all T D0 D1 5
  have GLines : FnOk l.prog w K mg base CX0 7 f3 _ ["program"] spLines := ok_lines T D3 D2
  have GBlock : FnOk l.prog w K mg base CX0 8 f11 _ ["items", "names", "modulus"] (spBlock K 5) := block_all T D11 D7 D8 D9 D10 5
  have GTable : FnOk l.prog w K mg base CX0 9 f12 _ ["program", "modulus"] spTable := ok_table T D12 D11 GBlock D3 GLines
  have GTot : FnOk l.prog w K mg base CX0 8 f6 _ ["program"] spTotals := ok_totals T D6 D4 D5
  have GEven : FnOk l.prog w K mg base CX0 10 f13 _ ["program", "modulus"] spEven := ok_even T D13 D12 GTable
  have GBy : FnOk l.prog w K mg base CX0 10 f24 _ ["_law_program", "_law_modulus"] spByName := ok_byName T D24 D12 GTable D3 GLines
  have GJR : FnOk l.prog w K mg base CX0 13 f25 _ ["_law_one", "_law_other", "_law_modulus"] spJR := ok_JR T D25 D24 GBy D3 GLines D1 GLen
  have GRight : FnOk l.prog w K mg base CX0 11 f26 _ ["_law_pot_here", "_law_program"] spRight := ok_right T D26 D15 D12 GTable D23 D6 GTot D13 GEven
  have GSmall : FnOk l.prog w K mg base CX0 6 f20 _ ["_law_pot_here", "_law_most"] spSmall := ok_small T D20 D15 D17 D18 D19 D16
  exact ok_law T D27 D14 D15 D16 D17 D21 D20 GSmall D26 GRight D22 D25 GJR
end Ev
open PySem PySem.W PyProof.Rows
set_option maxHeartbeats 0 in
theorem PySem.Challenge.cw_evensamples_k72_whole_tables_of_divisors_holds : PySem.Challenge.rw_evensamples_k72_whole_tables_of_divisors.Holds := by
  w_on; o_law; k_head; (case hw => w_witness2)
  k_fill
  refine L2.walk_of (l := PySem.Challenge.rw_evensamples_k72_whole_tables_of_divisors) (n := 63) (k := 14) (x := "_law_script") (CX := fun _ => L2.CX0) (sp := fun w => Ev.spLaw _) rfl (by decide) rfl ⟨rfl, by decide, by decide⟩ (fun w h Y => PySem.W.kIn_of Y) ?F (fun _ _ a ns hl _ hS => ⟨a, ns, rfl, hS, hl, fun _ => rfl⟩) (fun _ _ _ _ _ z => z)
  case F =>
    intro w mg fa h KX G hmg
    refine' Ev.tops KX G hmg ?a0 ?l0 ?c0 ?k0 ?a1 ?l1 ?c1 ?k1 ?a2 ?l2 ?c2 ?k2 ?a3 ?l3 ?c3 ?k3 ?a4 ?l4 ?c4 ?k4 ?a5 ?l5 ?c5 ?k5 ?a6 ?l6 ?c6 ?k6 ?a7 ?l7 ?c7 ?k7 ?a8 ?l8 ?c8 ?k8 ?a9 ?l9 ?c9 ?k9 ?a10 ?l10 ?c10 ?k10 ?a11 ?l11 ?c11 ?k11 ?a12 ?l12 ?c12 ?k12 ?a13 ?l13 ?c13 ?k13 ?a14 ?l14 ?c14 ?k14 ?a15 ?l15 ?c15 ?k15 ?a16 ?l16 ?c16 ?k16 ?a17 ?l17 ?c17 ?k17 ?a18 ?l18 ?c18 ?k18 ?a19 ?l19 ?c19 ?k19 ?a20 ?l20 ?c20 ?k20 ?a21 ?l21 ?c21 ?k21 ?a22 ?l22 ?c22 ?k22 ?a23 ?l23 ?c23 ?k23 ?a24 ?l24 ?c24 ?k24 ?a25 ?l25 ?c25 ?k25 ?a26 ?l26 ?c26 ?k26 ?a27 ?l27 ?c27 ?k27 ?v0 ?z0 ?z1 ?z2 ?z3 ?z4 ?z5 ?z6 ?z7 ?z8 ?z9 ?z10 ?z11
    (case a0 => k_is); (case l0 => k_is); (case c0 => k_is); (case k0 => k_is)
    (case a1 => k_is); (case l1 => k_is); (case c1 => k_is); (case k1 => k_is)
    (case a2 => k_is); (case l2 => k_is); (case c2 => k_is); (case k2 => k_is)
    (case a3 => k_is); (case l3 => k_is); (case c3 => k_is); (case k3 => k_is)
    (case a4 => k_is); (case l4 => k_is); (case c4 => k_is); (case k4 => k_is)
    (case a5 => k_is); (case l5 => k_is); (case c5 => k_is); (case k5 => k_is)
    (case a6 => k_is); (case l6 => k_is); (case c6 => k_is); (case k6 => k_is)
    (case a7 => k_is); (case l7 => k_is); (case c7 => k_is); (case k7 => k_is)
    (case a8 => k_is); (case l8 => k_is); (case c8 => k_is); (case k8 => k_is)
    (case a9 => k_is); (case l9 => k_is); (case c9 => k_is); (case k9 => k_is)
    (case a10 => k_is); (case l10 => k_is); (case c10 => k_is); (case k10 => k_is)
    (case a11 => k_is); (case l11 => k_is); (case c11 => k_is); (case k11 => k_is)
    (case a12 => k_is); (case l12 => k_is); (case c12 => k_is); (case k12 => k_is)
    (case a13 => k_is); (case l13 => k_is); (case c13 => k_is); (case k13 => k_is)
    (case a14 => k_is); (case l14 => k_is); (case c14 => k_is); (case k14 => k_is)
    (case a15 => k_is); (case l15 => k_is); (case c15 => k_is); (case k15 => k_is)
    (case a16 => k_is); (case l16 => k_is); (case c16 => k_is); (case k16 => k_is)
    (case a17 => k_is); (case l17 => k_is); (case c17 => k_is); (case k17 => k_is)
    (case a18 => k_is); (case l18 => k_is); (case c18 => k_is); (case k18 => k_is)
    (case a19 => k_is); (case l19 => k_is); (case c19 => k_is); (case k19 => k_is)
    (case a20 => k_is); (case l20 => k_is); (case c20 => k_is); (case k20 => k_is)
    (case a21 => k_is); (case l21 => k_is); (case c21 => k_is); (case k21 => k_is)
    (case a22 => k_is); (case l22 => k_is); (case c22 => k_is); (case k22 => k_is)
    (case a23 => k_is); (case l23 => k_is); (case c23 => k_is); (case k23 => k_is)
    (case a24 => k_is); (case l24 => k_is); (case c24 => k_is); (case k24 => k_is)
    (case a25 => k_is); (case l25 => k_is); (case c25 => k_is); (case k25 => k_is)
    (case a26 => k_is); (case l26 => k_is); (case c26 => k_is); (case k26 => k_is)
    (case a27 => k_is); (case l27 => k_is); (case c27 => k_is); (case k27 => k_is)
    (case v0 => k_is); (case z0 => k_is); (case z1 => k_is); (case z2 => k_is)
    (case z3 => k_is); (case z4 => k_is); (case z5 => k_is); (case z6 => k_is)
    (case z7 => k_is); (case z8 => k_is); (case z9 => k_is); (case z10 => k_is)
    (case z11 => k_is)
