import PyProof.Rows.All
import Wide.All
import OpenK.AllK
import Wide.FinOn
import KE.KStateDown
import HandS.ForMost
import HandS.Defaults
import HandS.MakeKw
import HandS.MakeKwOnly
import HandS.IsInst
import HandS.Wide
import HandS.Style
import HandS.Flow
import HandS.TupAny
import HandS.SetKeys
import HandS.SetFor
import HandS.Strs
import HandS.Zip
import HandS.Conv
import HandS.SortInts
import HandS.TupLen
import HandS.Walk
import HandS.Head0
import HandS.Head1
import HandS.Head2
import HandS.HeadEnd
import HandS.HeadHook1
import HandS.HeadHook2
import HandS.DictComp
import PyProof.LongRange
import Lean
import PySem.Challenge.RW_beltecho_k62_whole_great_books_mended
set_option Elab.async false
set_option linter.all false
set_option maxRecDepth 100000
set_option maxHeartbeats 4000000
/-! Plain mathematics: gcd, the first hit of a turning (Euclid's way down). Core Lean alone. -/
namespace Bm
theorem gcd_emod (x y : Int) : Int.gcd y (x % y) = Int.gcd x y := by
  have e : x % y = x - y * (x / y) := by
    have := Int.emod_add_mul_ediv x y
    omega
  rw [e, Int.gcd_sub_mul_left_right, Int.gcd_comm]
/-- a number over another one, up -/
def up (a b : Int) : Int := 0 - (0 - a) / b
theorem up_spec {a b : Int} (hb : 0 < b) : a ≤ b * up a b ∧ b * up a b < a + b := by
  unfold up
  have h1 := Int.emod_add_mul_ediv (0 - a) b
  have h2 := Int.emod_nonneg (0 - a) (by omega : b ≠ 0)
  have h3 := Int.emod_lt_of_pos (0 - a) hb
  rw [Int.mul_sub, Int.mul_zero]
  omega
theorem up_least {a b x : Int} (hb : 0 < b) (h : a ≤ b * x) : up a b ≤ x := by
  have ⟨_, h2⟩ := up_spec (a := a) hb
  by_cases c : up a b ≤ x
  · exact c
  · exfalso
    have : b * (x + 1) ≤ b * up a b := Int.mul_le_mul_of_nonneg_left (by omega) (by omega)
    rw [Int.mul_add, Int.mul_one] at this
    omega
theorem up_pos {a b : Int} (hb : 0 < b) (ha : 0 < a) : 0 < up a b := by
  have ⟨h1, _⟩ := up_spec (a := a) hb
  by_cases c : 0 < up a b
  · exact c
  · exfalso
    have : b * up a b ≤ b * 0 := Int.mul_le_mul_of_nonneg_left (by omega) (by omega)
    omega
/-- x steps by b on a ring of m come to a place from lo to hi -/
def Hit (b m lo hi x : Int) : Prop := ∃ q : Int, lo ≤ b * x - m * q ∧ b * x - m * q ≤ hi
/-- the least number of steps -/
structure Least (b m lo hi x : Int) : Prop where
  nn : 0 ≤ x
  hit : Hit b m lo hi x
  least : ∀ y, 0 ≤ y → y < x → ¬ Hit b m lo hi y
theorem Least.unique {b m lo hi x y : Int} (h : Least b m lo hi x) (g : Least b m lo hi y) : x = y := by
  rcases Int.lt_trichotomy x y with c | c | c
  · exact absurd h.hit (g.least x h.nn c)
  · exact c
  · exact absurd g.hit (h.least y g.nn c)
theorem Least.lt {b m lo hi x : Int} (h : Least b m lo hi x) (hm : 0 < m) : x < m := by
  by_cases c : x < m
  · exact c
  · exfalso
    obtain ⟨q, h1, h2⟩ := h.hit
    refine h.least (x - m) (by omega) (by omega) ⟨q - b, ?_, ?_⟩
    all_goals
      rw [Int.mul_sub, Int.mul_sub, Int.mul_comm b m]
      omega
theorem Least.zero {b m hi : Int} (h : 0 ≤ hi) : Least b m 0 hi 0 := ⟨Int.le_refl _, ⟨0, by simp, by simpa using h⟩, fun y h1 h2 => by omega⟩
theorem hit_reflect {b m lo hi x : Int} : Hit (m - b) m (m - hi) (m - lo) x ↔ Hit b m lo hi x := by
  constructor
  · rintro ⟨q, h1, h2⟩
    refine ⟨x - q - 1, ?_, ?_⟩
    all_goals
      rw [Int.mul_sub, Int.mul_sub]
      rw [Int.sub_mul] at h1 h2
      omega
  · rintro ⟨q, h1, h2⟩
    refine ⟨x - q - 1, ?_, ?_⟩
    all_goals
      rw [Int.mul_sub, Int.mul_sub, Int.sub_mul]
      omega
theorem Least.reflect {b m lo hi x : Int} (h : Least (m - b) m (m - hi) (m - lo) x) : Least b m lo hi x :=
  ⟨h.nn, hit_reflect.mp h.hit, fun y h1 h2 z => h.least y h1 h2 (hit_reflect.mpr z)⟩
/-- within the first lap -/
theorem Least.stop {b m lo hi : Int} (hb : 0 < b) (h0 : 0 < lo) (hm : hi < m) (h : b * up lo b ≤ hi) : Least b m lo hi (up lo b) := by
  have ⟨h1, h2⟩ := up_spec (a := lo) hb
  refine ⟨Int.le_of_lt (up_pos hb h0), ⟨0, by omega, by omega⟩, fun y hy hl ⟨q, g1, g2⟩ => ?_⟩
  have by0 : 0 ≤ b * y := Int.mul_nonneg (by omega) hy
  have bl : b * y < lo := by
    by_cases c : b * y < lo
    · exact c
    · exact absurd (up_least hb (by omega : lo ≤ b * y)) (by omega)
  have q0 : q < 0 := by
    by_cases c : 0 ≤ q
    · have : 0 ≤ m * q := Int.mul_nonneg (by omega) c
      omega
    · omega
  have : m * q ≤ m * (-1) := Int.mul_le_mul_of_nonneg_left (by omega) (by omega)
  omega
/-- no multiple of b from lo to hi: what the rests of -lo, -hi are -/
theorem rests {b lo hi : Int} (hb : 0 < b) (hl : lo ≤ hi) (h : ¬ b * up lo b ≤ hi) :
    (0 - hi) % b = b * up lo b - hi ∧ (0 - lo) % b = b * up lo b - lo := by
  have ⟨h1, h2⟩ := up_spec (a := lo) hb
  constructor
  · have e : 0 - hi = (b * up lo b - hi) + b * (0 - up lo b) := by
      rw [Int.mul_sub]
      omega
    rw [e, Int.add_mul_emod_self_left]
    exact Int.emod_eq_of_lt (by omega) (by omega)
  · have e : 0 - lo = (b * up lo b - lo) + b * (0 - up lo b) := by
      rw [Int.mul_sub]
      omega
    rw [e, Int.add_mul_emod_self_left]
    exact Int.emod_eq_of_lt (by omega) (by omega)
/-- one way down -/
theorem Least.down {b m lo hi y : Int} (hb : 0 < b) (hbm : b < m) (h0 : 0 < lo) (hl : lo ≤ hi) (hm : hi < m) (h : ¬ b * up lo b ≤ hi)
    (g : Least (m % b) b ((0 - hi) % b) ((0 - lo) % b) y) : Least b m lo hi (up (lo + m * y) b) := by
  obtain ⟨r1, r2⟩ := rests hb hl h
  have key : ∀ y, Hit (m % b) b ((0 - hi) % b) ((0 - lo) % b) y ↔ ∃ x, lo + m * y ≤ b * x ∧ b * x ≤ hi + m * y := by
    intro y
    have e1 : m % b = m - b * (m / b) := by
      have := Int.emod_add_mul_ediv m b
      omega
    unfold Hit
    rw [r1, r2, e1]
    constructor
    · rintro ⟨q, g1, g2⟩
      refine ⟨up lo b + (m / b) * y + q, ?_, ?_⟩
      all_goals
        rw [Int.sub_mul] at g1 g2
        rw [Int.mul_add, Int.mul_add, ← Int.mul_assoc]
        omega
    · rintro ⟨x, g1, g2⟩
      refine ⟨x - up lo b - (m / b) * y, ?_, ?_⟩
      all_goals
        rw [Int.sub_mul, Int.mul_sub, Int.mul_sub, ← Int.mul_assoc]
        omega
  have hy := g.nn
  obtain ⟨x0, k1, k2⟩ := (key y).mp g.hit
  have ⟨u1, u2⟩ := up_spec (a := lo + m * y) hb
  have u3 : up (lo + m * y) b ≤ x0 := up_least hb k1
  have my : 0 ≤ m * y := Int.mul_nonneg (by omega) hy
  have u4 : b * up (lo + m * y) b ≤ hi + m * y := by
    have : b * up (lo + m * y) b ≤ b * x0 := Int.mul_le_mul_of_nonneg_left u3 (by omega)
    omega
  refine ⟨Int.le_of_lt (up_pos hb (by omega)), ⟨y, by omega, by omega⟩, fun x hx hlt ⟨q, g1, g2⟩ => ?_⟩
  have bx : 0 ≤ b * x := Int.mul_nonneg (by omega) hx
  have q0 : 0 ≤ q := by
    by_cases c : 0 ≤ q
    · exact c
    · have : m * q ≤ m * (-1) := Int.mul_le_mul_of_nonneg_left (by omega) (by omega)
      omega
  have qy : y ≤ q := by
    by_cases c : y ≤ q
    · exact c
    · exact absurd ((key q).mpr ⟨x, by omega, by omega⟩) (g.least q q0 (by omega))
  by_cases c : q = y
  · subst c
    exact absurd (up_least hb (by omega : lo + m * q ≤ b * x)) (by omega)
  · have h9 : m * (y + 1) ≤ m * q := Int.mul_le_mul_of_nonneg_left (by omega) (by omega)
    rw [Int.mul_add, Int.mul_one] at h9
    have : b * up (lo + m * y) b ≤ b * x := by omega
    have := Int.le_of_mul_le_mul_left this hb
    omega
/-- the state of the way down; the window is no shorter than the common part, so by is never 0 -/
structure Down (b m lo hi : Int) : Prop where
  b0 : 0 ≤ b
  bm : b < m
  l0 : 0 ≤ lo
  lh : lo ≤ hi
  hm : hi < m
  gc : (Int.gcd b m : Int) ≤ hi - lo + 1
theorem Down.by_pos {b m lo hi : Int} (d : Down b m lo hi) (h : 0 < lo) : 0 < b := by
  obtain ⟨h1, h2, h3, h4, h5, h6⟩ := d
  by_cases c : b = 0
  · subst c
    rw [Int.gcd_zero_left] at h6
    omega
  · omega
theorem Down.reflect {b m lo hi : Int} (d : Down b m lo hi) (h : 0 < lo) : Down (m - b) m (m - hi) (m - lo) := by
  have hb := d.by_pos h
  obtain ⟨h1, h2, h3, h4, h5, h6⟩ := d
  refine ⟨by omega, by omega, by omega, by omega, by omega, ?_⟩
  rw [Int.gcd_self_sub_left, Int.gcd_comm] at *
  rw [Int.gcd_comm] at h6
  rw [Int.gcd_comm b m] at *
  omega
theorem Down.down {b m lo hi : Int} (d : Down b m lo hi) (h0 : 0 < lo) (h : ¬ b * up lo b ≤ hi) : Down (m % b) b ((0 - hi) % b) ((0 - lo) % b) ∧ 0 < (0 - hi) % b := by
  have hb := d.by_pos h0
  obtain ⟨h1, h2, h3, h4, h5, h6⟩ := d
  obtain ⟨r1, r2⟩ := rests hb h4 h
  have ⟨u1, u2⟩ := up_spec (a := lo) hb
  refine ⟨⟨Int.emod_nonneg _ (by omega), Int.emod_lt_of_pos _ hb, by omega, by omega, by omega, ?_⟩, by omega⟩
  rw [r1, r2, Int.gcd_comm, gcd_emod, Int.gcd_comm]
  omega
/-- the levels that lie above: unwound, the least hit of the lowest one gives that of the first -/
inductive Stk (B b0 n0 lo0 hi0 : Int) : List (Int × Int × Int) → Int → Int → Int → Int → Prop
  | base {b m lo hi : Int} (h : ∀ x, Least b m lo hi x → Least b0 n0 lo0 hi0 x) : Stk B b0 n0 lo0 hi0 [] b m lo hi
  | push {t : List (Int × Int × Int)} {b m lo hi w s r h2 : Int} (s0 : 0 < s) (sr : s < r) (rB : r ≤ B) (w0 : 0 < w) (wr : w ≤ r) (ms : m ≤ r) (h : ∀ y, Least b m lo hi y → Least s r w h2 (up (w + r * y) s)) (u : Stk B b0 n0 lo0 hi0 t s r w h2) : Stk B b0 n0 lo0 hi0 ((w, s, r) :: t) b m lo hi
theorem Stk.weak {B b0 n0 lo0 hi0 b m lo hi b' lo' hi' : Int} {t : List (Int × Int × Int)} (u : Stk B b0 n0 lo0 hi0 t b m lo hi) (h : ∀ x, Least b' m lo' hi' x → Least b m lo hi x) : Stk B b0 n0 lo0 hi0 t b' m lo' hi' := by
  cases u with
  | base g => exact .base fun x z => g x (h x z)
  | push s0 sr rB w0 wr ms g u => exact .push s0 sr rB w0 wr ms (fun y z => g y (h y z)) u
/-- a place from a begin on -/
structure LeastIn (a b m lo hi x : Int) : Prop where
  nn : 0 ≤ x
  hit : lo ≤ (a + b * x) % m ∧ (a + b * x) % m ≤ hi
  least : ∀ y, 0 ≤ y → y < x → ¬ (lo ≤ (a + b * y) % m ∧ (a + b * y) % m ≤ hi)
theorem LeastIn.unique {a b m lo hi x y : Int} (h : LeastIn a b m lo hi x) (g : LeastIn a b m lo hi y) : x = y := by
  rcases Int.lt_trichotomy x y with c | c | c
  · exact absurd h.hit (g.least x h.nn c)
  · exact c
  · exact absurd g.hit (h.least y g.nn c)
theorem LeastIn.lt {a b m lo hi x : Int} (h : LeastIn a b m lo hi x) (hm : 0 < m) : x < m := by
  by_cases c : x < m
  · exact c
  · exfalso
    refine h.least (x - m) (by omega) (by omega) ?_
    have e : a + b * (x - m) = a + b * x + m * (0 - b) := by
      rw [Int.mul_sub, Int.mul_sub, Int.mul_comm b m]
      omega
    rw [e, Int.add_mul_emod_self_left]
    exact h.hit
theorem emod_of {x m r : Int} (q : Int) (h0 : 0 ≤ r) (h1 : r < m) (e : x = r + m * q) : x % m = r := by
  rw [e, Int.add_mul_emod_self_left]
  exact Int.emod_eq_of_lt h0 h1
theorem hit_mod {a b m lo hi x : Int} (hm : 0 < m) (h0 : 0 ≤ lo) (hh : hi < m) (hs : (lo - a) % m + hi - lo < m) :
    Hit (b % m) m ((lo - a) % m) ((lo - a) % m + hi - lo) x ↔ lo ≤ (a + b * x) % m ∧ (a + b * x) % m ≤ hi := by
  have e1 := Int.emod_add_mul_ediv (lo - a) m
  have e2 := Int.emod_add_mul_ediv b m
  have e3 := Int.emod_add_mul_ediv (a + b * x) m
  have l3 := Int.emod_nonneg (a + b * x) (by omega : m ≠ 0)
  have m3 := Int.emod_lt_of_pos (a + b * x) hm
  have eb : b * x = (b % m) * x + m * (b / m * x) := by
    rw [← Int.mul_assoc, ← Int.add_mul, e2]
  constructor
  · rintro ⟨q, h1, h2⟩
    have := emod_of (x := a + b * x) (m := m) (r := lo + ((b % m) * x - m * q - (lo - a) % m)) (b / m * x + q - (lo - a) / m) (by omega) (by omega) (by
      rw [Int.mul_sub, Int.mul_add]
      omega)
    omega
  · rintro ⟨h1, h2⟩
    refine ⟨(a + b * x) / m + (lo - a) / m - b / m * x, ?_, ?_⟩
    all_goals
      rw [Int.mul_sub, Int.mul_add]
      omega
theorem LeastIn.of_hit {a b m lo hi x : Int} (hm : 0 < m) (h0 : 0 ≤ lo) (hh : hi < m) (hs : (lo - a) % m + hi - lo < m)
    (h : Least (b % m) m ((lo - a) % m) ((lo - a) % m + hi - lo) x) : LeastIn a b m lo hi x :=
  ⟨h.nn, (hit_mod hm h0 hh hs).mp h.hit, fun y h1 h2 z => h.least y h1 h2 ((hit_mod hm h0 hh hs).mpr z)⟩
theorem LeastIn.at0 {a b m lo hi : Int} (hm : 0 < m) (h0 : 0 ≤ lo) (hh : hi < m) (hl : lo ≤ hi) (hs : m ≤ (lo - a) % m + hi - lo) : LeastIn a b m lo hi 0 := by
  have e1 := Int.emod_add_mul_ediv (lo - a) m
  have l1 := Int.emod_lt_of_pos (lo - a) hm
  have := emod_of (x := a) (m := m) (r := lo - (lo - a) % m + m) (0 - (lo - a) / m - 1) (by omega) (by omega) (by
    rw [Int.mul_sub, Int.mul_sub]
    omega)
  refine ⟨Int.le_refl _, ?_, fun y h1 h2 => by omega⟩
  rw [Int.mul_zero, Int.add_zero]
  omega
theorem Down.start {a b m lo hi : Int} (hm : 0 < m) (h0 : 0 ≤ lo) (hh : hi < m) (hl : lo ≤ hi) (hs : (lo - a) % m + hi - lo < m) (g : (Int.gcd b m : Int) ≤ hi - lo + 1) : Down (b % m) m ((lo - a) % m) ((lo - a) % m + hi - lo) := by
  refine ⟨Int.emod_nonneg _ (by omega), Int.emod_lt_of_pos _ hm, Int.emod_nonneg _ (by omega), by omega, hs, ?_⟩
  rw [Int.gcd_comm, gcd_emod]
  omega
theorem up_le {a b : Int} (hb : 0 < b) (ha : 0 ≤ a) : up a b ≤ a := by
  refine up_least hb ?_
  have : 1 * a ≤ b * a := Int.mul_le_mul_of_nonneg_right (by omega) ha
  omega
end Bm
/-! Rows: the cups of the lesser belt that hang together by the stretch. -/
namespace Bm
structure RowsD where
  small : Int
  great : Int
  shared : Int
  by' : Int
  bound : Int
  hung : Int
def rowsOf (one other many : Int) : RowsD :=
  ⟨min one other, max one other, (Int.gcd one other : Nat), max one other % min one other,
    max 0 (min many (min one other + max one other - (Int.gcd one other : Nat)) - max one other), min (min many (min one other + max one other - (Int.gcd one other : Nat))) (max one other)⟩
structure RowsOk (r : RowsD) : Prop where
  s0 : 1 ≤ r.small
  sg : r.small ≤ r.great
  gB : r.great ≤ 10 ^ 30
  sh : r.shared = (Int.gcd r.small r.great : Nat)
  by_ : r.by' = r.great % r.small
  b0 : 0 ≤ r.bound
  bs : r.bound ≤ r.small - r.shared
  h0 : 0 ≤ r.hung
  hg : r.hung ≤ r.great
  hb : 0 < r.bound → r.hung = r.great
theorem rowsOk {one other many : Int} (h1 : 1 ≤ one) (h2 : one ≤ 10 ^ 30) (h3 : 1 ≤ other) (h4 : other ≤ 10 ^ 30) (h5 : 0 ≤ many) : RowsOk (rowsOf one other many) := by
  have g1 : (Int.gcd one other : Int) ≤ one := Int.gcd_le_left _ (by omega)
  have g2 : (Int.gcd one other : Int) ≤ other := Int.gcd_le_right _ (by omega)
  have hs : (Int.gcd one other : Int) = (Int.gcd (min one other) (max one other) : Nat) := by
    rcases Int.le_total one other with c | c
    · rw [Int.min_eq_left c, Int.max_eq_right c]
    · rw [Int.min_eq_right c, Int.max_eq_left c, Int.gcd_comm]
  refine ⟨?_, ?_, ?_, hs, rfl, ?_, ?_, ?_, ?_, ?_⟩
  all_goals
    simp only [rowsOf]
    omega
section
variable {r : RowsD} (o : RowsOk r)
include o
theorem RowsOk.sh_pos : 0 < r.shared := by
  rw [o.sh]
  have : 0 < Int.gcd r.small r.great := Int.gcd_pos_of_ne_zero_left _ (by have := o.s0; omega)
  omega
theorem RowsOk.sh_small : r.shared ∣ r.small := by
  rw [o.sh]
  exact Int.gcd_dvd_left ..
theorem RowsOk.sh_great : r.shared ∣ r.great := by
  rw [o.sh]
  exact Int.gcd_dvd_right ..
theorem RowsOk.gcd_by : (Int.gcd r.by' r.small : Int) = r.shared := by
  rw [o.sh, o.by_, Int.gcd_comm, gcd_emod, Int.gcd_comm]
theorem RowsOk.gcd_by' : (Int.gcd (0 - r.by') r.small : Int) = r.shared := by
  rw [← o.gcd_by]
  have : (0 : Int) - r.by' = - r.by' := by omega
  rw [this, Int.neg_gcd]
theorem RowsOk.sh_by : r.shared ∣ r.by' := by
  rw [← o.gcd_by]
  exact Int.gcd_dvd_left ..
theorem RowsOk.by0 : 0 ≤ r.by' := by
  rw [o.by_]
  exact Int.emod_nonneg _ (by have := o.s0; omega)
theorem RowsOk.byS : r.by' < r.small := by
  rw [o.by_]
  exact Int.emod_lt_of_pos _ (by have := o.s0; omega)
end
open Classical in
noncomputable def stepsOn (r : RowsD) (p : Int) : Int := if h : ∃ x, LeastIn p r.by' r.small r.bound (r.small - 1) x then Classical.choose h else 0
open Classical in
noncomputable def stepsBack (r : RowsD) (p : Int) : Int := if h : ∃ x, LeastIn (p - r.by') (0 - r.by') r.small r.bound (r.small - 1) x then Classical.choose h else 0
theorem stepsOn_eq {r : RowsD} {p x : Int} (h : LeastIn p r.by' r.small r.bound (r.small - 1) x) : stepsOn r p = x := by
  have hx : ∃ x, LeastIn p r.by' r.small r.bound (r.small - 1) x := ⟨x, h⟩
  unfold stepsOn
  rw [dif_pos hx]
  exact (Classical.choose_spec hx).unique h
theorem stepsBack_eq {r : RowsD} {p x : Int} (h : LeastIn (p - r.by') (0 - r.by') r.small r.bound (r.small - 1) x) : stepsBack r p = x := by
  have hx : ∃ x, LeastIn (p - r.by') (0 - r.by') r.small r.bound (r.small - 1) x := ⟨x, h⟩
  unfold stepsBack
  rw [dif_pos hx]
  exact (Classical.choose_spec hx).unique h
theorem least_all {a b m : Int} (hm : 0 < m) : LeastIn a b m 0 (m - 1) 0 := by
  have h1 := Int.emod_nonneg (a + b * 0) (by omega : m ≠ 0)
  have h2 := Int.emod_lt_of_pos (a + b * 0) hm
  exact ⟨Int.le_refl _, ⟨h1, by omega⟩, fun y g1 g2 => by omega⟩
theorem stepsOn_0 {r : RowsD} (o : RowsOk r) (h : r.bound = 0) (p : Int) : stepsOn r p = 0 := stepsOn_eq (by rw [h]; exact least_all (by have := o.s0; omega))
theorem stepsBack_0 {r : RowsD} (o : RowsOk r) (h : r.bound = 0) (p : Int) : stepsBack r p = 0 := stepsBack_eq (by rw [h]; exact least_all (by have := o.s0; omega))
open Classical in
theorem stepsOn_b (r : RowsD) (p : Int) (hs : 0 < r.small) : 0 ≤ stepsOn r p ∧ stepsOn r p < r.small := by
  unfold stepsOn
  split
  · rename_i h
    have z := Classical.choose_spec h
    exact ⟨z.nn, z.lt hs⟩
  · exact ⟨Int.le_refl _, hs⟩
open Classical in
theorem stepsBack_b (r : RowsD) (p : Int) (hs : 0 < r.small) : 0 ≤ stepsBack r p ∧ stepsBack r p < r.small := by
  unfold stepsBack
  split
  · rename_i h
    have z := Classical.choose_spec h
    exact ⟨z.nn, z.lt hs⟩
  · exact ⟨Int.le_refl _, hs⟩
theorem RowsOk.steps_on_b {r : RowsD} (o : RowsOk r) (p : Int) : 0 ≤ stepsOn r p ∧ stepsOn r p < r.small := stepsOn_b r p (by have := o.s0; omega)
theorem RowsOk.steps_back_b {r : RowsD} (o : RowsOk r) (p : Int) : 0 ≤ stepsBack r p ∧ stepsBack r p < r.small := stepsBack_b r p (by have := o.s0; omega)
/-- the end of a place's row -/
noncomputable def endOf (r : RowsD) (p : Int) : Int := (p + r.by' * stepsOn r p) % r.small
end Bm
/-! Spots, links, the ways from a row, and what hangs together. -/
namespace Bm
structure SpotD where
  row : Int
  at_ : Int
  leaf : Option Int
deriving DecidableEq
structure LinkD where
  src : SpotD
  beat : Int
  dst : SpotD
deriving DecidableEq
noncomputable def smallSpot (r : RowsD) (t : Int) : SpotD := ⟨endOf r (t % r.small), 2 * stepsBack r (t % r.small), none⟩
noncomputable def greatSpot (r : RowsD) (t : Int) : SpotD :=
  if r.hung ≤ t % r.great then ⟨-1 - t % r.great, 0, none⟩
  else if t % r.great < r.bound then ⟨(smallSpot r (t % r.great)).row, (smallSpot r (t % r.great)).at_ + 1, none⟩
  else ⟨(smallSpot r (t % r.great)).row, (smallSpot r (t % r.great)).at_, some (t % r.great)⟩
/-- the links of single beats (told from the begin), in both directions -/
def IsLink (r : RowsD) (ss : List Int) (l : LinkD) : Prop := ∃ t ∈ ss, l = ⟨smallSpot r t, t, greatSpot r t⟩ ∨ l = ⟨greatSpot r t, t, smallSpot r t⟩
abbrev WayL := List (Int × Option LinkD)
def keys (W : WayL) : List Int := W.map (·.1)
/-- rows come to, one behind the other, each by a link from one that stands there -/
inductive Ways (L : LinkD → Prop) (row : Int) : WayL → Prop
  | start : Ways L row [(row, none)]
  | add {W : WayL} {l : LinkD} (h : Ways L row W) (hl : L l) (hs : l.src.row ∈ keys W) (hd : l.dst.row ∉ keys W) : Ways L row (W ++ [(l.dst.row, some l)])
def Closed (L : LinkD → Prop) (W : WayL) : Prop := ∀ l, L l → l.src.row ∈ keys W → l.dst.row ∈ keys W
theorem keys_snoc (W : WayL) (k : Int) (o : Option LinkD) : keys (W ++ [(k, o)]) = keys W ++ [k] := by simp [keys]
theorem Ways.nodup {L : LinkD → Prop} {row : Int} {W : WayL} (h : Ways L row W) : (keys W).Nodup := by
  induction h with
  | start => simp [keys]
  | add h hl hs hd ih =>
    rw [keys_snoc]
    rw [List.nodup_append]
    refine ⟨ih, by simp, fun a ha b hb => ?_⟩
    rw [List.mem_singleton.mp hb]
    intro e
    subst e
    exact hd ha
theorem Ways.row {L : LinkD → Prop} {row : Int} {W : WayL} (h : Ways L row W) : row ∈ keys W := by
  induction h with
  | start => simp [keys]
  | add h hl hs hd ih =>
    rw [keys_snoc]
    exact List.mem_append_left _ ih
/-- where the row of a key lies -/
theorem Ways.keys_of {L : LinkD → Prop} {row : Int} {W : WayL} (h : Ways L row W) : ∀ k ∈ keys W, k = row ∨ ∃ l, L l ∧ l.dst.row = k := by
  induction h with
  | start => intro k hk; simp [keys] at hk; exact .inl hk
  | add h hl hs hd ih =>
    intro k hk
    rw [keys_snoc] at hk
    rcases List.mem_append.mp hk with hk | hk
    · exact ih k hk
    · rw [List.mem_singleton.mp hk]
      exact .inr ⟨_, hl, rfl⟩
/-- two rows hang together by the links -/
inductive Conn (L : LinkD → Prop) : Int → Int → Prop
  | refl (a : Int) : Conn L a a
  | step {a : Int} {l : LinkD} (h : Conn L a l.src.row) (hl : L l) : Conn L a l.dst.row
theorem Conn.trans {L : LinkD → Prop} {a b c : Int} (h : Conn L a b) (g : Conn L b c) : Conn L a c := by
  induction g with
  | refl => exact h
  | step _ hl ih => exact .step ih hl
theorem Ways.conn {L : LinkD → Prop} {row : Int} {W : WayL} (h : Ways L row W) : ∀ k ∈ keys W, Conn L row k := by
  induction h with
  | start => intro k hk; simp [keys] at hk; rw [hk]; exact .refl _
  | add h hl hs hd ih =>
    intro k hk
    rw [keys_snoc] at hk
    rcases List.mem_append.mp hk with hk | hk
    · exact ih k hk
    · rw [List.mem_singleton.mp hk]
      exact .step (ih _ hs) hl
theorem Ways.conn_iff {L : LinkD → Prop} {row : Int} {W : WayL} (h : Ways L row W) (c : Closed L W) (k : Int) : k ∈ keys W ↔ Conn L row k := by
  refine ⟨h.conn k, fun g => ?_⟩
  induction g with
  | refl => exact h.row
  | step _ hl ih => exact c _ hl ih
/-- a list without doubles, all of it in another, is no longer -/
theorem nodup_le {α : Type} [DecidableEq α] : ∀ {l m : List α}, l.Nodup → (∀ x ∈ l, x ∈ m) → l.length ≤ m.length
  | [], _, _, _ => Nat.zero_le _
  | a :: l, m, hn, hs => by
    have ha := hs a List.mem_cons_self
    have h1 := List.nodup_cons.mp hn
    have : l.length ≤ (m.erase a).length := nodup_le h1.2 fun x hx => by
      have hxa : x ≠ a := fun e => h1.1 (e ▸ hx)
      exact (List.mem_erase_of_ne hxa).mpr (hs x (List.mem_cons_of_mem _ hx))
    have e := List.length_erase_of_mem ha
    have : 0 < m.length := List.length_pos_of_mem ha
    simp only [List.length_cons]
    omega
theorem Ways.length {r : RowsD} {ss : List Int} {row : Int} {W : WayL} (h : Ways (IsLink r ss) row W) : W.length ≤ 2 * ss.length + 1 := by
  have : (keys W).length ≤ (row :: (ss.map (fun t => (smallSpot r t).row) ++ ss.map fun t => (greatSpot r t).row)).length := nodup_le h.nodup fun k hk => by
    rcases h.keys_of k hk with rfl | ⟨l, ⟨t, ht, e⟩, rfl⟩
    · exact List.mem_cons_self
    · refine List.mem_cons_of_mem _ (List.mem_append.mpr ?_)
      rcases e with rfl | rfl
      · exact .inr (List.mem_map.mpr ⟨t, ht, rfl⟩)
      · exact .inl (List.mem_map.mpr ⟨t, ht, rfl⟩)
  simp [keys] at this
  omega
end Bm
/-! Hanging together: one single more; ties by elders. -/
namespace Bm
theorem Conn.mono {L L' : LinkD → Prop} {a b : Int} (h : Conn L a b) (m : ∀ l, L l → L' l) : Conn L' a b := by
  induction h with
  | refl => exact .refl _
  | step _ hl ih => exact .step ih (m _ hl)
theorem IsLink.flip {r : RowsD} {ss : List Int} {l : LinkD} (h : IsLink r ss l) : IsLink r ss ⟨l.dst, l.beat, l.src⟩ := by
  obtain ⟨t, ht, rfl | rfl⟩ := h
  · exact ⟨t, ht, .inr rfl⟩
  · exact ⟨t, ht, .inl rfl⟩
theorem Conn.symm {r : RowsD} {ss : List Int} {a b : Int} (h : Conn (IsLink r ss) a b) : Conn (IsLink r ss) b a := by
  induction h with
  | refl => exact .refl _
  | step _ hl ih =>
    have := Conn.step (Conn.refl _) hl.flip
    exact this.trans ih
noncomputable abbrev rowS (r : RowsD) (t : Int) : Int := (smallSpot r t).row
noncomputable abbrev rowG (r : RowsD) (t : Int) : Int := (greatSpot r t).row
theorem Conn.edge {r : RowsD} {ss : List Int} {t : Int} (h : t ∈ ss) : Conn (IsLink r ss) (rowS r t) (rowG r t) :=
  Conn.step (l := ⟨smallSpot r t, t, greatSpot r t⟩) (.refl _) ⟨t, h, .inl rfl⟩
/-- the same singles, in whatever order -/
theorem Conn.sub {r : RowsD} {ss ss' : List Int} {a b : Int} (h : Conn (IsLink r ss) a b) (m : ∀ t ∈ ss, t ∈ ss') : Conn (IsLink r ss') a b :=
  h.mono fun _ ⟨t, ht, e⟩ => ⟨t, m t ht, e⟩
/-- one single more -/
theorem Conn.more {r : RowsD} {ss : List Int} {t x y : Int} : Conn (IsLink r (ss ++ [t])) x y ↔
    Conn (IsLink r ss) x y ∨ (Conn (IsLink r ss) x (rowS r t) ∧ Conn (IsLink r ss) (rowG r t) y) ∨ (Conn (IsLink r ss) x (rowG r t) ∧ Conn (IsLink r ss) (rowS r t) y) := by
  constructor
  · intro h
    induction h with
    | refl => exact .inl (.refl _)
    | @step l _ hl ih =>
      obtain ⟨t', ht, e⟩ := hl
      rcases List.mem_append.mp ht with ht | ht
      · have st : Conn (IsLink r ss) l.src.row l.dst.row := .step (.refl _) ⟨t', ht, e⟩
        rcases ih with z | ⟨z1, z2⟩ | ⟨z1, z2⟩
        · exact .inl (z.trans st)
        · exact .inr (.inl ⟨z1, z2.trans st⟩)
        · exact .inr (.inr ⟨z1, z2.trans st⟩)
      · rw [List.mem_singleton.mp ht] at e
        rcases e with rfl | rfl
        · rcases ih with z | ⟨z1, z2⟩ | ⟨z1, z2⟩
          · exact .inr (.inl ⟨z, .refl _⟩)
          · exact .inr (.inl ⟨z1, .refl _⟩)
          · exact .inl z1
        · rcases ih with z | ⟨z1, z2⟩ | ⟨z1, z2⟩
          · exact .inr (.inr ⟨z, .refl _⟩)
          · exact .inl z1
          · exact .inr (.inr ⟨z1, .refl _⟩)
  · have sub : ∀ {a b}, Conn (IsLink r ss) a b → Conn (IsLink r (ss ++ [t])) a b := fun h => h.sub fun _ z => List.mem_append_left _ z
    have ed : Conn (IsLink r (ss ++ [t])) (rowS r t) (rowG r t) := Conn.edge (List.mem_append_right _ (List.mem_singleton.mpr rfl))
    rintro (h | ⟨h1, h2⟩ | ⟨h1, h2⟩)
    · exact sub h
    · exact ((sub h1).trans ed).trans (sub h2)
    · exact ((sub h1).trans ed.symm).trans (sub h2)
/-! ### elders -/
abbrev Eld := List (Int × Int)
def headOf (E : Eld) (n : Int) : Int := E.foldl (fun m e => if m = e.1 then e.2 else m) n
theorem headOf_snoc (E : Eld) (f s n : Int) : headOf (E ++ [(f, s)]) n = if headOf E n = f then s else headOf E n := by
  unfold headOf
  rw [List.foldl_append]
  rfl
abbrev eks (E : Eld) : List Int := E.map (·.1)
inductive GoodE : Eld → Prop
  | nil : GoodE []
  | snoc {E : Eld} {f s : Int} (h : GoodE E) (hf : f ∉ eks E) (hs : s ∉ eks E) (ne : f ≠ s) : GoodE (E ++ [(f, s)])
theorem eks_snoc (E : Eld) (f s : Int) : eks (E ++ [(f, s)]) = eks E ++ [f] := by simp [eks]
theorem headOf_not {E : Eld} (g : GoodE E) (n : Int) : headOf E n ∉ eks E := by
  induction g with
  | nil => exact fun h => by cases h
  | @snoc E f s h hf hs ne ih =>
    rw [headOf_snoc, eks_snoc, List.mem_append, List.mem_singleton]
    split
    · rintro (z | z)
      · exact hs z
      · exact ne z.symm
    · rename_i c
      rintro (z | z)
      · exact ih z
      · exact c z
theorem headOf_self {E : Eld} (g : GoodE E) {n : Int} (hn : n ∉ eks E) : headOf E n = n := by
  induction g with
  | nil => rfl
  | @snoc E f s h hf hs ne ih =>
    rw [eks_snoc, List.mem_append, List.mem_singleton] at hn
    have h1 : n ∉ eks E := fun z => hn (.inl z)
    have h2 : n ≠ f := fun z => hn (.inr z)
    rw [headOf_snoc, ih h1, if_neg h2]
/-- where a name stands -/
def posE : Eld → Int → Nat
  | [], _ => 0
  | e :: E, n => if e.1 = n then 0 else posE E n + 1
theorem posE_le (E : Eld) (n : Int) : posE E n ≤ E.length := by
  induction E with
  | nil => exact Nat.le_refl _
  | cons e E ih =>
    unfold posE
    split
    · exact Nat.zero_le _
    · simp only [List.length_cons]
      omega
theorem posE_mem {E : Eld} {n : Int} : n ∈ eks E ↔ posE E n < E.length := by
  induction E with
  | nil => exact ⟨fun h => (by cases h), fun h => absurd h (Nat.lt_irrefl _)⟩
  | cons e E ih =>
    show n ∈ e.1 :: eks E ↔ (if e.1 = n then 0 else posE E n + 1) < E.length + 1
    rw [List.mem_cons, ih]
    split
    · rename_i c
      exact ⟨fun _ => by omega, fun _ => .inl c.symm⟩
    · rename_i c
      constructor
      · rintro (z | z)
        · exact absurd z.symm c
        · omega
      · intro z
        exact .inr (by omega)
theorem posE_app {E : Eld} {n : Int} (F : Eld) (h : n ∈ eks E) : posE (E ++ F) n = posE E n := by
  induction E with
  | nil => cases h
  | cons e E ih =>
    show (if e.1 = n then 0 else posE (E ++ F) n + 1) = if e.1 = n then 0 else posE E n + 1
    split
    · rfl
    · rename_i c
      rcases List.mem_cons.mp h with z | z
      · exact absurd z.symm c
      · rw [ih z]
theorem posE_app' {E : Eld} {n : Int} (F : Eld) (h : n ∉ eks E) : posE (E ++ F) n = E.length + posE F n := by
  induction E with
  | nil => simp
  | cons e E ih =>
    have h1 : e.1 ≠ n := fun z => h (z ▸ List.mem_cons_self)
    have h2 : n ∉ eks E := fun z => h (List.mem_cons_of_mem _ z)
    show (if e.1 = n then 0 else posE (E ++ F) n + 1) = _
    rw [if_neg h1, ih h2]
    simp only [List.length_cons]
    omega
/-- one step up -/
theorem up_step {E : Eld} (g : GoodE E) {n v : Int} (h : (n, v) ∈ E) : headOf E v = headOf E n ∧ posE E n < posE E v ∧ posE E n < E.length := by
  induction g with
  | nil => cases h
  | @snoc E f s g hf hs ne ih =>
    rcases List.mem_append.mp h with h | h
    · have hn : n ∈ eks E := List.mem_map.mpr ⟨(n, v), h, rfl⟩
      obtain ⟨h1, h2, h3⟩ := ih h
      refine ⟨by rw [headOf_snoc, headOf_snoc, h1], ?_, ?_⟩
      · rw [posE_app _ hn]
        by_cases c : v ∈ eks E
        · rw [posE_app _ c]
          exact h2
        · rw [posE_app' _ c]
          omega
      · rw [posE_app _ hn, List.length_append]
        omega
    · have e := List.mem_singleton.mp h
      injection e with e1 e2
      subst e1 e2
      refine ⟨?_, ?_, ?_⟩
      · rw [headOf_snoc, headOf_snoc, headOf_self g hs, headOf_self g hf, if_neg (Ne.symm ne), if_pos rfl]
      · rw [posE_app' _ hf, posE_app' _ hs]
        show E.length + (if n = n then 0 else _) < E.length + (if n = v then 0 else _ + 1)
        rw [if_pos rfl, if_neg ne]
        omega
      · rw [posE_app' _ hf, List.length_append]
        show E.length + (if n = n then 0 else _) < E.length + 1
        rw [if_pos rfl]
        omega
def tieE (E : Eld) (u v : Int) : Eld := if headOf E u = headOf E v then E else E ++ [(headOf E u, headOf E v)]
theorem GoodE.tie {E : Eld} (g : GoodE E) (u v : Int) : GoodE (tieE E u v) := by
  unfold tieE
  split
  · exact g
  · rename_i c
    exact .snoc g (headOf_not g u) (headOf_not g v) c
theorem tie_heads {E : Eld} (u v x y : Int) : headOf (tieE E u v) x = headOf (tieE E u v) y ↔
    headOf E x = headOf E y ∨ (headOf E x = headOf E u ∧ headOf E v = headOf E y) ∨ (headOf E x = headOf E v ∧ headOf E u = headOf E y) := by
  unfold tieE
  split
  · rename_i c
    constructor
    · exact .inl
    · rintro (h | ⟨h1, h2⟩ | ⟨h1, h2⟩)
      · exact h
      · rw [h1, c, h2]
      · rw [h1, ← c, h2]
  · rename_i c
    rw [headOf_snoc, headOf_snoc]
    generalize headOf E x = a at *
    generalize headOf E y = b at *
    generalize headOf E u = p at *
    generalize headOf E v = q at *
    split <;> split <;> omega
/-- all singles tied -/
noncomputable def tiesE (r : RowsD) (ss : List Int) : Eld := ss.foldl (fun E t => tieE E (rowS r t) (rowG r t)) []
theorem tiesE_snoc (r : RowsD) (ss : List Int) (t : Int) : tiesE r (ss ++ [t]) = tieE (tiesE r ss) (rowS r t) (rowG r t) := by
  unfold tiesE
  rw [List.foldl_append]
  rfl
theorem snoc_ind {α : Type} {P : List α → Prop} (h0 : P []) (hs : ∀ l a, P l → P (l ++ [a])) : ∀ l, P l := by
  intro l
  have : ∀ n (l : List α), l.length = n → P l := by
    intro n
    induction n with
    | zero => intro l hl; rw [List.eq_nil_of_length_eq_zero hl]; exact h0
    | succ n ih =>
      intro l hl
      rcases List.eq_nil_or_concat l with e | ⟨t, a, e⟩
      · rw [e] at hl
        cases hl
      · rw [e, List.concat_eq_append]
        refine hs t a (ih t ?_)
        rw [e, List.concat_eq_append, List.length_append] at hl
        simpa using hl
  exact this _ l rfl
theorem tiesE_good (r : RowsD) : ∀ ss, GoodE (tiesE r ss) := snoc_ind .nil fun l t h => by
  rw [tiesE_snoc]
  exact h.tie _ _
theorem tiesE_len (r : RowsD) : ∀ ss, (tiesE r ss).length ≤ ss.length := snoc_ind (Nat.le_refl _) fun l t h => by
  rw [tiesE_snoc, List.length_append]
  unfold tieE
  split
  · omega
  · rw [List.length_append]
    simp
    omega
theorem ties_conn (r : RowsD) : ∀ (ss : List Int) (x y : Int), headOf (tiesE r ss) x = headOf (tiesE r ss) y ↔ Conn (IsLink r ss) x y := by
  refine snoc_ind (fun x y => ?_) (fun l t ih x y => ?_)
  · constructor
    · intro h
      have h : x = y := h
      rw [h]
      exact .refl _
    · intro h
      cases h with
      | refl => rfl
      | step _ hl =>
        obtain ⟨t, ht, _⟩ := hl
        cases ht
  · rw [tiesE_snoc, tie_heads, Conn.more, ih, ih, ih, ih, ih]
end Bm
/-! A beat with a cup of either belt: Euclid with the factors. -/
namespace Bm
/-- the state of the loop: low and high by their factors -/
structure Ext (a size low high mine its : Int) : Prop where
  l0 : 0 ≤ low
  lh : low < high
  hs : high ≤ size
  fl : ∃ u, low = mine * a + size * u
  fh : ∃ v, high = its * a + size * v
  gc : Int.gcd low high = Int.gcd a size
  ib : -size ≤ its ∧ its ≤ size
  sg : (0 ≤ mine ∧ its ≤ 0 ∧ mine * high - its * low = size) ∨ (mine ≤ 0 ∧ 0 ≤ its ∧ its * low - mine * high = size)
theorem Ext.start {a size : Int} (hs : 0 < size) : Ext a size (a % size) size 1 0 := by
  have h1 := Int.emod_add_mul_ediv a size
  refine ⟨Int.emod_nonneg _ (by omega), Int.emod_lt_of_pos _ hs, Int.le_refl _, ⟨-(a / size), ?_⟩, ⟨1, by omega⟩, ?_, by omega, .inl ⟨by omega, by omega, by omega⟩⟩
  · rw [Int.mul_neg]
    omega
  · rw [Int.gcd_comm, gcd_emod]
theorem Ext.mb {a size low high mine its : Int} (e : Ext a size low high mine its) : -size ≤ mine ∧ mine ≤ size := by
  obtain ⟨l0, lh, hs, _, _, _, ib, sg⟩ := e
  have hp : 1 ≤ high := by omega
  rcases sg with ⟨h1, h2, h3⟩ | ⟨h1, h2, h3⟩
  · have z1 : 0 ≤ (-its) * low := Int.mul_nonneg (by omega) l0
    have z2 : mine * 1 ≤ mine * high := Int.mul_le_mul_of_nonneg_left hp h1
    rw [Int.neg_mul] at z1
    omega
  · have z1 : 0 ≤ its * low := Int.mul_nonneg h2 l0
    have z2 : (-mine) * 1 ≤ (-mine) * high := Int.mul_le_mul_of_nonneg_left hp (by omega)
    rw [Int.neg_mul, Int.neg_mul] at z2
    omega
theorem Ext.next {a size low high mine its : Int} (e : Ext a size low high mine its) (h : 0 < low) :
    Ext a size (high - high / low * low) low (its - high / low * mine) mine := by
  have hm := e.mb
  obtain ⟨l0, lh, hs, ⟨u, fu⟩, ⟨v, fv⟩, gc, ib, sg⟩ := e
  have q1 := Int.emod_add_mul_ediv high low
  have q2 := Int.emod_nonneg high (by omega : low ≠ 0)
  have q3 := Int.emod_lt_of_pos high h
  have q4 : high - high / low * low = high % low := by
    rw [Int.mul_comm (high / low) low]
    omega
  have p0 : 0 ≤ high / low := Int.ediv_nonneg (by omega) l0
  refine ⟨by omega, by omega, by omega, ⟨v - high / low * u, ?_⟩, ⟨u, fu⟩, ?_, hm, ?_⟩
  · generalize high / low = k
    subst fu fv
    grind
  · rw [q4, Int.gcd_comm, gcd_emod, Int.gcd_comm]
    exact gc
  · generalize hk : high / low = k at *
    rcases sg with ⟨h1, h2, h3⟩ | ⟨h1, h2, h3⟩
    · refine .inr ⟨?_, h1, ?_⟩
      · have : 0 ≤ k * mine := Int.mul_nonneg p0 h1
        omega
      · grind
    · refine .inl ⟨?_, h1, ?_⟩
      · have : 0 ≤ k * (-mine) := Int.mul_nonneg p0 (by omega)
        rw [Int.mul_neg] at this
        omega
      · grind
/-- the end: its is the inverse -/
theorem Ext.done {a size high mine its : Int} (e : Ext a size 0 high mine its) (g : Int.gcd a size = 1) : ∃ v, its * a + size * v = 1 := by
  obtain ⟨l0, lh, hs, _, ⟨v, fv⟩, gc, _, _⟩ := e
  rw [g, Int.gcd_zero_left] at gc
  exact ⟨v, by omega⟩
theorem meet_ok {one other cup far its v : Int} (h1 : 0 < one) (h2 : 0 < other) (hg : ((Int.gcd one other : Nat) : Int) ∣ far - cup)
    (hi : its * (one / (Int.gcd one other : Nat)) + other / (Int.gcd one other : Nat) * v = 1) :
    ∃ x, x = (far - cup) / (Int.gcd one other : Nat) * its % (other / (Int.gcd one other : Nat)) ∧ 0 ≤ x ∧ x < other ∧ (cup + one * x - cup) % one = 0 ∧ (cup + one * x - far) % other = 0 := by
  have gp : 0 < ((Int.gcd one other : Nat) : Int) := by
    have : 0 < Int.gcd one other := Int.gcd_pos_of_ne_zero_left _ (by omega)
    omega
  obtain ⟨a, ha⟩ := Int.gcd_dvd_left one other
  obtain ⟨b, hb⟩ := Int.gcd_dvd_right one other
  obtain ⟨k, hk⟩ := hg
  generalize ((Int.gcd one other : Nat) : Int) = g at *
  have ea : one / g = a := by rw [ha, Int.mul_ediv_cancel_left _ (by omega)]
  have eb : other / g = b := by rw [hb, Int.mul_ediv_cancel_left _ (by omega)]
  have ek : (far - cup) / g = k := by rw [hk, Int.mul_ediv_cancel_left _ (by omega)]
  rw [ea, eb] at hi
  rw [eb, ek]
  have b0 : 0 < b := by
    rw [hb] at h2
    exact Int.pos_of_mul_pos_right h2 (by omega)
  have q1 := Int.emod_add_mul_ediv (k * its) b
  refine ⟨_, rfl, Int.emod_nonneg _ (by omega), ?_, ?_, ?_⟩
  · have := Int.emod_lt_of_pos (k * its) b0
    have : 1 * b ≤ g * b := Int.mul_le_mul_of_nonneg_right (by omega) (by omega)
    omega
  · have : cup + one * (k * its % b) - cup = one * (k * its % b) := by omega
    rw [this]
    exact Int.mul_emod_right ..
  · generalize k * its % b = x at *
    generalize k * its / b = y at *
    have : cup + one * x - far = other * (0 - k * v - a * y) := by
      subst ha hb
      have e1 : far = cup + g * k := by omega
      subst e1
      have e2 : x = k * its - b * y := by omega
      subst e2
      grind
    rw [this]
    exact Int.mul_emod_right ..
/-- where two numbers leave the same rest by the common part there is a meeting; else none -/
theorem meet_none {one other cup far t : Int} (h1 : (t - cup) % one = 0) (h2 : (t - far) % other = 0) : ((Int.gcd one other : Nat) : Int) ∣ far - cup := by
  have d1 : ((Int.gcd one other : Nat) : Int) ∣ t - cup := Int.dvd_trans (Int.gcd_dvd_left ..) (Int.dvd_of_emod_eq_zero h1)
  have d2 : ((Int.gcd one other : Nat) : Int) ∣ t - far := Int.dvd_trans (Int.gcd_dvd_right ..) (Int.dvd_of_emod_eq_zero h2)
  have : far - cup = (t - cup) - (t - far) := by omega
  rw [this]
  exact Int.dvd_sub d1 d2
theorem gcd_div_one {one other : Int} (h1 : 0 < one) : Int.gcd (one / (Int.gcd one other : Nat)) (other / (Int.gcd one other : Nat)) = 1 := by
  have gp : 0 < Int.gcd one other := Int.gcd_pos_of_ne_zero_left _ (by omega)
  exact Int.gcd_ediv_gcd_ediv_gcd gp
end Bm
/-! Whole stretches: every cup hangs; names of cups by beats. -/
namespace Bm
theorem emod_of_dvd {a b m : Int} (h : m ∣ a - b) : a % m = b % m := Int.emod_emod_of_dvd_sub h
where
  Int.emod_emod_of_dvd_sub {a b m : Int} (h : m ∣ a - b) : a % m = b % m := (Int.emod_eq_emod_iff_emod_sub_eq_zero).mpr (Int.emod_eq_zero_of_dvd h)
theorem dvd_sub_emod (a m : Int) : m ∣ a - a % m := ⟨a / m, by
  have := Int.emod_add_mul_ediv a m
  omega⟩
section
variable {r : RowsD} (o : RowsOk r)
include o
theorem endOf_res (p : Int) : r.shared ∣ endOf r p - p := by
  have h1 : r.shared ∣ (p + r.by' * stepsOn r p) - endOf r p := Int.dvd_trans o.sh_small (dvd_sub_emod _ _)
  have h2 : r.shared ∣ r.by' * stepsOn r p := Int.dvd_trans o.sh_by (Int.dvd_mul_right _ _)
  have e : endOf r p - p = r.by' * stepsOn r p - ((p + r.by' * stepsOn r p) - endOf r p) := by omega
  rw [e]
  exact Int.dvd_sub h2 h1
theorem rowS_res (t : Int) : r.shared ∣ rowS r t - t := by
  have h1 := endOf_res o (t % r.small)
  have h2 : r.shared ∣ t - t % r.small := Int.dvd_trans o.sh_small (dvd_sub_emod _ _)
  have e : rowS r t - t = (endOf r (t % r.small) - t % r.small) - (t - t % r.small) := by
    show endOf r (t % r.small) - t = _
    omega
  rw [e]
  exact Int.dvd_sub h1 h2
theorem rowG_hung (h : r.hung = r.great) (t : Int) : rowG r t = endOf r (t % r.great % r.small) := by
  have g1 := Int.emod_lt_of_pos t (by have := o.s0; have := o.sg; omega : 0 < r.great)
  show (greatSpot r t).row = _
  unfold greatSpot
  rw [if_neg (by omega)]
  split <;> rfl
theorem rowG_res (h : r.hung = r.great) (t : Int) : r.shared ∣ rowG r t - t := by
  rw [rowG_hung o h]
  have h1 := endOf_res o (t % r.great % r.small)
  have h2 : r.shared ∣ t % r.great - t % r.great % r.small := Int.dvd_trans o.sh_small (dvd_sub_emod _ _)
  have h3 : r.shared ∣ t - t % r.great := Int.dvd_trans o.sh_great (dvd_sub_emod _ _)
  have e : endOf r (t % r.great % r.small) - t = (endOf r (t % r.great % r.small) - t % r.great % r.small) - (t % r.great - t % r.great % r.small) - (t - t % r.great) := by omega
  rw [e]
  exact Int.dvd_sub (Int.dvd_sub h1 h2) h3
theorem rowSG (h : r.hung = r.great) {t : Int} (h0 : 0 ≤ t) (h1 : t < r.great) : rowG r t = rowS r t := by
  rw [rowG_hung o h, Int.emod_eq_of_lt h0 h1]
  rfl
theorem conn_res (h : r.hung = r.great) {ss : List Int} {a b : Int} (c : Conn (IsLink r ss) a b) : r.shared ∣ b - a := by
  induction c with
  | refl => exact ⟨0, by omega⟩
  | step c hl ih =>
    obtain ⟨t, ht, rfl | rfl⟩ := hl
    · have e1 := rowS_res o t
      have e2 := rowG_res o h t
      have := Int.dvd_add ih (Int.dvd_sub e2 e1)
      have e : rowG r t - a = (rowS r t - a) + ((rowG r t - t) - (rowS r t - t)) := by omega
      show r.shared ∣ rowG r t - a
      rw [e]
      exact this
    · have e1 := rowS_res o t
      have e2 := rowG_res o h t
      have := Int.dvd_add ih (Int.dvd_sub e1 e2)
      have e : rowS r t - a = (rowG r t - a) + ((rowS r t - t) - (rowG r t - t)) := by omega
      show r.shared ∣ rowS r t - a
      rw [e]
      exact this
end
theorem rowS_congr {r : RowsD} {t u : Int} (h : t % r.small = u % r.small) : rowS r t = rowS r u := by
  show endOf r (t % r.small) = endOf r (u % r.small)
  rw [h]
theorem rowG_congr {r : RowsD} {t u : Int} (h : t % r.great = u % r.great) : rowG r t = rowG r u := by
  show (greatSpot r t).row = (greatSpot r u).row
  unfold greatSpot
  rw [h]
end Bm
/-! The ways from a row as they are found: line by line. -/
namespace Bm
/-- all links in their order -/
noncomputable def linksL (r : RowsD) (ss : List Int) : List LinkD := ss.flatMap fun t => [⟨smallSpot r t, t, greatSpot r t⟩, ⟨greatSpot r t, t, smallSpot r t⟩]
theorem linksL_mem {r : RowsD} {ss : List Int} {l : LinkD} : l ∈ linksL r ss ↔ IsLink r ss l := by
  unfold linksL IsLink
  rw [List.mem_flatMap]
  constructor
  · rintro ⟨t, ht, h⟩
    rcases List.mem_cons.mp h with h | h
    · exact ⟨t, ht, .inl h⟩
    · exact ⟨t, ht, .inr (List.mem_singleton.mp h)⟩
  · rintro ⟨t, ht, h | h⟩
    · exact ⟨t, ht, by rw [h]; exact List.mem_cons_self⟩
    · exact ⟨t, ht, by rw [h]; exact List.mem_cons_of_mem _ (List.mem_singleton.mpr rfl)⟩
theorem linksL_snoc (r : RowsD) (ss : List Int) (t : Int) : linksL r (ss ++ [t]) = (linksL r ss ++ [⟨smallSpot r t, t, greatSpot r t⟩]) ++ [⟨greatSpot r t, t, smallSpot r t⟩] := by
  unfold linksL
  rw [List.flatMap_append]
  simp
def ofRow (LL : List LinkD) (n : Int) : List LinkD := LL.filter fun l => decide (l.src.row = n)
theorem ofRow_snoc (LL : List LinkD) (l : LinkD) (n : Int) : ofRow (LL ++ [l]) n = if l.src.row = n then ofRow LL n ++ [l] else ofRow LL n := by
  unfold ofRow
  rw [List.filter_append]
  split
  · rename_i h
    simp [h]
  · rename_i h
    simp [h]
def stepL (s : WayL × List Int) (l : LinkD) : WayL × List Int := if l.dst.row ∈ keys s.1 then s else (s.1 ++ [(l.dst.row, some l)], s.2 ++ [l.dst.row])
def rowF (LL : List LinkD) (s : WayL × List Int) (n : Int) : WayL × List Int := (ofRow LL n).foldl stepL s
def lineF (LL : List LinkD) (s : WayL × List Int) : WayL × List Int := s.2.foldl (rowF LL) (s.1, [])
def bfs (LL : List LinkD) (row : Int) : Nat → WayL × List Int
  | 0 => ([(row, none)], [row])
  | n + 1 => lineF LL (bfs LL row n)
theorem bfs_stop {LL : List LinkD} {row : Int} {n : Nat} {W : WayL} (h : bfs LL row n = (W, [])) : ∀ k, bfs LL row (n + k) = (W, [])
  | 0 => h
  | k + 1 => by
    show lineF LL (bfs LL row (n + k)) = _
    rw [bfs_stop h k]
    rfl
/-- the ways at the end -/
def Ended (LL : List LinkD) (row : Int) (W : WayL) : Prop := ∃ n, bfs LL row n = (W, [])
theorem Ended.unique {LL : List LinkD} {row : Int} {W W' : WayL} (h : Ended LL row W) (h' : Ended LL row W') : W = W' := by
  obtain ⟨n, e⟩ := h
  obtain ⟨m, e'⟩ := h'
  rcases Nat.le_total n m with c | c
  · obtain ⟨k, rfl⟩ := Nat.exists_eq_add_of_le c
    rw [bfs_stop e k] at e'
    exact (Prod.mk.inj e').1
  · obtain ⟨k, rfl⟩ := Nat.exists_eq_add_of_le c
    rw [bfs_stop e' k] at e
    exact (Prod.mk.inj e).1.symm
/-- the links that lead back to the row of the start, in their order from there on -/
inductive Back (W : WayL) : Int → List LinkD → Prop
  | stop {k : Int} (h : (k, none) ∈ W) : Back W k []
  | step {k : Int} {l : LinkD} {ls : List LinkD} (h : (k, some l) ∈ W) (b : Back W l.src.row ls) : Back W k (ls ++ [l])
theorem way_unique {W : WayL} (hn : (keys W).Nodup) {k : Int} {a b : Option LinkD} (ha : (k, a) ∈ W) (hb : (k, b) ∈ W) : a = b := by
  induction W with
  | nil => cases ha
  | cons e W ih =>
    have h1 := List.nodup_cons.mp hn
    have mk : ∀ {c : Option LinkD}, (k, c) ∈ W → k ∈ keys W := fun h => List.mem_map.mpr ⟨_, h, rfl⟩
    rcases List.mem_cons.mp ha with ea | ha
    · rcases List.mem_cons.mp hb with eb | hb
      · rw [← ea] at eb
        exact (Prod.mk.inj eb).2.symm
      · exfalso
        apply h1.1
        rw [← ea]
        exact mk hb
    · rcases List.mem_cons.mp hb with eb | hb
      · exfalso
        apply h1.1
        rw [← eb]
        exact mk ha
      · exact ih h1.2 ha hb
theorem Back.unique {W : WayL} (hn : (keys W).Nodup) {k : Int} {a b : List LinkD} (ha : Back W k a) (hb : Back W k b) : a = b := by
  induction ha generalizing b with
  | stop h =>
    cases hb with
    | stop _ => rfl
    | step h' _ =>
      have := way_unique hn h h'
      cases this
  | step h _ ih =>
    cases hb with
    | stop h' =>
      have := way_unique hn h h'
      cases this
    | step h' b' =>
      have e := way_unique hn h h'
      cases e
      rw [ih b']
end Bm
/-! Rows as orbits: places by their steps back; beats along a row. -/
namespace Bm
theorem inv_go : ∀ (n : Nat) {a size low high mine its : Int}, Ext a size low high mine its → low.toNat = n → Int.gcd a size = 1 → ∃ u v, u * a + size * v = 1 := by
  intro n
  induction n using Nat.strongRecOn with
  | _ n ih =>
    intro a size low high mine its e hn g
    by_cases h : 0 < low
    · have nx := e.next h
      have l0 := nx.l0
      have lh := nx.lh
      exact ih _ (by omega) nx rfl g
    · have l0 := e.l0
      have e0 : low = 0 := by omega
      subst e0
      obtain ⟨v, hv⟩ := e.done g
      exact ⟨_, _, hv⟩
theorem inv_exists {a m : Int} (hm : 0 < m) (g : Int.gcd a m = 1) : ∃ u v, u * a + m * v = 1 := inv_go _ (Ext.start (a := a) hm) rfl g
theorem hit_exists {a b m lo hi : Int} (hm : 0 < m) (g : ((Int.gcd b m : Nat) : Int) ≤ hi - lo + 1) (h0 : 0 ≤ lo) (hh : hi < m) : ∃ y, 0 ≤ y ∧ lo ≤ (a + b * y) % m ∧ (a + b * y) % m ≤ hi := by
  have gp : 0 < ((Int.gcd b m : Nat) : Int) := by
    have : 0 < Int.gcd b m := Int.gcd_pos_of_ne_zero_right _ (by omega)
    omega
  have g1 := gcd_div_one (one := m) (other := b) hm
  rw [Int.gcd_comm m b, Int.gcd_comm (m / _)] at g1
  obtain ⟨b', hb⟩ := Int.gcd_dvd_left b m
  obtain ⟨m', hm'⟩ := Int.gcd_dvd_right b m
  generalize ((Int.gcd b m : Nat) : Int) = G at *
  have e1 : b / G = b' := by rw [hb, Int.mul_ediv_cancel_left _ (by omega)]
  have e2 : m / G = m' := by rw [hm', Int.mul_ediv_cancel_left _ (by omega)]
  rw [e1, e2] at g1
  have m0 : 0 < m' := by
    rw [hm'] at hm
    rcases Int.lt_or_le 0 m' with c | c
    · exact c
    · exfalso
      have := Int.mul_le_mul_of_nonneg_left c (Int.le_of_lt gp)
      omega
  obtain ⟨u, v, huv⟩ := inv_exists m0 g1
  -- the residue that is to be hit
  have r0 := Int.emod_nonneg (a - lo) (by omega : G ≠ 0)
  have r1 := Int.emod_lt_of_pos (a - lo) gp
  have r2 := Int.emod_add_mul_ediv (a - lo) G
  generalize hk : (a - lo) / G = k at r2
  have hc : lo + (a - lo) % G = a - G * k := by omega
  have y0 := Int.emod_nonneg (-k * u) (by omega : m ≠ 0)
  have y2 := Int.emod_add_mul_ediv (-k * u) m
  refine ⟨(-k * u) % m, y0, ?_⟩
  have e : (a + b * ((-k * u) % m)) % m = lo + (a - lo) % G := by
    refine emod_of (k * v - b * ((-k * u) / m)) (by omega) (by omega) ?_
    rw [hc]
    have : (-k * u) % m = -k * u - m * ((-k * u) / m) := by omega
    rw [this]
    generalize (-k * u) / m = q
    rw [hb, hm']
    grind
  rw [e]
  omega
theorem least_from {a b m lo hi : Int} : ∀ (n : Nat), lo ≤ (a + b * (n : Int)) % m ∧ (a + b * (n : Int)) % m ≤ hi → ∃ x, LeastIn a b m lo hi x := by
  intro n
  induction n using Nat.strongRecOn with
  | _ n ih =>
    intro h
    by_cases c : ∃ k : Nat, k < n ∧ lo ≤ (a + b * (k : Int)) % m ∧ (a + b * (k : Int)) % m ≤ hi
    · obtain ⟨k, hk, h'⟩ := c
      exact ih k hk h'
    · refine ⟨n, by omega, h, fun y h1 h2 h3 => c ⟨y.toNat, by omega, ?_⟩⟩
      have e : ((y.toNat : Nat) : Int) = y := by omega
      rw [e]
      exact h3
theorem least_exists {a b m lo hi : Int} (hm : 0 < m) (g : ((Int.gcd b m : Nat) : Int) ≤ hi - lo + 1) (h0 : 0 ≤ lo) (hh : hi < m) : ∃ x, LeastIn a b m lo hi x := by
  obtain ⟨y, h1, h2⟩ := hit_exists (a := a) hm g h0 hh
  have e : ((y.toNat : Nat) : Int) = y := by omega
  exact least_from y.toNat (by rw [e]; exact h2)
section
variable {r : RowsD} (o : RowsOk r)
include o
theorem on_least (p : Int) : LeastIn p r.by' r.small r.bound (r.small - 1) (stepsOn r p) := by
  have s0 := o.s0
  have bs := o.bs
  have b0 := o.b0
  have g := o.gcd_by
  obtain ⟨x, hx⟩ := least_exists (a := p) (b := r.by') (m := r.small) (lo := r.bound) (hi := r.small - 1) (by omega) (by omega) (by omega) (by omega)
  rw [stepsOn_eq hx]
  exact hx
theorem back_least (p : Int) : LeastIn (p - r.by') (0 - r.by') r.small r.bound (r.small - 1) (stepsBack r p) := by
  have s0 := o.s0
  have bs := o.bs
  have b0 := o.b0
  have g := o.gcd_by'
  obtain ⟨x, hx⟩ := least_exists (a := p - r.by') (b := 0 - r.by') (m := r.small) (lo := r.bound) (hi := r.small - 1) (by omega) (by omega) (by omega) (by omega)
  rw [stepsBack_eq hx]
  exact hx
theorem end_bounds (p : Int) : r.bound ≤ endOf r p ∧ endOf r p < r.small := by
  have h := (on_least o p).hit
  unfold endOf
  omega
theorem small_pos : 0 < r.small := by
  have := o.s0
  omega
theorem back_end (p : Int) : stepsBack r (endOf r p) = stepsBack r p + stepsOn r p := by
  have hb := back_least o p
  have ho := on_least o p
  have nb := hb.nn
  have no := ho.nn
  have mm : ∀ x : Int, (endOf r p - x) % r.small = (p + r.by' * stepsOn r p - x) % r.small := fun x => by
    unfold endOf
    rw [Int.sub_emod, Int.emod_emod_of_dvd _ (Int.dvd_refl _), ← Int.sub_emod]
  refine stepsBack_eq ⟨by omega, ?_, fun y h1 h2 => ?_⟩
  · have e : (endOf r p - r.by' + (0 - r.by') * (stepsBack r p + stepsOn r p)) % r.small = (p - r.by' + (0 - r.by') * stepsBack r p) % r.small := by
      have e1 : endOf r p - r.by' + (0 - r.by') * (stepsBack r p + stepsOn r p) = endOf r p - (r.by' + r.by' * (stepsBack r p + stepsOn r p)) := by grind
      rw [e1, mm]
      congr 1
      grind
    rw [e]
    exact hb.hit
  · by_cases c : y < stepsOn r p
    · have e : (endOf r p - r.by' + (0 - r.by') * y) % r.small = (p + r.by' * (stepsOn r p - y - 1)) % r.small := by
        have e1 : endOf r p - r.by' + (0 - r.by') * y = endOf r p - (r.by' + r.by' * y) := by grind
        rw [e1, mm]
        congr 1
        grind
      rw [e]
      exact ho.least _ (by omega) (by omega)
    · have e : (endOf r p - r.by' + (0 - r.by') * y) % r.small = (p - r.by' + (0 - r.by') * (y - stepsOn r p)) % r.small := by
        have e1 : endOf r p - r.by' + (0 - r.by') * y = endOf r p - (r.by' + r.by' * y) := by grind
        rw [e1, mm]
        congr 1
        grind
      rw [e]
      exact hb.least _ (by omega) (by omega)
end
/-- the place of a row, so many steps from its begin -/
noncomputable def placeAt (r : RowsD) (row j : Int) : Int := (row - r.by' * (stepsBack r row - j)) % r.small
section
variable {r : RowsD} (o : RowsOk r)
include o
theorem place_b (row j : Int) : 0 ≤ placeAt r row j ∧ placeAt r row j < r.small :=
  ⟨Int.emod_nonneg _ (by have := small_pos o; omega), Int.emod_lt_of_pos _ (small_pos o)⟩
theorem place_of {p : Int} (h0 : 0 ≤ p) (h1 : p < r.small) : placeAt r (endOf r p) (stepsBack r p) = p := by
  unfold placeAt
  rw [back_end o]
  have e : endOf r p - r.by' * (stepsBack r p + stepsOn r p - stepsBack r p) = endOf r p - r.by' * stepsOn r p := by
    congr 2
    omega
  rw [e]
  unfold endOf
  rw [Int.sub_emod, Int.emod_emod_of_dvd _ (Int.dvd_refl _), ← Int.sub_emod]
  have e2 : p + r.by' * stepsOn r p - r.by' * stepsOn r p = p := by omega
  rw [e2]
  exact Int.emod_eq_of_lt h0 h1
theorem place_lt {row j : Int} (h0 : 0 ≤ j) (h1 : j < stepsBack r row) : placeAt r row j < r.bound := by
  have h := (back_least o row).least (stepsBack r row - j - 1) (by omega) (by omega)
  have b := place_b o row j
  have e : (row - r.by' + (0 - r.by') * (stepsBack r row - j - 1)) % r.small = placeAt r row j := by
    unfold placeAt
    congr 1
    grind
  rw [e] at h
  omega
theorem place_last {row : Int} (h0 : 0 ≤ row) (h1 : row < r.small) : placeAt r row (stepsBack r row) = row := by
  unfold placeAt
  have e : row - r.by' * (stepsBack r row - stepsBack r row) = row := by
    rw [Int.sub_self, Int.mul_zero, Int.sub_zero]
  rw [e]
  exact Int.emod_eq_of_lt h0 h1
theorem place_next (row j : Int) : (placeAt r row j + r.by') % r.small = placeAt r row (j + 1) := by
  unfold placeAt
  rw [Int.add_emod, Int.emod_emod_of_dvd _ (Int.dvd_refl _), ← Int.add_emod]
  congr 1
  grind
theorem place_inj {row j k : Int} (h0 : 0 ≤ j) (h1 : j < k) (h2 : k ≤ stepsBack r row) (hr : r.bound ≤ row) (hs : row < r.small) : placeAt r row j ≠ placeAt r row k := by
  intro e
  have h := place_lt o (row := row) (j := stepsBack r row - (k - j)) (by omega) (by omega)
  have b0 := o.b0
  unfold placeAt at e h
  have d : r.small ∣ (row - r.by' * (stepsBack r row - j)) - (row - r.by' * (stepsBack r row - k)) := Int.dvd_of_emod_eq_zero ((Int.emod_eq_emod_iff_emod_sub_eq_zero).mp e)
  have e1 : (row - r.by' * (stepsBack r row - (stepsBack r row - (k - j)))) % r.small = row % r.small := by
    refine emod_of_dvd ?_
    have e2 : row - r.by' * (stepsBack r row - (stepsBack r row - (k - j))) - row = (row - r.by' * (stepsBack r row - j)) - (row - r.by' * (stepsBack r row - k)) := by grind
    rw [e2]
    exact d
  rw [e1, Int.emod_eq_of_lt (by omega) hs] at h
  omega
/-- a place ahead of the bound leads on -/
theorem back_lt {p : Int} (h0 : 0 ≤ p) (h1 : p < r.bound) : stepsBack r p < stepsBack r (endOf r p) := by
  have bs := o.bs
  have sp := o.sh_pos
  rw [back_end o]
  have ho := on_least o p
  have nn := ho.nn
  rcases Int.lt_or_le 0 (stepsOn r p) with c | c
  · omega
  · exfalso
    have e : stepsOn r p = 0 := by omega
    have h := ho.hit
    rw [e, Int.mul_zero, Int.add_zero, Int.emod_eq_of_lt h0 (by omega)] at h
    omega
theorem back_le (p : Int) : stepsBack r p ≤ stepsBack r (endOf r p) := by
  rw [back_end o]
  have := (on_least o p).nn
  omega
theorem end_mod (p : Int) : endOf r (p % r.small) = endOf r p ∧ stepsBack r (p % r.small) = stepsBack r p := by
  have m : ∀ x : Int, (p % r.small + x) % r.small = (p + x) % r.small := fun x => by
    rw [Int.add_emod, Int.emod_emod_of_dvd _ (Int.dvd_refl _), ← Int.add_emod]
  have e1 : stepsOn r (p % r.small) = stepsOn r p := by
    have h := on_least o p
    refine stepsOn_eq ⟨h.nn, ?_, fun y h1 h2 => ?_⟩
    · rw [m]
      exact h.hit
    · rw [m]
      exact h.least y h1 h2
  constructor
  · unfold endOf
    rw [e1, m]
  · have h := back_least o p
    have m' : ∀ x : Int, (p % r.small - r.by' + x) % r.small = (p - r.by' + x) % r.small := fun x => by
      have e1 : p % r.small - r.by' + x = p % r.small + (x - r.by') := by omega
      have e2 : p - r.by' + x = p + (x - r.by') := by omega
      rw [e1, m, e2]
    refine stepsBack_eq ⟨h.nn, ?_, fun y h1 h2 => ?_⟩
    · rw [m']
      exact h.hit
    · rw [m']
      exact h.least y h1 h2
end
end Bm
/-! Walks from cup to cup by beats; the way along a row. -/
namespace Bm
/-- a cup: of the lesser belt (false), of the greater one (true) -/
abbrev Cup := Bool × Int
theorem par2 (e : Int) : e % 2 = 0 ∨ e % 2 = 1 := by omega
structure RunD where
  row : Int
  at_ : Int
  last : Int
  beat : Option Int
deriving DecidableEq
def singleRun (t : Int) : RunD := ⟨0, 0, 1, some t⟩
def leafRuns : Option Int → List RunD
  | none => []
  | some c => [singleRun c]
def within (a b : SpotD) : List RunD := if a = b then [] else leafRuns a.leaf ++ (if a.at_ = b.at_ then [] else [⟨a.row, a.at_, b.at_, none⟩]) ++ leafRuns b.leaf
def longOf (x : RunD) : Int := ((x.last - x.at_).natAbs : Int)
noncomputable def edgeB (r : RowsD) (row e : Int) : Int := placeAt r row (e / 2) + r.great * (e % 2)
noncomputable def runE (r : RowsD) (x : RunD) : List Int := match x.beat with
  | some c => [c]
  | none => (List.range (longOf x).toNat).map fun (i : Nat) => edgeB r x.row (if x.at_ < x.last then x.at_ + (i : Int) else x.at_ - 1 - (i : Int))
noncomputable def chainE (r : RowsD) (rs : List RunD) : List Int := rs.flatMap (runE r)
def joins (r : RowsD) (t : Int) (u v : Cup) : Prop := (u = (false, t % r.small) ∧ v = (true, t % r.great)) ∨ (u = (true, t % r.great) ∧ v = (false, t % r.small))
theorem joins.symm {r : RowsD} {t : Int} {u v : Cup} (h : joins r t u v) : joins r t v u := by
  rcases h with ⟨a, b⟩ | ⟨a, b⟩
  · exact .inr ⟨b, a⟩
  · exact .inl ⟨b, a⟩
inductive Wk (r : RowsD) : Cup → Cup → List Int → Prop
  | nil (u : Cup) : Wk r u u []
  | cons {u v w : Cup} {t : Int} {es : List Int} (h : joins r t u v) (k : Wk r v w es) : Wk r u w (t :: es)
theorem Wk.append {r : RowsD} {u v w : Cup} {es fs : List Int} (h : Wk r u v es) (g : Wk r v w fs) : Wk r u w (es ++ fs) := by
  induction h with
  | nil => exact g
  | cons h _ ih => exact .cons h (ih g)
theorem Wk.one {r : RowsD} {u v : Cup} {t : Int} (h : joins r t u v) : Wk r u v [t] := .cons h (.nil _)
inductive SpotOf (r : RowsD) : SpotD → Cup → Prop
  | small {p : Int} (h0 : 0 ≤ p) (h1 : p < r.small) : SpotOf r ⟨endOf r p, 2 * stepsBack r p, none⟩ (false, p)
  | odd {c : Int} (h0 : 0 ≤ c) (h1 : c < r.bound) : SpotOf r ⟨endOf r c, 2 * stepsBack r c + 1, none⟩ (true, c)
  | leaf {c : Int} (h0 : 0 ≤ c) (h1 : r.bound ≤ c) (h2 : c < r.hung) : SpotOf r ⟨endOf r c, 2 * stepsBack r c, some c⟩ (true, c)
  | alone {c : Int} (h0 : 0 ≤ c) (h1 : r.hung ≤ c) : SpotOf r ⟨-1 - c, 0, none⟩ (true, c)
/-- a beat of the stretch, within a row -/
structure InSt (r : RowsD) (R t : Int) : Prop where
  told : (0 ≤ t ∧ t < r.hung) ∨ (r.great ≤ t ∧ t < r.great + r.bound)
  rs : rowS r t = R
  rg : rowG r t = R
noncomputable def posCup (r : RowsD) (R a : Int) : Cup := if a % 2 = 0 then (false, placeAt r R (a / 2)) else (true, placeAt r R (a / 2))
section
variable {r : RowsD} (o : RowsOk r)
include o
theorem spot_small (t : Int) : SpotOf r (smallSpot r t) (false, t % r.small) :=
  .small (Int.emod_nonneg _ (by have := small_pos o; omega)) (Int.emod_lt_of_pos _ (small_pos o))
theorem spot_great (t : Int) : SpotOf r (greatSpot r t) (true, t % r.great) := by
  have s0 := small_pos o
  have sg := o.sg
  have c0 := Int.emod_nonneg t (by omega : r.great ≠ 0)
  have em := end_mod o (t % r.great)
  unfold greatSpot
  split
  · rename_i h
    exact .alone c0 h
  · rename_i h
    split
    · rename_i h2
      show SpotOf r ⟨endOf r (t % r.great % r.small), 2 * stepsBack r (t % r.great % r.small) + 1, none⟩ _
      rw [em.1, em.2]
      exact .odd c0 h2
    · rename_i h2
      show SpotOf r ⟨endOf r (t % r.great % r.small), 2 * stepsBack r (t % r.great % r.small), some (t % r.great)⟩ _
      rw [em.1, em.2]
      exact .leaf c0 (by omega) (by omega)
theorem edge_joins (R e : Int) : joins r (edgeB r R e) (posCup r R e) (posCup r R (e + 1)) := by
  have s0 := small_pos o
  have sg := o.sg
  have pb := place_b o R (e / 2)
  unfold edgeB posCup
  rcases par2 e with h | h
  · have h1 : ¬ (e + 1) % 2 = 0 := by omega
    have h2 : (e + 1) / 2 = e / 2 := by omega
    rw [h, if_pos rfl, if_neg h1, h2, Int.mul_zero, Int.add_zero]
    refine .inl ⟨?_, ?_⟩
    · rw [Int.emod_eq_of_lt pb.1 pb.2]
    · rw [Int.emod_eq_of_lt pb.1 (by omega)]
  · have h0 : ¬ (1 : Int) = 0 := by decide
    have h1 : (e + 1) % 2 = 0 := by omega
    have h2 : (e + 1) / 2 = e / 2 + 1 := by omega
    rw [h, if_neg h0, if_pos h1, h2, Int.mul_one]
    refine .inr ⟨?_, ?_⟩
    · rw [Int.add_emod_right, Int.emod_eq_of_lt pb.1 (by omega)]
    · rw [← place_next o, o.by_, Int.add_emod_emod]
theorem seg_up (R a : Int) : ∀ n : Nat, Wk r (posCup r R a) (posCup r R (a + n)) ((List.range n).map fun (i : Nat) => edgeB r R (a + (i : Int)))
  | 0 => by
    have e : a + ((0 : Nat) : Int) = a := by omega
    rw [e]
    exact .nil _
  | n + 1 => by
    rw [List.range_succ, List.map_append]
    have e : a + ((n + 1 : Nat) : Int) = a + (n : Int) + 1 := by omega
    rw [e]
    exact (seg_up R a n).append (.one (edge_joins o R _))
theorem seg_down (R a : Int) : ∀ n : Nat, Wk r (posCup r R a) (posCup r R (a - n)) ((List.range n).map fun (i : Nat) => edgeB r R (a - 1 - (i : Int)))
  | 0 => by
    have e : a - ((0 : Nat) : Int) = a := by omega
    rw [e]
    exact .nil _
  | n + 1 => by
    rw [List.range_succ, List.map_append]
    have e : a - ((n + 1 : Nat) : Int) = a - 1 - (n : Int) := by omega
    have e2 : a - (n : Int) = (a - 1 - (n : Int)) + 1 := by omega
    have h := seg_down R a n
    rw [e]
    rw [e2] at h
    exact h.append (.one (edge_joins o R _).symm)
theorem run_walk (R a b : Int) : Wk r (posCup r R a) (posCup r R b) (runE r ⟨R, a, b, none⟩) := by
  unfold runE longOf
  dsimp only
  by_cases c : a < b
  · have h := seg_up o R a (b - a).natAbs
    have e : a + ((b - a).natAbs : Int) = b := by omega
    rw [e] at h
    have e2 : (((b - a).natAbs : Int)).toNat = (b - a).natAbs := by omega
    rw [e2]
    simpa only [if_pos c] using h
  · have h := seg_down o R a (b - a).natAbs
    have e : a - ((b - a).natAbs : Int) = b := by omega
    rw [e] at h
    have e2 : (((b - a).natAbs : Int)).toNat = (b - a).natAbs := by omega
    rw [e2]
    simpa only [if_neg c] using h
theorem end_place {R j : Int} (h0 : 0 ≤ j) (h1 : j ≤ stepsBack r R) (hr : r.bound ≤ R) (hs : R < r.small) : endOf r (placeAt r R j) = R := by
  have b0 := o.b0
  have m : ∀ y : Int, (placeAt r R j + r.by' * y) % r.small = placeAt r R (j + y) := fun y => by
    unfold placeAt
    rw [Int.add_emod, Int.emod_emod_of_dvd _ (Int.dvd_refl _), ← Int.add_emod]
    congr 1
    grind
  have e : stepsOn r (placeAt r R j) = stepsBack r R - j := by
    refine stepsOn_eq ⟨by omega, ?_, fun y g1 g2 => ?_⟩
    · rw [m]
      have e1 : j + (stepsBack r R - j) = stepsBack r R := by omega
      rw [e1, place_last o (by omega) hs]
      omega
    · rw [m]
      have := place_lt o (row := R) (j := j + y) (by omega) (by omega)
      omega
  unfold endOf
  rw [e, m]
  have e1 : j + (stepsBack r R - j) = stepsBack r R := by omega
  rw [e1, place_last o (by omega) hs]
theorem hung_of {p : Int} (h0 : 0 ≤ p) (h1 : p < r.bound) : r.hung = r.great := o.hb (by omega)
theorem edge_in {R e : Int} (hr : r.bound ≤ R) (hs : R < r.small) (h0 : 0 ≤ e) (h1 : e < 2 * stepsBack r R) : InSt r R (edgeB r R e) := by
  have pl := place_lt o (row := R) (j := e / 2) (by omega) (by omega)
  have pb := place_b o R (e / 2)
  have hg := hung_of o pb.1 pl
  have sg := o.sg
  have s0 := small_pos o
  have ep := end_place o (R := R) (j := e / 2) (by omega) (by omega) hr hs
  have em := end_mod o
  have rG : ∀ t : Int, t % r.great = placeAt r R (e / 2) → rowG r t = R := fun t ht => by
    rw [rowG_hung o hg, ht, (em _).1]
    exact ep
  unfold edgeB
  rcases par2 e with h | h
  · rw [h, Int.mul_zero, Int.add_zero]
    refine ⟨.inl ⟨pb.1, by omega⟩, ?_, rG _ (Int.emod_eq_of_lt pb.1 (by omega))⟩
    show endOf r (placeAt r R (e / 2) % r.small) = R
    rw [(em _).1]
    exact ep
  · rw [h, Int.mul_one]
    refine ⟨.inr ⟨by omega, by omega⟩, ?_, rG _ (by rw [Int.add_emod_right]; exact Int.emod_eq_of_lt pb.1 (by omega))⟩
    show endOf r ((placeAt r R (e / 2) + r.great) % r.small) = R
    have e1 : (placeAt r R (e / 2) + r.great) % r.small = placeAt r R (e / 2 + 1) := by rw [← place_next o, o.by_, Int.add_emod_emod]
    rw [e1]
    exact end_place o (by omega) (by omega) hr hs
theorem edge_inj {R e f : Int} (hr : r.bound ≤ R) (hs : R < r.small) (h0 : 0 ≤ e) (h1 : e < f) (h2 : f < 2 * stepsBack r R) : edgeB r R e ≠ edgeB r R f := by
  have sg := o.sg
  have pe := place_b o R (e / 2)
  have pf := place_b o R (f / 2)
  unfold edgeB
  rcases par2 e with h | h <;> rcases par2 f with h' | h'
  · rw [h, h', Int.mul_zero, Int.add_zero, Int.add_zero]
    exact place_inj o (by omega) (by omega) (by omega) hr hs
  · rw [h, h', Int.mul_zero, Int.add_zero, Int.mul_one]
    omega
  · rw [h, h', Int.mul_zero, Int.add_zero, Int.mul_one]
    omega
  · rw [h, h', Int.mul_one]
    have := place_inj o (row := R) (j := e / 2) (k := f / 2) (by omega) (by omega) (by omega) hr hs
    omega
theorem leaf_in {c : Int} (h0 : 0 ≤ c) (h2 : c < r.hung) : InSt r (endOf r c) c := by
  have hg := o.hg
  have em := end_mod o
  refine ⟨.inl ⟨h0, h2⟩, (em c).1, ?_⟩
  show (greatSpot r c).row = _
  have e : c % r.great = c := Int.emod_eq_of_lt h0 (by omega)
  unfold greatSpot
  rw [e, if_neg (by omega)]
  split
  · exact (em c).1
  · exact (em c).1
theorem leaf_ne {R c e : Int} (h1 : r.bound ≤ c) (h2 : c < r.hung) (g0 : 0 ≤ e) (g1 : e < 2 * stepsBack r R) : c ≠ edgeB r R e := by
  have pl := place_lt o (row := R) (j := e / 2) (by omega) (by omega)
  have pb := place_b o R (e / 2)
  have hg := o.hg
  unfold edgeB
  rcases par2 e with h | h
  · rw [h, Int.mul_zero, Int.add_zero]
    omega
  · rw [h, Int.mul_one]
    omega
/-- a spot of a row that isn't alone -/
structure OnRow (r : RowsD) (s : SpotD) (u : Cup) : Prop where
  lo : r.bound ≤ s.row
  hi : s.row < r.small
  a0 : 0 ≤ s.at_
  a1 : s.at_ ≤ 2 * stepsBack r s.row
  cup : s.leaf = none → u = posCup r s.row s.at_
  lf : ∀ c, s.leaf = some c → joins r c u (posCup r s.row s.at_) ∧ 0 ≤ c ∧ r.bound ≤ c ∧ c < r.hung ∧ endOf r c = s.row
omit o in
theorem pos_even (R j : Int) : posCup r R (2 * j) = (false, placeAt r R j) := by
  unfold posCup
  have h1 : (2 * j) % 2 = 0 := by omega
  have h2 : (2 * j) / 2 = j := by omega
  rw [if_pos h1, h2]
omit o in
theorem pos_odd (R j : Int) : posCup r R (2 * j + 1) = (true, placeAt r R j) := by
  unfold posCup
  have h1 : ¬ (2 * j + 1) % 2 = 0 := by omega
  have h2 : (2 * j + 1) / 2 = j := by omega
  rw [if_neg h1, h2]
theorem SpotOf.on {s : SpotD} {u : Cup} (h : SpotOf r s u) (hr : 0 ≤ s.row) : OnRow r s u := by
  have bs := o.bs
  have sp := o.sh_pos
  cases h with
  | small h0 h1 =>
    rename_i p
    have eb := end_bounds o p
    have le := back_le o p
    have nn := (back_least o p).nn
    refine ⟨eb.1, eb.2, ?_, ?_, fun _ => ?_, fun c hc => (by cases hc)⟩
    · show 0 ≤ 2 * stepsBack r p
      omega
    · show 2 * stepsBack r p ≤ 2 * stepsBack r (endOf r p)
      omega
    · show _ = posCup r (endOf r p) (2 * stepsBack r p)
      rw [pos_even, place_of o h0 h1]
  | odd h0 h1 =>
    rename_i p
    have eb := end_bounds o p
    have le := back_lt o h0 h1
    have nn := (back_least o p).nn
    refine ⟨eb.1, eb.2, ?_, ?_, fun _ => ?_, fun c hc => (by cases hc)⟩
    · show 0 ≤ 2 * stepsBack r p + 1
      omega
    · show 2 * stepsBack r p + 1 ≤ 2 * stepsBack r (endOf r p)
      omega
    · show _ = posCup r (endOf r p) (2 * stepsBack r p + 1)
      rw [pos_odd, place_of o h0 (by omega)]
  | leaf h0 h1 h2 =>
    rename_i p
    have eb := end_bounds o p
    have le := back_le o p
    have nn := (back_least o p).nn
    have hg := o.hg
    refine ⟨eb.1, eb.2, ?_, ?_, fun z => (by cases z), fun c hc => ?_⟩
    · show 0 ≤ 2 * stepsBack r p
      omega
    · show 2 * stepsBack r p ≤ 2 * stepsBack r (endOf r p)
      omega
    · have hc := Option.some.inj hc
      subst hc
      refine ⟨.inr ⟨?_, ?_⟩, h0, h1, h2, rfl⟩
      · rw [Int.emod_eq_of_lt h0 (by omega)]
      · show posCup r (endOf r p) (2 * stepsBack r p) = _
        have em := end_mod o p
        rw [pos_even, ← em.1, ← em.2, place_of o (Int.emod_nonneg _ (by have := small_pos o; omega)) (Int.emod_lt_of_pos _ (small_pos o))]
  | alone h0 h1 =>
    rename_i c
    have : (0 : Int) ≤ -1 - c := hr
    omega
theorem run_edges {R a b : Int} (a0 : 0 ≤ a) (a1 : a ≤ 2 * stepsBack r R) (b0 : 0 ≤ b) (b1 : b ≤ 2 * stepsBack r R) (hr : r.bound ≤ R) (hs : R < r.small) :
    (∀ t ∈ runE r ⟨R, a, b, none⟩, ∃ e, 0 ≤ e ∧ e < 2 * stepsBack r R ∧ t = edgeB r R e) ∧ (runE r ⟨R, a, b, none⟩).Nodup := by
  unfold runE longOf
  dsimp only
  constructor
  · intro t ht
    obtain ⟨i, hi, rfl⟩ := List.mem_map.mp ht
    have hi := List.mem_range.mp hi
    refine ⟨_, ?_, ?_, rfl⟩
    · split <;> omega
    · split <;> omega
  · rw [List.nodup_iff_pairwise_ne, List.pairwise_map]
    refine (List.pairwise_lt_range (n := _)).imp_of_mem fun {i j} hi hj hij => ?_
    have hi := List.mem_range.mp hi
    have hj := List.mem_range.mp hj
    split
    · exact edge_inj o hr hs (by omega) (by omega) (by omega)
    · exact (edge_inj o hr hs (by omega) (by omega) (by omega)).symm
end
end Bm
/-! Chains: the runs from spot to spot over the links, no beat twice. -/
namespace Bm
theorem SpotOf.neg {r : RowsD} (o : RowsOk r) {s : SpotD} {u : Cup} (h : SpotOf r s u) (hr : s.row < 0) : s = ⟨s.row, 0, none⟩ ∧ u = (true, -1 - s.row) := by
  have b0 := o.b0
  cases h with
  | small h0 h1 =>
    rename_i p
    have e1 := (end_bounds o p).1
    have e2 : endOf r p < 0 := hr
    omega
  | odd h0 h1 =>
    rename_i p
    have e1 := (end_bounds o p).1
    have e2 : endOf r p < 0 := hr
    omega
  | leaf h0 h1 h2 =>
    rename_i p
    have e1 := (end_bounds o p).1
    have e2 : endOf r p < 0 := hr
    omega
  | alone h0 h1 =>
    rename_i c
    refine ⟨rfl, ?_⟩
    have : -1 - (-1 - c) = c := by omega
    show (true, c) = (true, -1 - (-1 - c))
    rw [this]
theorem SpotOf.leaf_eq {r : RowsD} {s : SpotD} {u : Cup} {c : Int} (h : SpotOf r s u) (hl : s.leaf = some c) : s = ⟨endOf r c, 2 * stepsBack r c, some c⟩ := by
  cases h with
  | small h0 h1 => cases hl
  | odd h0 h1 => cases hl
  | leaf h0 h1 h2 =>
    cases hl
    rfl
  | alone h0 h1 => cases hl
theorem joins.left {r : RowsD} {t : Int} {u v w : Cup} (h : joins r t u w) (g : joins r t v w) : u = v := by
  rcases h with ⟨a, b⟩ | ⟨a, b⟩ <;> rcases g with ⟨c, d⟩ | ⟨c, d⟩
  · rw [a, c]
  · rw [b] at d
    cases d
  · rw [b] at d
    cases d
  · rw [a, c]
section
variable {r : RowsD} (o : RowsOk r)
include o
theorem SpotOf.inj {s : SpotD} {u v : Cup} (h : SpotOf r s u) (g : SpotOf r s v) : u = v := by
  by_cases c : s.row < 0
  · rw [(h.neg o c).2, (g.neg o c).2]
  · have a := SpotOf.on o h (by omega)
    have b := SpotOf.on o g (by omega)
    cases e : s.leaf with
    | none => rw [a.cup e, b.cup e]
    | some c => exact (a.lf c e).1.left (b.lf c e).1
theorem leaf_walk {s : SpotD} {u : Cup} (A : OnRow r s u) : Wk r u (posCup r s.row s.at_) (chainE r (leafRuns s.leaf)) := by
  cases e : s.leaf with
  | none =>
    rw [A.cup e]
    exact .nil _
  | some c => exact .one (A.lf c e).1
theorem leaf_all {s : SpotD} {u : Cup} (A : OnRow r s u) : ∀ t ∈ chainE r (leafRuns s.leaf), s.leaf = some t ∧ InSt r s.row t ∧ r.bound ≤ t ∧ t < r.hung := by
  intro t ht
  cases e : s.leaf with
  | none =>
    rw [e] at ht
    cases ht
  | some c =>
    rw [e] at ht
    have : t = c := List.mem_singleton.mp ht
    subst this
    obtain ⟨h1, h2, h3, h4, h5⟩ := A.lf t e
    refine ⟨rfl, ?_, h3, h4⟩
    rw [← h5]
    exact leaf_in o h2 h4
theorem leaf_nd (l : Option Int) : (chainE r (leafRuns l)).Nodup := by
  cases l with
  | none => exact List.nodup_nil
  | some c => exact List.nodup_cons.mpr ⟨fun z => (by cases z), List.nodup_nil⟩
theorem Wk.rev {u v : Cup} {es : List Int} (h : Wk r u v es) : Wk r v u es.reverse := by
  induction h with
  | nil => exact .nil _
  | cons h _ ih =>
    rw [List.reverse_cons]
    exact ih.append (.one h.symm)
theorem within_ok {s s' : SpotD} {u v : Cup} (hs : SpotOf r s u) (hs' : SpotOf r s' v) (hr : s.row = s'.row) :
    Wk r u v (chainE r (within s s')) ∧ (∀ t ∈ chainE r (within s s'), InSt r s.row t) ∧ (chainE r (within s s')).Nodup := by
  by_cases c : s = s'
  · subst c
    have e : within s s = [] := if_pos rfl
    rw [e, hs.inj o hs']
    exact ⟨.nil _, fun t ht => (by cases ht), List.nodup_nil⟩
  have rn : 0 ≤ s.row := by
    rcases Int.lt_or_le s.row 0 with h | h
    · exfalso
      apply c
      rw [(hs.neg o h).1, (hs'.neg o (by omega)).1, hr]
    · exact h
  have A := SpotOf.on o hs rn
  have B := SpotOf.on o hs' (by omega)
  have e : chainE r (within s s') = chainE r (leafRuns s.leaf) ++ chainE r (if s.at_ = s'.at_ then [] else [⟨s.row, s.at_, s'.at_, none⟩]) ++ chainE r (leafRuns s'.leaf) := by
    unfold within chainE
    rw [if_neg c, List.flatMap_append, List.flatMap_append]
  have hB : Wk r (posCup r s.row s'.at_) v (chainE r (leafRuns s'.leaf)) := by
    rw [hr]
    have := (leaf_walk o B).rev o
    cases e : s'.leaf with
    | none => rw [e] at this; exact this
    | some c => rw [e] at this; exact this
  have a1 := B.a1
  rw [← hr] at a1
  have mid : Wk r (posCup r s.row s.at_) (posCup r s.row s'.at_) (chainE r (if s.at_ = s'.at_ then [] else [⟨s.row, s.at_, s'.at_, none⟩])) ∧
      (∀ t ∈ chainE r (if s.at_ = s'.at_ then [] else [⟨s.row, s.at_, s'.at_, none⟩]), ∃ e, 0 ≤ e ∧ e < 2 * stepsBack r s.row ∧ t = edgeB r s.row e) ∧ (chainE r (if s.at_ = s'.at_ then [] else [⟨s.row, s.at_, s'.at_, none⟩])).Nodup := by
    by_cases c2 : s.at_ = s'.at_
    · rw [if_pos c2, c2]
      exact ⟨.nil _, fun t ht => (by cases ht), List.nodup_nil⟩
    · rw [if_neg c2]
      have e2 : chainE r [⟨s.row, s.at_, s'.at_, none⟩] = runE r ⟨s.row, s.at_, s'.at_, none⟩ := by
        unfold chainE
        rw [List.flatMap_cons, List.flatMap_nil, List.append_nil]
      rw [e2]
      have z := run_edges o A.a0 A.a1 B.a0 a1 A.lo A.hi
      exact ⟨run_walk o _ _ _, z.1, z.2⟩
  obtain ⟨m1, m2, m3⟩ := mid
  rw [e]
  refine ⟨((leaf_walk o A).append m1).append hB, fun t ht => ?_, ?_⟩
  · rcases List.mem_append.mp ht with ht | ht
    · rcases List.mem_append.mp ht with ht | ht
      · exact (leaf_all o A t ht).2.1
      · obtain ⟨e, e0, e1, rfl⟩ := m2 t ht
        exact edge_in o A.lo A.hi e0 e1
    · rw [hr]
      exact (leaf_all o B t ht).2.1
  · rw [List.nodup_append, List.nodup_append]
    refine ⟨⟨leaf_nd o _, m3, fun a ha b hb => ?_⟩, leaf_nd o _, fun a ha b hb => ?_⟩
    · obtain ⟨e, e0, e1, rfl⟩ := m2 b hb
      have := leaf_all o A a ha
      exact leaf_ne o this.2.2.1 this.2.2.2 e0 e1
    · have hB := leaf_all o B b hb
      rcases List.mem_append.mp ha with ha | ha
      · have hA := leaf_all o A a ha
        intro z
        subst z
        exact c ((hs.leaf_eq hA.1).trans (hs'.leaf_eq hB.1).symm)
      · obtain ⟨e, e0, e1, rfl⟩ := m2 a ha
        exact (leaf_ne o hB.2.2.1 hB.2.2.2 e0 e1).symm
end
/-! ### over the links -/
def runsOf (here goal : SpotD) : List LinkD → List RunD
  | [] => within here goal
  | l :: ls => within here l.src ++ [singleRun l.beat] ++ runsOf l.dst goal ls
def Leads (row : Int) : List LinkD → Int → Prop
  | [], k => row = k
  | l :: ls, k => l.src.row = row ∧ Leads l.dst.row ls k
theorem leads_snoc {row k : Int} {l : LinkD} : ∀ {ls : List LinkD} {row : Int}, Leads row ls l.src.row → l.dst.row = k → Leads row (ls ++ [l]) k
  | [], row, h, g => ⟨h.symm, g⟩
  | x :: ls, row, h, g => ⟨h.1, leads_snoc (row := row) h.2 g⟩
theorem leads_src : ∀ {ls : List LinkD} {row k : Int}, Leads row ls k → ∀ l ∈ ls, l.src.row ∈ row :: ls.map (fun x => x.dst.row)
  | [], _, _, _, _, h => by cases h
  | x :: ls, row, k, h, l, hl => by
    rcases List.mem_cons.mp hl with e | hl
    · rw [e, h.1]
      exact List.mem_cons_self
    · exact List.mem_cons_of_mem _ (leads_src h.2 l hl)
theorem leads_ne : ∀ {ls : List LinkD} {row k : Int}, Leads row ls k → (row :: ls.map (fun x => x.dst.row)).Nodup → ∀ l ∈ ls, l.src.row ≠ l.dst.row
  | [], _, _, _, _, _, h => by cases h
  | x :: ls, row, k, h, hn, l, hl => by
    have h1 := List.nodup_cons.mp hn
    rcases List.mem_cons.mp hl with e | hl
    · rw [e, h.1]
      intro z
      exact h1.1 (by rw [z]; exact List.mem_cons_self)
    · exact leads_ne h.2 h1.2 l hl
theorem link_rows {r : RowsD} {ss : List Int} {l : LinkD} (h : IsLink r ss l) : (rowS r l.beat = l.src.row ∧ rowG r l.beat = l.dst.row) ∨ (rowG r l.beat = l.src.row ∧ rowS r l.beat = l.dst.row) := by
  obtain ⟨t, _, rfl | rfl⟩ := h
  · exact .inl ⟨rfl, rfl⟩
  · exact .inr ⟨rfl, rfl⟩
section
variable {r : RowsD} (o : RowsOk r)
include o
theorem link_spots {ss : List Int} {l : LinkD} (h : IsLink r ss l) : ∃ u v, SpotOf r l.src u ∧ SpotOf r l.dst v ∧ joins r l.beat u v := by
  obtain ⟨t, _, rfl | rfl⟩ := h
  · exact ⟨_, _, spot_small o t, spot_great o t, .inl ⟨rfl, rfl⟩⟩
  · exact ⟨_, _, spot_great o t, spot_small o t, .inr ⟨rfl, rfl⟩⟩
theorem runs_ok {ss : List Int} {goal : SpotD} {v : Cup} (hg : SpotOf r goal v) : ∀ (ls : List LinkD) {here : SpotD} {u : Cup}, SpotOf r here u → Leads here.row ls goal.row → (∀ l ∈ ls, IsLink r ss l) → (here.row :: ls.map (fun x => x.dst.row)).Nodup →
    Wk r u v (chainE r (runsOf here goal ls)) ∧ (∀ t ∈ chainE r (runsOf here goal ls), (∃ R ∈ here.row :: ls.map (fun x => x.dst.row), InSt r R t) ∨ ∃ l ∈ ls, t = l.beat) ∧ (chainE r (runsOf here goal ls)).Nodup
  | [], here, u, hs, hl, _, _ => by
    obtain ⟨h1, h2, h3⟩ := within_ok o hs hg hl
    exact ⟨h1, fun t ht => .inl ⟨_, List.mem_cons_self, h2 t ht⟩, h3⟩
  | l :: ls, here, u, hs, hl, hL, hn => by
    have hll := hL l List.mem_cons_self
    obtain ⟨u', w', p1, p2, p3⟩ := link_spots o hll
    have hn1 := List.nodup_cons.mp hn
    obtain ⟨a1, a2, a3⟩ := within_ok o hs p1 hl.1.symm
    obtain ⟨c1, c2, c3⟩ := runs_ok hg ls p2 hl.2 (fun x hx => hL x (List.mem_cons_of_mem _ hx)) hn1.2
    have e : chainE r (runsOf here goal (l :: ls)) = chainE r (within here l.src) ++ [l.beat] ++ chainE r (runsOf l.dst goal ls) := by
      show chainE r (within here l.src ++ [singleRun l.beat] ++ runsOf l.dst goal ls) = _
      unfold chainE
      rw [List.flatMap_append, List.flatMap_append]
      rfl
    have hne : l.src.row ≠ l.dst.row := leads_ne hl hn l List.mem_cons_self
    have lr := link_rows hll
    have nin : ∀ {R : Int} {t : Int}, InSt r R t → t ≠ l.beat := fun hi z => by
      subst z
      have e1 := hi.rs
      have e2 := hi.rg
      rcases lr with ⟨g1, g2⟩ | ⟨g1, g2⟩
      · exact hne (by rw [← g1, ← g2, e1, e2])
      · exact hne (by rw [← g1, ← g2, e1, e2])
    have nin2 : ∀ {R : Int} {t : Int}, InSt r R t → ∀ l' ∈ ls, t ≠ l'.beat := fun hi l' hl' z => by
      subst z
      have hne' := leads_ne hl hn l' (List.mem_cons_of_mem _ hl')
      have e1 := hi.rs
      have e2 := hi.rg
      rcases link_rows (hL l' (List.mem_cons_of_mem _ hl')) with ⟨g1, g2⟩ | ⟨g1, g2⟩
      · exact hne' (by rw [← g1, ← g2, e1, e2])
      · exact hne' (by rw [← g1, ← g2, e1, e2])
    rw [e]
    refine ⟨(a1.append (.one p3)).append c1, fun t ht => ?_, ?_⟩
    · rcases List.mem_append.mp ht with ht | ht
      · rcases List.mem_append.mp ht with ht | ht
        · exact .inl ⟨_, List.mem_cons_self, a2 t ht⟩
        · exact .inr ⟨l, List.mem_cons_self, List.mem_singleton.mp ht⟩
      · rcases c2 t ht with ⟨R, hR, hi⟩ | ⟨l', hl', he⟩
        · exact .inl ⟨R, List.mem_cons_of_mem _ hR, hi⟩
        · exact .inr ⟨l', List.mem_cons_of_mem _ hl', he⟩
    · rw [List.nodup_append, List.nodup_append]
      refine ⟨⟨a3, List.nodup_cons.mpr ⟨fun z => (by cases z), List.nodup_nil⟩, fun a ha b hb => ?_⟩, c3, fun a ha b hb => ?_⟩
      · rw [List.mem_singleton.mp hb]
        exact nin (a2 a ha)
      · rcases List.mem_append.mp ha with ha | ha
        · have hi := a2 a ha
          rcases c2 b hb with ⟨R, hR, hi'⟩ | ⟨l', hl', he⟩
          · intro z
            subst z
            have : here.row = R := by rw [← hi.rs, hi'.rs]
            exact hn1.1 (by rw [this]; exact hR)
          · rw [he]
            exact nin2 hi l' hl'
        · rw [List.mem_singleton.mp ha]
          rcases c2 b hb with ⟨R, hR, hi'⟩ | ⟨l', hl', he⟩
          · exact (nin hi').symm
          · intro z
            rw [he] at z
            have s' := leads_src hl.2 l' hl'
            have d' : l'.dst.row ∈ l.dst.row :: ls.map (fun x => x.dst.row) := List.mem_cons_of_mem _ (List.mem_map.mpr ⟨l', hl', rfl⟩)
            have key : here.row = l'.src.row ∨ here.row = l'.dst.row := by
              have h0 := hl.1
              rcases lr with ⟨g1, g2⟩ | ⟨g1, g2⟩ <;> rcases link_rows (hL l' (List.mem_cons_of_mem _ hl')) with ⟨k1, k2⟩ | ⟨k1, k2⟩
              · left; rw [← h0, ← g1, z, k1]
              · right; rw [← h0, ← g1, z, k2]
              · right; rw [← h0, ← g1, z, k2]
              · left; rw [← h0, ← g1, z, k1]
            rcases key with k | k
            · exact hn1.1 (by rw [k]; exact s')
            · exact hn1.1 (by rw [k]; exact d')
end
/-! ### the way back -/
theorem Back.mono {W W' : WayL} (m : ∀ x ∈ W, x ∈ W') {k : Int} {ls : List LinkD} (h : Back W k ls) : Back W' k ls := by
  induction h with
  | stop h => exact .stop (m _ h)
  | step h _ ih => exact .step (m _ h) ih
theorem ways_back {L : LinkD → Prop} {row : Int} {W : WayL} (h : Ways L row W) : ∀ k ∈ keys W, ∃ ls, Back W k ls ∧ Leads row ls k ∧ (∀ l ∈ ls, L l) ∧ (row :: ls.map (fun x => x.dst.row)).Nodup ∧ ∀ l ∈ ls, l.dst.row ∈ keys W := by
  induction h with
  | start =>
    intro k hk
    have e : k = row := by simpa [keys] using hk
    subst e
    exact ⟨[], .stop (List.mem_singleton.mpr rfl), rfl, fun l hl => (by cases hl), by simp, fun l hl => (by cases hl)⟩
  | add h hl hs hd ih =>
    rename_i W l
    intro k hk
    have mm : ∀ x ∈ W, x ∈ W ++ [(l.dst.row, some l)] := fun x hx => List.mem_append_left _ hx
    have mk : ∀ x ∈ keys W, x ∈ keys (W ++ [(l.dst.row, some l)]) := fun x hx => by
      rw [keys_snoc]
      exact List.mem_append_left _ hx
    rw [keys_snoc] at hk
    rcases List.mem_append.mp hk with hk | hk
    · obtain ⟨ls, h1, h2, h3, h4, h5⟩ := ih k hk
      exact ⟨ls, h1.mono mm, h2, h3, h4, fun x hx => mk _ (h5 x hx)⟩
    · have e := List.mem_singleton.mp hk
      subst e
      obtain ⟨ls, h1, h2, h3, h4, h5⟩ := ih _ hs
      refine ⟨ls ++ [l], .step (List.mem_append_right _ (List.mem_singleton.mpr rfl)) (h1.mono mm), leads_snoc (row := row) h2 rfl, fun x hx => ?_, ?_, fun x hx => ?_⟩
      · rcases List.mem_append.mp hx with hx | hx
        · exact h3 x hx
        · rw [List.mem_singleton.mp hx]
          exact hl
      · rw [List.map_append, ← List.cons_append, List.nodup_append]
        refine ⟨h4, by simp, fun a ha b hb => ?_⟩
        have eb : b = l.dst.row := by simpa using hb
        rw [eb]
        intro z
        subst z
        rcases List.mem_cons.mp ha with ha | ha
        · rw [ha] at hd
          exact hd h.row
        · obtain ⟨x, hx, ex⟩ := List.mem_map.mp ha
          rw [← ex] at hd
          exact hd (h5 x hx)
      · rcases List.mem_append.mp hx with hx | hx
        · exact mk _ (h5 x hx)
        · rw [List.mem_singleton.mp hx, keys_snoc]
          exact List.mem_append_right _ (List.mem_singleton.mpr rfl)
/-- where a row stands among those that were come to -/
def posW (W : WayL) (k : Int) : Nat := (keys W).idxOf k
theorem ways_pos {L : LinkD → Prop} {row : Int} {W : WayL} (h : Ways L row W) : ∀ k l, (k, some l) ∈ W → posW W l.src.row < posW W k ∧ l.dst.row = k ∧ l.src.row ∈ keys W ∧ L l := by
  induction h with
  | start =>
    intro k l hk
    have := List.mem_singleton.mp hk
    cases this
  | add h hl hs hd ih =>
    rename_i W l0
    intro k l hk
    have pa : ∀ x ∈ keys W, posW (W ++ [(l0.dst.row, some l0)]) x = posW W x := fun x hx => by
      unfold posW
      rw [keys_snoc, List.idxOf_append, if_pos hx]
    have mk : ∀ x ∈ keys W, x ∈ keys (W ++ [(l0.dst.row, some l0)]) := fun x hx => by
      rw [keys_snoc]
      exact List.mem_append_left _ hx
    rcases List.mem_append.mp hk with hk | hk
    · obtain ⟨h1, h2, h3, h4⟩ := ih k l hk
      have hkm : k ∈ keys W := List.mem_map.mpr ⟨_, hk, rfl⟩
      rw [pa _ h3, pa _ hkm]
      exact ⟨h1, h2, mk _ h3, h4⟩
    · have e := List.mem_singleton.mp hk
      have e1 : k = l0.dst.row := (Prod.mk.inj e).1
      have e2 : l = l0 := Option.some.inj (Prod.mk.inj e).2
      subst e1 e2
      refine ⟨?_, rfl, mk _ hs, hl⟩
      rw [pa _ hs]
      unfold posW
      rw [keys_snoc, List.idxOf_append, if_neg hd]
      have := List.idxOf_lt_length_of_mem hs
      omega
theorem Back.snoc_head {W : WayL} {k : Int} {ls : List LinkD} (h : Back W k ls) : True := trivial
/-- the runs of a chain -/
def IsRuns (r : RowsD) (ss : List Int) (t : Int) (rs : List RunD) : Prop := ∃ W ls, Ended (linksL r ss) (smallSpot r t).row W ∧ Ways (IsLink r ss) (smallSpot r t).row W ∧ Back W (greatSpot r t).row ls ∧ rs = runsOf (smallSpot r t) (greatSpot r t) ls
theorem IsRuns.unique {r : RowsD} {ss : List Int} {t : Int} {rs rs' : List RunD} (h : IsRuns r ss t rs) (h' : IsRuns r ss t rs') : rs = rs' := by
  obtain ⟨W, ls, e, w, b, rfl⟩ := h
  obtain ⟨W', ls', e', w', b', rfl⟩ := h'
  have := e.unique e'
  subst this
  rw [b.unique w.nodup b']
/-- the cups that are come by -/
theorem wk_cups {r : RowsD} {u v : Cup} {es : List Int} (h : Wk r u v es) : ∃ f : Nat → Cup, f 0 = u ∧ f es.length = v ∧ ∀ i (hi : i < es.length), joins r es[i] (f i) (f (i + 1)) := by
  induction h with
  | nil u => exact ⟨fun _ => u, rfl, rfl, fun i hi => (by cases hi)⟩
  | cons h k ih =>
    rename_i u v w t es
    obtain ⟨f, f0, f1, fj⟩ := ih
    refine ⟨fun i => match i with | 0 => u | i + 1 => f i, rfl, f1, fun i hi => ?_⟩
    cases i with
    | zero =>
      show joins r t u (f 0)
      rw [f0]
      exact h
    | succ i => exact fj i (by simpa using hi)
structure ChainOk (r : RowsD) (ss : List Int) (t : Int) (C : List Int) : Prop where
  odd : C.length % 2 = 1
  first : ∀ h : 0 < C.length, C[0] % r.small = t % r.small
  last : ∀ h : C.length - 1 < C.length, C[C.length - 1] % r.great = t % r.great
  great : ∀ i (h : i + 1 < C.length), i % 2 = 0 → C[i] % r.great = C[i + 1] % r.great
  small : ∀ i (h : i + 1 < C.length), i % 2 = 1 → C[i] % r.small = C[i + 1] % r.small
  nd : C.Nodup
  told : ∀ x ∈ C, ((0 ≤ x ∧ x < r.hung) ∨ (r.great ≤ x ∧ x < r.great + r.bound)) ∨ x ∈ ss
theorem joins.fst {r : RowsD} {t : Int} {u v : Cup} (h : joins r t u v) : v.1 = !u.1 ∧ (u.1 = false → u = (false, t % r.small) ∧ v = (true, t % r.great)) ∧ (u.1 = true → u = (true, t % r.great) ∧ v = (false, t % r.small)) := by
  rcases h with ⟨rfl, rfl⟩ | ⟨rfl, rfl⟩
  · exact ⟨rfl, fun _ => ⟨rfl, rfl⟩, fun z => (by cases z)⟩
  · exact ⟨rfl, fun z => (by cases z), fun _ => ⟨rfl, rfl⟩⟩
theorem chain_ok {r : RowsD} (o : RowsOk r) {ss : List Int} {t : Int} {rs : List RunD} (h : IsRuns r ss t rs) : ChainOk r ss t (chainE r rs) := by
  obtain ⟨W, ls, en, wy, bk, rfl⟩ := h
  have hk : (greatSpot r t).row ∈ keys W := by
    cases bk with
    | stop h => exact List.mem_map.mpr ⟨_, h, rfl⟩
    | step h _ => exact List.mem_map.mpr ⟨_, h, rfl⟩
  obtain ⟨ls', b', l1, l2, l3, _⟩ := ways_back wy _ hk
  have e := bk.unique wy.nodup b'
  subst e
  obtain ⟨w1, w2, w3⟩ := runs_ok o (spot_great o t) ls (spot_small o t) l1 l2 l3
  generalize chainE r (runsOf (smallSpot r t) (greatSpot r t) ls) = C at w1 w2 w3 ⊢
  obtain ⟨f, f0, f1, fj⟩ := wk_cups w1
  have par : ∀ i, i ≤ C.length → (f i).1 = decide (i % 2 = 1) := by
    intro i
    induction i with
    | zero => intro _; rw [f0]; rfl
    | succ i ih =>
      intro hi
      rw [(fj i (by omega)).fst.1, ih (by omega)]
      rcases Nat.mod_two_eq_zero_or_one i with c | c
      · have : (i + 1) % 2 = 1 := by omega
        simp [c, this]
      · have : (i + 1) % 2 = 0 := by omega
        simp [c, this]
  have odd : C.length % 2 = 1 := by
    have := par C.length (Nat.le_refl _)
    rw [f1] at this
    have : decide (C.length % 2 = 1) = true := this.symm
    exact of_decide_eq_true this
  refine ⟨odd, fun h => ?_, fun h => ?_, fun i h hi => ?_, fun i h hi => ?_, w3, fun x hx => ?_⟩
  · have := (fj 0 h).fst.2.1 (by rw [f0])
    rw [f0] at this
    exact (Prod.mk.inj this.1).2.symm
  · have hp : (f (C.length - 1)).1 = false := by
      rw [par _ (by omega)]
      have : ¬ (C.length - 1) % 2 = 1 := by omega
      simp [this]
    have := ((fj (C.length - 1) h).fst.2.1 hp).2
    have e : C.length - 1 + 1 = C.length := by omega
    rw [e, f1] at this
    exact (Prod.mk.inj this).2.symm
  · have h1 := ((fj i (by omega)).fst.2.1 (by rw [par _ (by omega)]; simp [hi])).2
    have h2 := ((fj (i + 1) h).fst.2.2 (by rw [h1])).1
    rw [h1] at h2
    exact (Prod.mk.inj h2).2
  · have h1 := ((fj i (by omega)).fst.2.2 (by rw [par _ (by omega)]; simp [hi])).2
    have h2 := ((fj (i + 1) h).fst.2.1 (by rw [h1])).1
    rw [h1] at h2
    exact (Prod.mk.inj h2).2
  · rcases w2 x hx with ⟨R, _, hi⟩ | ⟨l, hl, rfl⟩
    · exact .inl hi.told
    · obtain ⟨t', ht', e | e⟩ := l2 l hl
      · exact .inr (by rw [e]; exact ht')
      · exact .inr (by rw [e]; exact ht')
end Bm
/-! Runs by their numbers. -/
namespace Bm
structure RunOk (x : RunD) : Prop where
  one : ∀ c, x.beat = some c → longOf x = 1
  pos : x.beat = none → (0 ≤ x.at_ ∧ x.at_ ≤ 2 * 10 ^ 30 + 1) ∧ (0 ≤ x.last ∧ x.last ≤ 2 * 10 ^ 30 + 1)
noncomputable def beatOf (r : RowsD) (x : RunD) (n : Int) : Int := match x.beat with
  | some c => c
  | none => edgeB r x.row (if x.at_ < x.last then x.at_ + n else x.at_ - 1 - n)
def total (rs : List RunD) : Int := (rs.map longOf).sum
theorem runE_len (r : RowsD) {x : RunD} (h : RunOk x) : ((runE r x).length : Int) = longOf x := by
  unfold runE
  split
  · rename_i c hc
    rw [h.one c hc]
    rfl
  · have : 0 ≤ longOf x := by unfold longOf; omega
    rw [List.length_map, List.length_range]
    omega
theorem runE_at (r : RowsD) {x : RunD} (h : RunOk x) {n : Nat} (hn : (n : Int) < longOf x) : (runE r x)[n]? = some (beatOf r x n) := by
  cases hc : x.beat with
  | some c =>
    have := h.one c hc
    have e : n = 0 := by omega
    subst e
    simp only [runE, beatOf, hc]
    rfl
  | none =>
    simp only [runE, beatOf, hc]
    rw [List.getElem?_map, List.getElem?_range (by omega)]
    rfl
theorem chain_len (r : RowsD) : ∀ {rs : List RunD}, (∀ x ∈ rs, RunOk x) → ((chainE r rs).length : Int) = total rs
  | [], _ => rfl
  | x :: rs, h => by
    have e : chainE r (x :: rs) = runE r x ++ chainE r rs := rfl
    have e2 : total (x :: rs) = longOf x + total rs := rfl
    rw [e, e2, List.length_append, ← runE_len r (h x List.mem_cons_self), ← chain_len r (fun y hy => h y (List.mem_cons_of_mem _ hy))]
    omega
theorem chain_cons (r : RowsD) (x : RunD) (rs : List RunD) : chainE r (x :: rs) = runE r x ++ chainE r rs := rfl
theorem spot_pos {r : RowsD} (o : RowsOk r) {s : SpotD} {u : Cup} (h : SpotOf r s u) : 0 ≤ s.at_ ∧ s.at_ ≤ 2 * 10 ^ 30 + 1 := by
  have sg := o.sg
  have gB := o.gB
  have sb : ∀ p, 0 ≤ stepsBack r p ∧ stepsBack r p < 10 ^ 30 := fun p => by
    have := o.steps_back_b p
    omega
  cases h with
  | small h0 h1 =>
    rename_i p
    have := sb p
    show 0 ≤ 2 * stepsBack r p ∧ 2 * stepsBack r p ≤ 2 * 10 ^ 30 + 1
    omega
  | odd h0 h1 =>
    rename_i p
    have := sb p
    show 0 ≤ 2 * stepsBack r p + 1 ∧ 2 * stepsBack r p + 1 ≤ 2 * 10 ^ 30 + 1
    omega
  | leaf h0 h1 h2 =>
    rename_i p
    have := sb p
    show 0 ≤ 2 * stepsBack r p ∧ 2 * stepsBack r p ≤ 2 * 10 ^ 30 + 1
    omega
  | alone h0 h1 => exact ⟨Int.le_refl _, by show (0 : Int) ≤ 2 * 10 ^ 30 + 1; decide⟩
theorem single_ok (c : Int) : RunOk (singleRun c) := ⟨fun _ _ => rfl, fun z => (by cases z)⟩
theorem leafRuns_ok (l : Option Int) : ∀ x ∈ leafRuns l, RunOk x := by
  intro x hx
  cases l with
  | none => cases hx
  | some c =>
    rw [List.mem_singleton.mp hx]
    exact single_ok c
theorem within_runs {r : RowsD} (o : RowsOk r) {s t : SpotD} {u v : Cup} (hs : SpotOf r s u) (ht : SpotOf r t v) : (∀ x ∈ within s t, RunOk x) ∧ (within s t).length ≤ 3 := by
  unfold within
  split
  · exact ⟨fun x hx => (by cases hx), Nat.zero_le _⟩
  · constructor
    · intro x hx
      rcases List.mem_append.mp hx with hx | hx
      · rcases List.mem_append.mp hx with hx | hx
        · exact leafRuns_ok _ x hx
        · split at hx
          · cases hx
          · rw [List.mem_singleton.mp hx]
            exact ⟨fun c z => (by cases z), fun _ => ⟨spot_pos o hs, spot_pos o ht⟩⟩
      · exact leafRuns_ok _ x hx
    · rw [List.length_append, List.length_append]
      have h1 : (leafRuns s.leaf).length ≤ 1 := by cases s.leaf <;> simp [leafRuns]
      have h2 : (leafRuns t.leaf).length ≤ 1 := by cases t.leaf <;> simp [leafRuns]
      split
      · show _ + 0 + _ ≤ 3
        omega
      · show _ + 1 + _ ≤ 3
        omega
theorem runsOf_ok {r : RowsD} (o : RowsOk r) {ss : List Int} {goal : SpotD} {v : Cup} (hg : SpotOf r goal v) : ∀ (ls : List LinkD) {here : SpotD} {u : Cup}, SpotOf r here u → (∀ l ∈ ls, IsLink r ss l) → (∀ x ∈ runsOf here goal ls, RunOk x) ∧ (runsOf here goal ls).length ≤ 4 * ls.length + 3
  | [], here, u, hs, _ => within_runs o hs hg
  | l :: ls, here, u, hs, hL => by
    obtain ⟨u', w', p1, p2, p3⟩ := link_spots o (hL l List.mem_cons_self)
    obtain ⟨a1, a2⟩ := within_runs o hs p1
    obtain ⟨b1, b2⟩ := runsOf_ok o hg ls p2 (fun x hx => hL x (List.mem_cons_of_mem _ hx))
    constructor
    · intro x hx
      rcases List.mem_append.mp hx with hx | hx
      · rcases List.mem_append.mp hx with hx | hx
        · exact a1 x hx
        · rw [List.mem_singleton.mp hx]
          exact single_ok _
      · exact b1 x hx
    · show (within here l.src ++ [singleRun l.beat] ++ runsOf l.dst goal ls).length ≤ 4 * (l :: ls).length + 3
      simp only [List.length_append, List.length_cons, List.length_nil]
      omega
theorem back_links {L : LinkD → Prop} {row : Int} {W : WayL} (wy : Ways L row W) {k : Int} {ls : List LinkD} (h : Back W k ls) : (∀ l ∈ ls, L l) ∧ ls.length ≤ W.length := by
  have hk : k ∈ keys W := by
    cases h with
    | stop h => exact List.mem_map.mpr ⟨_, h, rfl⟩
    | step h _ => exact List.mem_map.mpr ⟨_, h, rfl⟩
  obtain ⟨ls', b', _, l2, l3, l4⟩ := ways_back wy _ hk
  have e := h.unique wy.nodup b'
  subst e
  refine ⟨l2, ?_⟩
  have h1 := (List.nodup_cons.mp l3).2
  have h2 := nodup_le h1 (m := keys W) (fun x hx => by
    obtain ⟨l, hl, rfl⟩ := List.mem_map.mp hx
    exact l4 l hl)
  simpa [keys] using h2
theorem isRuns_ok {r : RowsD} (o : RowsOk r) {ss : List Int} {t : Int} {rs : List RunD} (h : IsRuns r ss t rs) : ∀ x ∈ rs, RunOk x := by
  obtain ⟨W, ls, en, wy, bk, rfl⟩ := h
  exact (runsOf_ok o (spot_great o t) ls (spot_small o t) (back_links wy bk).1).1
end Bm
/-! A row of singles (stretch as long as the greater belt): one path, its links, its beats. -/
namespace Bm
/-- n singles ts, each from a place to a cup that hangs by the next place -/
structure PathOk (r : RowsD) (n : Nat) (pl cp ts : Nat → Int) : Prop where
  b0 : r.bound = 0
  hg : r.hung = r.great
  inj : ∀ i j, i ≤ n → j ≤ n → pl i = pl j → i = j
  pb : ∀ i, i ≤ n → 0 ≤ pl i ∧ pl i < r.small
  cb : ∀ i, i ≤ n → 0 ≤ cp i ∧ cp i < r.great ∧ cp i % r.small = pl i
  tp : ∀ k, k < n → ts k % r.small = pl k ∧ ts k % r.great = cp (k + 1)
section
variable {r : RowsD} (o : RowsOk r) (hb : r.bound = 0) (hg : r.hung = r.great)
include o hb
theorem end0 (p : Int) : endOf r p = p % r.small := by
  unfold endOf
  rw [stepsOn_0 o hb, Int.mul_zero, Int.add_zero]
theorem smallSpot0 (t : Int) : smallSpot r t = ⟨t % r.small, 0, none⟩ := by
  unfold smallSpot
  rw [end0 o hb, stepsBack_0 o hb, Int.emod_emod_of_dvd _ (Int.dvd_refl _)]
  rfl
include hg
theorem greatSpot0 (t : Int) : greatSpot r t = ⟨t % r.great % r.small, 0, some (t % r.great)⟩ := by
  have s0 := small_pos o
  have sg := o.sg
  have c0 := Int.emod_nonneg t (by omega : r.great ≠ 0)
  have c1 := Int.emod_lt_of_pos t (by omega : 0 < r.great)
  unfold greatSpot
  rw [if_neg (by omega), if_neg (by omega), smallSpot0 o hb]
end
noncomputable def lkP (r : RowsD) (ts : Nat → Int) (k : Nat) : LinkD := ⟨smallSpot r (ts k), ts k, greatSpot r (ts k)⟩
section
variable {r : RowsD} (o : RowsOk r) {n : Nat} {pl cp ts : Nat → Int} (p : PathOk r n pl cp ts)
include o p
theorem lk_src {k : Nat} (hk : k < n) : (smallSpot r (ts k)).row = pl k := by
  rw [smallSpot0 o p.b0]
  exact (p.tp k hk).1
theorem lk_dst {k : Nat} (hk : k < n) : (greatSpot r (ts k)).row = pl (k + 1) := by
  rw [greatSpot0 o p.b0 p.hg]
  show ts k % r.great % r.small = _
  rw [(p.tp k hk).2]
  exact (p.cb (k + 1) hk).2.2
theorem ts_inj {i j : Nat} (hi : i < n) (hj : j < n) (h : ts i = ts j) : i = j := by
  refine p.inj i j (by omega) (by omega) ?_
  rw [← (p.tp i hi).1, ← (p.tp j hj).1, h]
/-- the one path -/
theorem path_unique {ss : List Int} (hs : ∀ x ∈ ss, ∃ k, k < n ∧ x = ts k) : ∀ (ls : List LinkD) (i : Nat), i ≤ n → Leads (pl i) ls (pl n) → (∀ l ∈ ls, IsLink r ss l) → (pl i :: ls.map fun x => x.dst.row).Nodup →
    (∀ j, j < i → ∀ l ∈ ls, l.dst.row ≠ pl j) → ls = (List.range (n - i)).map fun k => lkP r ts (i + k)
  | [], i, hi, hl, _, _, _ => by
    have := p.inj i n hi (Nat.le_refl _) hl
    subst this
    rw [Nat.sub_self]
    rfl
  | l :: ls, i, hi, hl, hL, hn, ha => by
    obtain ⟨t, ht, e⟩ := hL l List.mem_cons_self
    obtain ⟨k, hk, rfl⟩ := hs t ht
    have hn1 := List.nodup_cons.mp hn
    rcases e with e | e
    · have e1 : pl k = pl i := by rw [← lk_src o p hk, ← hl.1, e]
      have e2 := p.inj k i (by omega) hi e1
      subst e2
      have e3 : l.dst.row = pl (k + 1) := by rw [e]; exact lk_dst o p hk
      have ih := path_unique hs ls (k + 1) hk (by rw [← e3]; exact hl.2) (fun x hx => hL x (List.mem_cons_of_mem _ hx)) (by rw [← e3]; exact hn1.2) (fun j hj x hx z => by
        rcases Nat.lt_or_ge j k with c | c
        · exact ha j c x (List.mem_cons_of_mem _ hx) z
        · have : j = k := by omega
          subst this
          apply hn1.1
          exact List.mem_cons_of_mem _ (List.mem_map.mpr ⟨x, hx, z⟩))
      have en : n - k = (n - (k + 1)) + 1 := by omega
      rw [ih, en, List.range_succ_eq_map, List.map_cons, List.map_map, e]
      congr 1
      refine List.map_congr_left fun m _ => ?_
      show lkP r ts (k + 1 + m) = lkP r ts (k + (m + 1))
      rw [Nat.add_assoc, Nat.add_comm 1 m]
    · exfalso
      have e1 : pl (k + 1) = pl i := by rw [← lk_dst o p hk, ← hl.1, e]
      have e2 := p.inj (k + 1) i (by omega) hi e1
      have e3 : l.dst.row = pl k := by rw [e]; exact lk_src o p hk
      exact ha k (by omega) l List.mem_cons_self e3
/-- without one single the places ahead of it do not hang with those behind it -/
theorem path_cut {ss : List Int} {m : Nat} (hm : m < n) (hs : ∀ x ∈ ss, ∃ k, k < n ∧ k ≠ m ∧ x = ts k) {i : Nat} (hi : i ≤ m) {x : Int} (h : Conn (IsLink r ss) (pl i) x) : ∃ j, j ≤ m ∧ x = pl j := by
  have key : ∀ a, Conn (IsLink r ss) a x → (∃ j, j ≤ m ∧ a = pl j) → ∃ j, j ≤ m ∧ x = pl j := by
    intro a h0
    clear h
    induction h0 with
    | refl => exact fun z => z
    | step h hl ih =>
      intro z
      obtain ⟨j, hj, ej⟩ := ih z
      obtain ⟨t, ht, e⟩ := hl
      obtain ⟨k, hk, hkm, rfl⟩ := hs t ht
      rcases e with e | e
      · subst e
        have e1 : pl k = pl j := by rw [← lk_src o p hk]; exact ej
        have := p.inj k j (by omega) (by omega) e1
        exact ⟨k + 1, by omega, lk_dst o p hk⟩
      · subst e
        have e1 : pl (k + 1) = pl j := by rw [← lk_dst o p hk]; exact ej
        have := p.inj (k + 1) j (by omega) (by omega) e1
        exact ⟨k, by omega, lk_src o p hk⟩
  exact key _ h ⟨i, hi, rfl⟩
end
end Bm
/-! A row of singles: its chain by numbers, its ties. -/
namespace Bm
theorem beat_mem (r : RowsD) (goal : SpotD) : ∀ (ls : List LinkD) (here : SpotD), ∀ l ∈ ls, l.beat ∈ chainE r (runsOf here goal ls)
  | [], _, _, h => by cases h
  | x :: ls, here, l, hl => by
    have e : chainE r (runsOf here goal (x :: ls)) = chainE r (within here x.src) ++ [x.beat] ++ chainE r (runsOf x.dst goal ls) := by
      show chainE r (within here x.src ++ [singleRun x.beat] ++ runsOf x.dst goal ls) = _
      unfold chainE
      rw [List.flatMap_append, List.flatMap_append]
      rfl
    rw [e]
    rcases List.mem_cons.mp hl with h | h
    · rw [h]
      exact List.mem_append_left _ (List.mem_append_right _ (List.mem_singleton.mpr rfl))
    · exact List.mem_append_right _ (beat_mem r goal ls x.dst l h)
theorem filter_count {C ss : List Int} (hC : C.Nodup) (hs : ss.Nodup) (h : ∀ s ∈ ss, s ∈ C) : (C.filter fun x => decide (x ∈ ss)).length = ss.length := by
  refine ((List.perm_ext_iff_of_nodup (hC.filter _) hs).mpr fun a => ?_).length_eq
  rw [List.mem_filter]
  constructor
  · rintro ⟨_, h2⟩
    exact of_decide_eq_true h2
  · intro h2
    exact ⟨h a h2, decide_eq_true h2⟩
theorem total_app (a b : List RunD) : total (a ++ b) = total a + total b := by
  unfold total
  rw [List.map_append, List.sum_append]
section
variable {r : RowsD} (o : RowsOk r) {n : Nat} {pl cp ts : Nat → Int} (p : PathOk r n pl cp ts)
include o p
theorem lk_dst_spot {k : Nat} (hk : k < n) : greatSpot r (ts k) = ⟨pl (k + 1), 0, some (cp (k + 1))⟩ := by
  rw [greatSpot0 o p.b0 p.hg, (p.tp k hk).2, (p.cb (k + 1) hk).2.2]
theorem lk_src_spot {k : Nat} (hk : k < n) : smallSpot r (ts k) = ⟨pl k, 0, none⟩ := by
  rw [smallSpot0 o p.b0, (p.tp k hk).1]
theorem path_total (far : Int) : ∀ (m k : Nat), k + m = n → total (runsOf ⟨pl k, 0, some (cp k)⟩ ⟨pl n, 0, some far⟩ ((List.range m).map fun i => lkP r ts (k + i))) = 2 * (m : Int) + (if far = cp n then 0 else 2)
  | 0, k, hk => by
    have : k = n := by omega
    subst this
    show total (within _ _) = _
    unfold within
    by_cases c : far = cp k
    · subst c
      rw [if_pos rfl, if_pos rfl]
      rfl
    · have : ¬ (⟨pl k, 0, some (cp k)⟩ : SpotD) = ⟨pl k, 0, some far⟩ := fun z => by
        injection z with _ _ z
        injection z with z
        exact c z.symm
      rw [if_neg this, if_pos rfl, if_neg c]
      rfl
  | m + 1, k, hk => by
    have ih := path_total far m (k + 1) (by omega)
    have e : ((List.range (m + 1)).map fun i => lkP r ts (k + i)) = lkP r ts k :: (List.range m).map fun i => lkP r ts (k + 1 + i) := by
      rw [List.range_succ_eq_map, List.map_cons, List.map_map]
      congr 1
      refine List.map_congr_left fun i _ => ?_
      show lkP r ts (k + (i + 1)) = lkP r ts (k + 1 + i)
      rw [Nat.add_assoc, Nat.add_comm 1 i]
    rw [e]
    show total (within _ (lkP r ts k).src ++ [singleRun (lkP r ts k).beat] ++ runsOf (lkP r ts k).dst _ _) = _
    have e1 : (lkP r ts k).src = ⟨pl k, 0, none⟩ := lk_src_spot o p (by omega)
    have e2 : (lkP r ts k).dst = ⟨pl (k + 1), 0, some (cp (k + 1))⟩ := lk_dst_spot o p (by omega)
    rw [e1, e2, total_app, total_app, ih]
    have e3 : total (within (⟨pl k, 0, some (cp k)⟩ : SpotD) ⟨pl k, 0, none⟩) = 1 := by
      unfold within
      have : ¬ (⟨pl k, 0, some (cp k)⟩ : SpotD) = ⟨pl k, 0, none⟩ := fun z => by
        injection z with _ _ z
        cases z
      rw [if_neg this, if_pos rfl]
      rfl
    have e4 : total [singleRun (lkP r ts k).beat] = 1 := rfl
    rw [e3, e4]
    omega
/-- the chain of a beat with the first place, and a cup that hangs by the last one -/
theorem path_runs {ss : List Int} (hn : 0 < n) (hs : ∀ x ∈ ss, ∃ k, k < n ∧ x = ts k) (ha : ∀ k, k < n → ts k ∈ ss) {t : Int} (h0 : t % r.small = pl 0) (h1 : t % r.great % r.small = pl n) {rs : List RunD} (hr : IsRuns r ss t rs) :
    total rs = 2 * (n : Int) + 1 - 2 * (if t % r.great = cp n then 1 else 0) ∧ ∀ s ∈ ss, s ∈ chainE r rs := by
  obtain ⟨W, ls, en, wy, bk, rfl⟩ := hr
  have hk : (greatSpot r t).row ∈ keys W := by
    cases bk with
    | stop h => exact List.mem_map.mpr ⟨_, h, rfl⟩
    | step h _ => exact List.mem_map.mpr ⟨_, h, rfl⟩
  obtain ⟨ls', b', l1, l2, l3, _⟩ := ways_back wy _ hk
  have e := bk.unique wy.nodup b'
  subst e
  have es : smallSpot r t = ⟨pl 0, 0, none⟩ := by rw [smallSpot0 o p.b0, h0]
  have eg : greatSpot r t = ⟨pl n, 0, some (t % r.great)⟩ := by rw [greatSpot0 o p.b0 p.hg, h1]
  rw [es] at l1 l3
  rw [eg] at l1
  have hp := path_unique o p hs ls 0 (Nat.zero_le _) l1 l2 l3 (fun j hj => by omega)
  have hp : ls = (List.range n).map fun k => lkP r ts k := by
    rw [hp]
    show (List.range n).map _ = _
    exact List.map_congr_left fun k _ => by rw [Nat.zero_add]
  constructor
  · rw [es, eg, hp]
    obtain ⟨m, rfl⟩ : ∃ m, n = m + 1 := ⟨n - 1, by omega⟩
    have e : ((List.range (m + 1)).map fun i => lkP r ts i) = lkP r ts 0 :: (List.range m).map fun i => lkP r ts (1 + i) := by
      rw [List.range_succ_eq_map, List.map_cons, List.map_map]
      congr 1
      refine List.map_congr_left fun i _ => ?_
      show lkP r ts (i + 1) = lkP r ts (1 + i)
      rw [Nat.add_comm 1 i]
    rw [e]
    show total (within _ (lkP r ts 0).src ++ [singleRun (lkP r ts 0).beat] ++ runsOf (lkP r ts 0).dst _ _) = _
    have e1 : (lkP r ts 0).src = ⟨pl 0, 0, none⟩ := lk_src_spot o p (by omega)
    have e2 : (lkP r ts 0).dst = ⟨pl 1, 0, some (cp 1)⟩ := lk_dst_spot o p (by omega)
    have e3 : total (within (⟨pl 0, 0, none⟩ : SpotD) ⟨pl 0, 0, none⟩) = 0 := by
      unfold within
      rw [if_pos rfl]
      rfl
    have e4 : total [singleRun (lkP r ts 0).beat] = 1 := rfl
    have ih := path_total o p (t % r.great) m 1 (by omega)
    rw [e1, e2, total_app, total_app, e3, e4, ih]
    split <;> omega
  · intro s hsm
    obtain ⟨k, hk, rfl⟩ := hs s hsm
    have : lkP r ts k ∈ ls := by
      rw [hp]
      exact List.mem_map.mpr ⟨k, List.mem_range.mpr hk, rfl⟩
    exact beat_mem r _ ls _ _ this
/-- every single of a row ties -/
theorem path_ties : ∀ ss : List Int, ss.Nodup → (∀ x ∈ ss, ∃ k, k < n ∧ x = ts k) → (tiesE r ss).length = ss.length := by
  refine snoc_ind (fun _ _ => rfl) fun l t ih hnd hs => ?_
  have hn2 := List.nodup_append.mp hnd
  have ihl := ih hn2.1 fun x hx => hs x (List.mem_append_left _ hx)
  rw [tiesE_snoc]
  obtain ⟨k, hk, ek⟩ := hs t (List.mem_append_right _ (List.mem_singleton.mpr rfl))
  have hne : ¬ headOf (tiesE r l) (rowS r t) = headOf (tiesE r l) (rowG r t) := by
    rw [ties_conn]
    intro z
    have e1 : rowS r t = pl k := by rw [ek]; exact lk_src o p hk
    have e2 : rowG r t = pl (k + 1) := by rw [ek]; exact lk_dst o p hk
    rw [e1, e2] at z
    obtain ⟨j, hj, ej⟩ := path_cut o p hk (fun x hx => by
      obtain ⟨m, hm, em⟩ := hs x (List.mem_append_left _ hx)
      refine ⟨m, hm, fun z => ?_, em⟩
      subst z
      exact hn2.2.2 x hx t (List.mem_singleton.mpr rfl) (by rw [em, ek])) (Nat.le_refl k) z
    have := p.inj (k + 1) j hk (by omega) ej
    omega
  unfold tieE
  rw [if_neg hne, List.length_append, List.length_append, ihl]
  rfl
end
end Bm
/-! The lot of a row of singles: its names are the places. -/
namespace Bm
theorem goodE_nodup {E : Eld} (g : GoodE E) : (eks E).Nodup := by
  induction g with
  | nil => exact List.nodup_nil
  | @snoc E f s h hf hs ne ih =>
    rw [eks_snoc, List.nodup_append]
    refine ⟨ih, List.nodup_cons.mpr ⟨fun z => (by cases z), List.nodup_nil⟩, fun a ha b hb => ?_⟩
    rw [List.mem_singleton.mp hb]
    intro z
    exact hf (z ▸ ha)
theorem map_nodup {α β : Type} {f : α → β} : ∀ {l : List α}, l.Nodup → (∀ x ∈ l, ∀ y ∈ l, f x = f y → x = y) → (l.map f).Nodup
  | [], _, _ => List.nodup_nil
  | a :: l, h, hi => by
    have h1 := List.nodup_cons.mp h
    rw [List.map_cons]
    refine List.nodup_cons.mpr ⟨fun z => ?_, map_nodup h1.2 fun x hx y hy => hi x (List.mem_cons_of_mem _ hx) y (List.mem_cons_of_mem _ hy)⟩
    obtain ⟨x, hx, e⟩ := List.mem_map.mp z
    have := hi x (List.mem_cons_of_mem _ hx) a List.mem_cons_self e
    exact h1.1 (this ▸ hx)
theorem perm_sum {l m : List Int} (h : l.Perm m) : l.sum = m.sum := by
  induction h with
  | nil => rfl
  | cons a _ ih => rw [List.sum_cons, List.sum_cons, ih]
  | swap a b l => rw [List.sum_cons, List.sum_cons, List.sum_cons, List.sum_cons]; omega
  | trans _ _ ih1 ih2 => rw [ih1, ih2]
section
variable {r : RowsD} (o : RowsOk r) {n : Nat} {pl cp ts : Nat → Int} (p : PathOk r n pl cp ts)
include o p
theorem path_closed {ss : List Int} (hs : ∀ x ∈ ss, ∃ k, k < n ∧ x = ts k) {x : Int} (h : Conn (IsLink r ss) (pl 0) x) : ∃ j, j ≤ n ∧ x = pl j := by
  have key : ∀ a, Conn (IsLink r ss) a x → (∃ j, j ≤ n ∧ a = pl j) → ∃ j, j ≤ n ∧ x = pl j := by
    intro a h0
    clear h
    induction h0 with
    | refl => exact fun z => z
    | step h hl ih =>
      intro _
      obtain ⟨t, ht, e⟩ := hl
      obtain ⟨k, hk, rfl⟩ := hs t ht
      rcases e with e | e
      · subst e
        exact ⟨k + 1, by omega, lk_dst o p hk⟩
      · subst e
        exact ⟨k, by omega, lk_src o p hk⟩
  exact key _ h ⟨0, Nat.zero_le _, rfl⟩
theorem path_all {ss : List Int} (ha : ∀ k, k < n → ts k ∈ ss) : ∀ j, j ≤ n → Conn (IsLink r ss) (pl 0) (pl j)
  | 0, _ => .refl _
  | j + 1, hj => by
    have ih := path_all ha j (by omega)
    have h1 : Conn (IsLink r ss) (pl j) (pl (j + 1)) := by
      have e := Conn.edge (r := r) (ha j hj)
      have e1 : rowS r (ts j) = pl j := lk_src o p hj
      have e2 : rowG r (ts j) = pl (j + 1) := lk_dst o p hj
      rw [e1, e2] at e
      exact e
    exact ih.trans h1
theorem path_lot {ss : List Int} (hs : ∀ x ∈ ss, ∃ k, k < n ∧ x = ts k) (ha : ∀ k, k < n → ts k ∈ ss) :
    (headOf (tiesE r ss) (pl 0) :: (eks (tiesE r ss)).filter fun m => decide (headOf (tiesE r ss) m = headOf (tiesE r ss) (pl 0))).Perm ((List.range (n + 1)).map pl) := by
  have g := tiesE_good r ss
  have hc := ties_conn r ss
  generalize tiesE r ss = T at g hc ⊢
  have idem : headOf T (headOf T (pl 0)) = headOf T (pl 0) := headOf_self g (headOf_not g _)
  refine (List.perm_ext_iff_of_nodup (List.nodup_cons.mpr ⟨fun z => ?_, (goodE_nodup g).filter _⟩) (map_nodup List.nodup_range fun x hx y hy e => ?_)).mpr fun a => ?_
  · exact headOf_not g _ (List.mem_filter.mp z).1
  · exact p.inj x y (by have := List.mem_range.mp hx; omega) (by have := List.mem_range.mp hy; omega) e
  · constructor
    · intro h
      have e : headOf T (pl 0) = headOf T a := by
        rcases List.mem_cons.mp h with h | h
        · rw [h, idem]
        · exact (of_decide_eq_true (List.mem_filter.mp h).2).symm
      obtain ⟨j, hj, e⟩ := path_closed o p hs ((hc _ _).mp e)
      exact List.mem_map.mpr ⟨j, List.mem_range.mpr (by omega), e.symm⟩
    · intro h
      obtain ⟨j, hj, rfl⟩ := List.mem_map.mp h
      have hj := List.mem_range.mp hj
      have e := (hc _ _).mpr (path_all o p ha j (by omega))
      by_cases c : pl j ∈ eks T
      · exact List.mem_cons_of_mem _ (List.mem_filter.mpr ⟨c, decide_eq_true e.symm⟩)
      · rw [headOf_self g c] at e
        rw [← e]
        exact List.mem_cons_self
end
/-- how many cups of the greater belt hang by a place -/
theorem hang_count {s g m : Int} (hs : 0 < s) (h0 : 0 ≤ m) (h1 : m < s) : 1 * (g / s) + (if (0 : Int) < 1 ∧ m < g % s then 1 else 0) = (g - 1 - m) / s + 1 := by
  have e := Int.emod_add_mul_ediv g s
  have r0 := Int.emod_nonneg g (by omega : s ≠ 0)
  have r1 := Int.emod_lt_of_pos g hs
  by_cases c : m < g % s
  · rw [if_pos ⟨by decide, c⟩]
    have : (g - 1 - m) / s = g / s := by
      have e2 : g - 1 - m = (g % s - 1 - m) + s * (g / s) := by omega
      rw [e2, Int.add_mul_ediv_left _ _ (by omega : s ≠ 0), Int.ediv_eq_zero_of_lt (by omega) (by omega), Int.zero_add]
    rw [this]
    omega
  · rw [if_neg fun z => c z.2]
    have : (g - 1 - m) / s = g / s - 1 := by
      have e2 : g - 1 - m = (g % s - 1 - m + s) + s * (g / s - 1) := by
        rw [Int.mul_sub, Int.mul_one]
        omega
      rw [e2, Int.add_mul_ediv_left _ _ (by omega : s ≠ 0), Int.ediv_eq_zero_of_lt (by omega) (by omega), Int.zero_add]
    rw [this]
    omega
end Bm
/-! How many elders there are hangs on what hangs together alone. -/
namespace Bm
theorem rank_le {E E' : Eld} (g : GoodE E) (g' : GoodE E') (h : ∀ x y, headOf E x = headOf E y ↔ headOf E' x = headOf E' y) : E.length ≤ E'.length := by
  have hm : ((eks E).map fun x => if x ∈ eks E' then x else headOf E x).Nodup := map_nodup (goodE_nodup g) fun x hx y hy e => by
    by_cases c : x ∈ eks E' <;> by_cases d : y ∈ eks E'
    · rw [if_pos c, if_pos d] at e
      exact e
    · rw [if_pos c, if_neg d] at e
      exact absurd (e ▸ hx) (headOf_not g y)
    · rw [if_neg c, if_pos d] at e
      exact absurd (e.symm ▸ hy) (headOf_not g x)
    · rw [if_neg c, if_neg d] at e
      have z := (h x y).mp e
      rw [headOf_self g' c, headOf_self g' d] at z
      exact z
  have hl := nodup_le hm (m := eks E') fun a ha => by
    obtain ⟨x, hx, rfl⟩ := List.mem_map.mp ha
    by_cases c : x ∈ eks E'
    · rw [if_pos c]
      exact c
    · rw [if_neg c]
      by_cases d : headOf E x ∈ eks E'
      · exact d
      · have z := (h (headOf E x) x).mp (headOf_self g (headOf_not g x))
        rw [headOf_self g' c, headOf_self g' d] at z
        exact absurd (z.symm ▸ hx) (headOf_not g x)
  simpa using hl
theorem rank_eq {E E' : Eld} (g : GoodE E) (g' : GoodE E') (h : ∀ x y, headOf E x = headOf E y ↔ headOf E' x = headOf E' y) : E.length = E'.length :=
  Nat.le_antisymm (rank_le g g' h) (rank_le g' g fun x y => (h x y).symm)
section
variable {r : RowsD}
/-- what one list's ties do, another's do -/
theorem conn_of {ss ss' : List Int} (h : ∀ t ∈ ss, Conn (IsLink r ss') (rowS r t) (rowG r t)) {a b : Int} (c : Conn (IsLink r ss) a b) : Conn (IsLink r ss') a b := by
  induction c with
  | refl => exact .refl _
  | step _ hl ih =>
    obtain ⟨t, ht, e⟩ := hl
    rcases e with e | e
    · rw [e] at ih ⊢
      exact ih.trans (h t ht)
    · rw [e] at ih ⊢
      exact ih.trans (h t ht).symm
theorem rank_congr {ss ss' : List Int} (h : ∀ t ∈ ss, Conn (IsLink r ss') (rowS r t) (rowG r t)) (h' : ∀ t ∈ ss', Conn (IsLink r ss) (rowS r t) (rowG r t)) : (tiesE r ss).length = (tiesE r ss').length :=
  rank_eq (tiesE_good r ss) (tiesE_good r ss') fun x y => by
    rw [ties_conn, ties_conn]
    exact ⟨conn_of h, conn_of h'⟩
theorem rank_mem {ss ss' : List Int} (h : ∀ t, t ∈ ss ↔ t ∈ ss') : (tiesE r ss).length = (tiesE r ss').length :=
  rank_congr (fun t ht => Conn.edge ((h t).mp ht)) fun t ht => Conn.edge ((h t).mpr ht)
theorem rank_in {ss : List Int} {t : Int} (h : Conn (IsLink r ss) (rowS r t) (rowG r t)) : tiesE r (ss ++ [t]) = tiesE r ss := by
  rw [tiesE_snoc]
  unfold tieE
  rw [if_pos ((ties_conn r ss _ _).mpr h)]
theorem rank_out {ss : List Int} {t : Int} (h : ¬ Conn (IsLink r ss) (rowS r t) (rowG r t)) : (tiesE r (ss ++ [t])).length = (tiesE r ss).length + 1 := by
  rw [tiesE_snoc]
  unfold tieE
  rw [if_neg (fun z => h ((ties_conn r ss _ _).mp z)), List.length_append]
  rfl
theorem rank_snoc_le (ss : List Int) (t : Int) : (tiesE r (ss ++ [t])).length ≤ (tiesE r ss).length + 1 := by
  by_cases c : Conn (IsLink r ss) (rowS r t) (rowG r t)
  · rw [rank_in c]
    omega
  · rw [rank_out c]
    exact Nat.le_refl _
theorem rank_app_le (ss : List Int) : ∀ l : List Int, (tiesE r (ss ++ l)).length ≤ (tiesE r ss).length + l.length :=
  snoc_ind (by simp) fun l t ih => by
    have h := rank_snoc_le (r := r) (ss ++ l) t
    rw [List.append_assoc] at h
    rw [List.length_append]
    show _ ≤ _ + (l.length + 1)
    omega
/-- beats that each tie: in any order each ties ahead of the later ones -/
theorem free_at {ss l : List Int} (h : (tiesE r (ss ++ l)).length = (tiesE r ss).length + l.length) {i : Nat} {t : Int} (hi : l[i]? = some t) : ¬ Conn (IsLink r (ss ++ l.take i)) (rowS r t) (rowG r t) := by
  intro c
  have il := (List.getElem?_eq_some_iff.mp hi).1
  have e : ss ++ l = (ss ++ l.take i ++ [t]) ++ l.drop (i + 1) := by
    have h1 : l = l.take i ++ ([t] ++ l.drop (i + 1)) := by
      have h2 : l.drop i = t :: l.drop (i + 1) := by
        rw [List.drop_eq_getElem_cons il]
        have : l[i] = t := (List.getElem?_eq_some_iff.mp hi).2
        rw [this]
      show l = l.take i ++ (t :: l.drop (i + 1))
      rw [← h2, List.take_append_drop]
    rw [List.append_assoc, List.append_assoc, ← h1]
  have h3 := rank_app_le (r := r) (ss ++ l.take i ++ [t]) (l.drop (i + 1))
  rw [← e, rank_in c] at h3
  have h4 := rank_app_le (r := r) ss (l.take i)
  rw [List.length_take] at h4
  rw [List.length_drop] at h3
  omega
theorem free_take {ss l : List Int} (h : (tiesE r (ss ++ l)).length = (tiesE r ss).length + l.length) (i : Nat) : (tiesE r (ss ++ l.take i)).length = (tiesE r ss).length + (l.take i).length := by
  have e : ss ++ l = (ss ++ l.take i) ++ l.drop i := by rw [List.append_assoc, List.take_append_drop]
  have h3 := rank_app_le (r := r) (ss ++ l.take i) (l.drop i)
  rw [← e] at h3
  have h4 := rank_app_le (r := r) ss (l.take i)
  rw [List.length_take] at h4 ⊢
  rw [List.length_drop] at h3
  omega
theorem free_perm {ss l l' : List Int} (p : l'.Perm l) (h : (tiesE r (ss ++ l)).length = (tiesE r ss).length + l.length) : (tiesE r (ss ++ l')).length = (tiesE r ss).length + l'.length := by
  rw [p.length_eq, ← h]
  exact rank_mem fun t => by rw [List.mem_append, List.mem_append, p.mem_iff]
/-- one left out -/
theorem free_less {ss l : List Int} {x : Int} (h : (tiesE r (ss ++ l ++ [x])).length = (tiesE r ss).length + l.length + 1) : (tiesE r (ss ++ l)).length = (tiesE r ss).length + l.length ∧ ¬ Conn (IsLink r (ss ++ l)) (rowS r x) (rowG r x) := by
  have h1 := rank_snoc_le (r := r) (ss ++ l) x
  have h2 := rank_app_le (r := r) ss l
  refine ⟨by omega, fun c => ?_⟩
  rw [rank_in c] at h
  omega
end
end Bm
/-! Where all beats of the full stretch tie: names hang together just where their residues are alike. -/
namespace Bm
noncomputable def gName (r : RowsD) (c : Int) : Int := if r.hung ≤ c then -1 - c else endOf r (c % r.small)
theorem rowG_g (r : RowsD) (t : Int) : rowG r t = gName r (t % r.great) := by
  show (greatSpot r t).row = _
  unfold greatSpot gName
  by_cases c : r.hung ≤ t % r.great
  · rw [if_pos c, if_pos c]
  · rw [if_neg c, if_neg c]
    split <;> rfl
/-- what stands as a name -/
def IsName (r : RowsD) (x : Int) : Prop := (r.bound ≤ x ∧ x < r.small) ∨ (r.hung ≤ -1 - x ∧ -1 - x < r.great)
/-- the residue of a name -/
def nres (r : RowsD) (x : Int) : Int := (if 0 ≤ x then x else -1 - x) % r.shared
/-- the last place of a residue -/
def repN (r : RowsD) (x : Int) : Int := r.small - r.shared + nres r x
def FullT (r : RowsD) (ss : List Int) : Prop := ∀ t, 0 ≤ t → t < r.small + r.great - r.shared → Conn (IsLink r ss) (rowS r t) (rowG r t)
section
variable {r : RowsD} (o : RowsOk r)
include o
theorem nres_b (x : Int) : 0 ≤ nres r x ∧ nres r x < r.shared := ⟨Int.emod_nonneg _ (by have := o.sh_pos; omega), Int.emod_lt_of_pos _ o.sh_pos⟩
theorem mod_sh_small (t : Int) : t % r.small % r.shared = t % r.shared := Int.emod_emod_of_dvd _ o.sh_small
theorem mod_sh_great (t : Int) : t % r.great % r.shared = t % r.shared := Int.emod_emod_of_dvd _ o.sh_great
theorem end_name (p : Int) : IsName r (endOf r p) := .inl (end_bounds o p)
theorem end_nres (p : Int) : nres r (endOf r p) = p % r.shared := by
  have h := end_bounds o p
  have b0 := o.b0
  unfold nres
  rw [if_pos (by omega)]
  exact emod_of_dvd (endOf_res o p)
theorem gName_name {c : Int} (h1 : c < r.great) : IsName r (gName r c) := by
  unfold gName
  split
  · exact .inr ⟨by omega, by omega⟩
  · exact end_name o _
theorem gName_nres {c : Int} (h0 : 0 ≤ c) : nres r (gName r c) = c % r.shared := by
  unfold gName
  split
  · unfold nres
    rw [if_neg (by omega)]
    congr 1
    omega
  · rw [end_nres o, mod_sh_small o]
theorem rowS_nres (t : Int) : nres r (rowS r t) = t % r.shared := by
  show nres r (endOf r (t % r.small)) = _
  rw [end_nres o, mod_sh_small o]
theorem rowG_nres (t : Int) : nres r (rowG r t) = t % r.shared := by
  rw [rowG_g, gName_nres o (Int.emod_nonneg _ (by have := o.s0; have := o.sg; omega)), mod_sh_great o]
theorem rowS_name (t : Int) : IsName r (rowS r t) := end_name o _
theorem rowG_name_ (t : Int) : IsName r (rowG r t) := by
  rw [rowG_g]
  exact gName_name o (Int.emod_lt_of_pos _ (by have := o.s0; have := o.sg; omega))
theorem conn_nres {ss : List Int} {a b : Int} (c : Conn (IsLink r ss) a b) : nres r a = nres r b := by
  induction c with
  | refl => rfl
  | step _ hl ih =>
    obtain ⟨t, ht, e⟩ := hl
    rcases e with e | e
    · rw [e] at ih ⊢
      rw [ih]
      show nres r (rowS r t) = nres r (rowG r t)
      rw [rowS_nres o, rowG_nres o]
    · rw [e] at ih ⊢
      rw [ih]
      show nres r (rowG r t) = nres r (rowS r t)
      rw [rowS_nres o, rowG_nres o]
theorem conn_name {ss : List Int} {a b : Int} (c : Conn (IsLink r ss) a b) : a = b ∨ (IsName r a ∧ IsName r b) := by
  induction c with
  | refl => exact .inl rfl
  | step _ hl ih =>
    obtain ⟨t, ht, e⟩ := hl
    rcases e with e | e
    · rw [e] at ih ⊢
      refine .inr ⟨?_, rowG_name_ o t⟩
      rcases ih with z | z
      · rw [z]
        exact rowS_name o t
      · exact z.1
    · rw [e] at ih ⊢
      refine .inr ⟨?_, rowS_name o t⟩
      rcases ih with z | z
      · rw [z]
        exact rowG_name_ o t
      · exact z.1
/-- an end is its own row's end -/
theorem end_self {x : Int} (h0 : r.bound ≤ x) (h1 : x < r.small) : endOf r x = x := by
  have b0 := o.b0
  have e : stepsOn r x = 0 := stepsOn_eq ⟨Int.le_refl _, by
    rw [Int.mul_zero, Int.add_zero, Int.emod_eq_of_lt (by omega) h1]
    exact ⟨h0, by omega⟩, fun y g1 g2 => by omega⟩
  unfold endOf
  rw [e, Int.mul_zero, Int.add_zero]
  exact Int.emod_eq_of_lt (by omega) h1
theorem rep_name (x : Int) : IsName r (repN r x) ∧ r.small - r.shared ≤ repN r x ∧ repN r x < r.small := by
  have h := nres_b o x
  have b := o.bs
  unfold repN
  exact ⟨.inl ⟨by omega, by omega⟩, by omega, by omega⟩
theorem rep_nres (x : Int) : nres r (repN r x) = nres r x := by
  have h := nres_b o x
  have hs := o.sh_small
  have sp := o.sh_pos
  have s0 := o.s0
  have sl : r.shared ≤ r.small := Int.le_of_dvd (by omega) hs
  have e : repN r x = nres r x + r.shared * (r.small / r.shared - 1) := by
    unfold repN
    have := Int.mul_ediv_cancel' hs
    rw [Int.mul_sub, this, Int.mul_one]
    omega
  have g : 0 ≤ repN r x := by
    unfold repN
    omega
  show (if 0 ≤ repN r x then repN r x else -1 - repN r x) % r.shared = nres r x
  rw [if_pos g, e, Int.add_mul_emod_self_left]
  exact Int.emod_eq_of_lt h.1 h.2
theorem rep_self {x : Int} (h0 : r.small - r.shared ≤ x) (h1 : x < r.small) : repN r x = x := by
  have hs := o.sh_small
  have sp := o.sh_pos
  have sl : r.shared ≤ r.small := Int.le_of_dvd (by have := o.s0; omega) hs
  have e : x = (x - (r.small - r.shared)) + r.shared * (r.small / r.shared - 1) := by
    have := Int.mul_ediv_cancel' hs
    rw [Int.mul_sub, this, Int.mul_one]
    omega
  have e2 : x % r.shared = x - (r.small - r.shared) := by
    rw [e, Int.add_mul_emod_self_left, ← e]
    exact Int.emod_eq_of_lt (by omega) (by omega)
  unfold repN nres
  rw [if_pos (by omega), e2]
  omega
section
variable {ss : List Int} (F : FullT r ss)
include F
theorem full_step {p : Int} (h0 : 0 ≤ p) (h1 : p < r.small - r.shared) : Conn (IsLink r ss) (endOf r p) (endOf r ((p + r.by') % r.small)) := by
  have sg := o.sg
  have sp := o.sh_pos
  have hs : r.shared ≤ r.great := Int.le_of_dvd (by have := o.s0; omega) o.sh_great
  have f1 := F p h0 (by omega)
  have f2 := F (r.great + p) (by omega) (by omega)
  have e1 : rowS r p = endOf r p := by
    show endOf r (p % r.small) = _
    rw [Int.emod_eq_of_lt h0 (by omega)]
  have e2 : rowG r p = gName r p := by rw [rowG_g, Int.emod_eq_of_lt h0 (by omega)]
  have e3 : rowG r (r.great + p) = gName r p := by
    rw [rowG_g, Int.add_comm, Int.add_emod_right, Int.emod_eq_of_lt h0 (by omega)]
  have e4 : rowS r (r.great + p) = endOf r ((p + r.by') % r.small) := by
    show endOf r ((r.great + p) % r.small) = _
    rw [o.by_, Int.add_emod_emod, Int.add_comm]
  rw [e1, e2] at f1
  rw [e3, e4] at f2
  exact f1.trans f2.symm
theorem full_place {p : Int} (h0 : 0 ≤ p) (h1 : p < r.small) : Conn (IsLink r ss) (endOf r p) (repN r p) := by
  have s0 := o.s0
  have sp := o.sh_pos
  have sl : r.shared ≤ r.small := Int.le_of_dvd (by omega) o.sh_small
  obtain ⟨x, x0, hx, hl⟩ := least_exists (a := p) (b := r.by') (m := r.small) (lo := r.small - r.shared) (hi := r.small - 1) (by omega) (by rw [o.gcd_by]; omega) (by omega) (by omega)
  have key : ∀ n : Nat, (n : Int) ≤ x → Conn (IsLink r ss) (endOf r p) (endOf r ((p + r.by' * (n : Int)) % r.small)) := by
    intro n
    induction n with
    | zero =>
      intro _
      have e : p + r.by' * ((0 : Nat) : Int) = p := by simp
      rw [e, Int.emod_eq_of_lt h0 h1]
      exact .refl _
    | succ n ih =>
      intro hn
      have ih := ih (by omega)
      have nb := hl (n : Int) (by omega) (by omega)
      have q0 := Int.emod_nonneg (p + r.by' * (n : Int)) (by omega : r.small ≠ 0)
      have q1 := Int.emod_lt_of_pos (p + r.by' * (n : Int)) (by omega : 0 < r.small)
      have st := full_step o F q0 (by omega)
      rw [Int.emod_add_emod] at st
      have e : p + r.by' * ((n + 1 : Nat) : Int) = p + r.by' * (n : Int) + r.by' := by
        have : ((n + 1 : Nat) : Int) = (n : Int) + 1 := by omega
        rw [this, Int.mul_add, Int.mul_one]
        omega
      rw [e]
      exact ih.trans st
  obtain ⟨n, rfl⟩ := Int.eq_ofNat_of_zero_le x0
  have h := key n (Int.le_refl _)
  have b := o.bs
  have es := end_self o (x := (p + r.by' * (n : Int)) % r.small) (by have := hx.1; omega) (by have := hx.2; omega)
  rw [es] at h
  have e1 : nres r ((p + r.by' * (n : Int)) % r.small) = nres r p := by
    unfold nres
    rw [if_pos (by have := hx.1; omega), if_pos h0, mod_sh_small o]
    refine emod_of_dvd ?_
    have : p + r.by' * (n : Int) - p = r.by' * (n : Int) := by omega
    rw [this]
    exact Int.dvd_trans o.sh_by (Int.dvd_mul_right _ _)
  have e2 := rep_self o (x := (p + r.by' * (n : Int)) % r.small) hx.1 (by have := hx.2; omega)
  unfold repN at e2 ⊢
  rw [e1] at e2
  rw [e2]
  exact h
theorem full_rep {x : Int} (hx : IsName r x) : Conn (IsLink r ss) x (repN r x) := by
  have b0 := o.b0
  have h0 := o.h0
  rcases hx with h | h
  · have := full_place o F (p := x) (by omega) h.2
    rw [end_self o h.1 h.2] at this
    exact this
  · have sg := o.sg
    have s0 := o.s0
    have hs : r.shared ≤ r.small := Int.le_of_dvd (by omega) o.sh_small
    have f := F (-1 - x) (by omega) (by omega)
    have e2 : rowG r (-1 - x) = x := by
      rw [rowG_g, Int.emod_eq_of_lt (by omega) h.2]
      unfold gName
      rw [if_pos h.1]
      omega
    rw [e2] at f
    have q0 := Int.emod_nonneg (-1 - x) (by omega : r.small ≠ 0)
    have q1 := Int.emod_lt_of_pos (-1 - x) (by omega : 0 < r.small)
    have g := full_place o F q0 q1
    have e3 : repN r ((-1 - x) % r.small) = repN r x := by
      unfold repN nres
      rw [if_pos q0, if_neg (by omega), mod_sh_small o]
    rw [e3] at g
    exact f.symm.trans g
theorem full_iff {x y : Int} (hx : IsName r x) (hy : IsName r y) : Conn (IsLink r ss) x y ↔ nres r x = nres r y := by
  constructor
  · exact conn_nres o
  · intro h
    have h1 := full_rep o F hx
    have h2 := full_rep o F hy
    have e : repN r x = repN r y := by
      unfold repN
      rw [h]
    rw [e] at h1
    exact h1.trans h2.symm
/-- all beats are sure -/
theorem full_all (t : Int) : Conn (IsLink r ss) (rowS r t) (rowG r t) := (full_iff o F (rowS_name o t) (rowG_name_ o t)).mpr (by rw [rowS_nres o, rowG_nres o])
end
end
end Bm
/-! How many elders a full book has. -/
namespace Bm
/-- whole numbers from one on, below another -/
def zr (a b : Int) : List Int := (List.range (b - a).toNat).map fun i : Nat => a + (i : Int)
theorem zr_mem {a b x : Int} : x ∈ zr a b ↔ a ≤ x ∧ x < b := by
  unfold zr
  rw [List.mem_map]
  constructor
  · rintro ⟨i, hi, rfl⟩
    have := List.mem_range.mp hi
    omega
  · rintro ⟨h0, h1⟩
    exact ⟨(x - a).toNat, List.mem_range.mpr (by omega), by omega⟩
theorem zr_nodup (a b : Int) : (zr a b).Nodup := map_nodup List.nodup_range fun x _ y _ e => by omega
theorem zr_len (a b : Int) : (zr a b).length = (b - a).toNat := by
  unfold zr
  rw [List.length_map, List.length_range]
/-- a star of elders -/
def star (f : Int → Int) (L : List Int) : Eld := L.map fun x => (x, f x)
theorem star_eks (f : Int → Int) (L : List Int) : eks (star f L) = L := by
  unfold star eks
  rw [List.map_map]
  exact List.map_id' _
theorem star_good {f : Int → Int} : ∀ L : List Int, L.Nodup → (∀ x ∈ L, f x ∉ L) → GoodE (star f L) :=
  snoc_ind (fun _ _ => .nil) fun l a ih hn hf => by
    have h1 := List.nodup_append.mp hn
    have e : star f (l ++ [a]) = star f l ++ [(a, f a)] := by
      unfold star
      rw [List.map_append]
      rfl
    rw [e]
    have ha := hf a (List.mem_append_right _ (List.mem_singleton.mpr rfl))
    refine .snoc (ih h1.1 fun x hx z => hf x (List.mem_append_left _ hx) (List.mem_append_left _ z)) ?_ ?_ ?_
    · rw [star_eks]
      exact fun z => h1.2.2 a z a (List.mem_singleton.mpr rfl) rfl
    · rw [star_eks]
      exact fun z => ha (List.mem_append_left _ z)
    · exact fun z => ha (List.mem_append_right _ (List.mem_singleton.mpr z.symm))
theorem star_head {f : Int → Int} : ∀ L : List Int, L.Nodup → (∀ x ∈ L, f x ∉ L) → ∀ n, headOf (star f L) n = if n ∈ L then f n else n :=
  snoc_ind (fun _ _ n => by rw [if_neg (by simp)]; rfl) fun l a ih hn hf n => by
    have h1 := List.nodup_append.mp hn
    have e : star f (l ++ [a]) = star f l ++ [(a, f a)] := by
      unfold star
      rw [List.map_append]
      rfl
    have ih := ih h1.1 (fun x hx z => hf x (List.mem_append_left _ hx) (List.mem_append_left _ z)) n
    have al : a ∉ l := fun z => h1.2.2 a z a (List.mem_singleton.mpr rfl) rfl
    rw [e, headOf_snoc, ih]
    by_cases c : n ∈ l
    · have : f n ≠ a := fun z => hf n (List.mem_append_left _ c) (List.mem_append_right _ (List.mem_singleton.mpr z))
      rw [if_pos c, if_neg this, if_pos (List.mem_append_left _ c)]
    · rw [if_neg c]
      by_cases d : n = a
      · rw [if_pos d, if_pos (List.mem_append_right _ (List.mem_singleton.mpr d)), d]
      · rw [if_neg d, if_neg fun z => ?_]
        rcases List.mem_append.mp z with z | z
        · exact c z
        · exact d (List.mem_singleton.mp z)
section
variable {r : RowsD} (o : RowsOk r)
include o
theorem full_rank {ss : List Int} (F : FullT r ss) : ((tiesE r ss).length : Int) = r.small - r.shared - r.bound + (r.great - r.hung) := by
  have b := o.bs
  have b0 := o.b0
  have hg := o.hg
  have h0 := o.h0
  have sp := o.sh_pos
  let L := zr r.bound (r.small - r.shared) ++ (zr r.hung r.great).map fun c => -1 - c
  have Lm : ∀ x, x ∈ L ↔ (r.bound ≤ x ∧ x < r.small - r.shared) ∨ (r.hung ≤ -1 - x ∧ -1 - x < r.great) := fun x => by
    show x ∈ zr r.bound (r.small - r.shared) ++ (zr r.hung r.great).map (fun c => -1 - c) ↔ _
    rw [List.mem_append, zr_mem, List.mem_map]
    constructor
    · rintro (h | ⟨c, hc, rfl⟩)
      · exact .inl h
      · have := zr_mem.mp hc
        exact .inr ⟨by omega, by omega⟩
    · rintro (h | h)
      · exact .inl h
      · exact .inr ⟨-1 - x, zr_mem.mpr h, by omega⟩
  have Ln : L.Nodup := by
    refine List.nodup_append.mpr ⟨zr_nodup _ _, map_nodup (zr_nodup _ _) fun x _ y _ e => by omega, fun x hx y hy e => ?_⟩
    have h1 := zr_mem.mp hx
    obtain ⟨c, hc, rfl⟩ := List.mem_map.mp hy
    have h2 := zr_mem.mp hc
    omega
  have Lf : ∀ x ∈ L, repN r x ∉ L := fun x _ z => by
    have h := rep_name o x
    rcases (Lm _).mp z with g | g <;> omega
  have hh := star_head L Ln Lf
  have gd := star_good L Ln Lf
  have nm : ∀ x, IsName r x ↔ x ∈ L ∨ (r.small - r.shared ≤ x ∧ x < r.small) := fun x => by
    rw [Lm]
    unfold IsName
    omega
  have hn : ∀ x, IsName r x → headOf (star (repN r) L) x = repN r x := fun x hx => by
    rw [hh]
    by_cases c : x ∈ L
    · rw [if_pos c]
    · rw [if_neg c]
      rcases (nm x).mp hx with z | z
      · exact absurd z c
      · exact (rep_self o z.1 z.2).symm
  have hno : ∀ x, ¬ IsName r x → headOf (star (repN r) L) x = x := fun x hx => by
    rw [hh, if_neg fun z => hx ((nm x).mpr (.inl z))]
  have key := rank_eq (tiesE_good r ss) gd fun x y => by
    rw [ties_conn]
    by_cases hx : IsName r x
    · by_cases hy : IsName r y
      · rw [full_iff o F hx hy, hn x hx, hn y hy]
        unfold repN
        omega
      · rw [hn x hx, hno y hy]
        constructor
        · intro c
          rcases conn_name o c with z | z
          · exact absurd (z ▸ hx) hy
          · exact absurd z.2 hy
        · intro e
          exact absurd (e ▸ (rep_name o x).1) hy
    · by_cases hy : IsName r y
      · rw [hno x hx, hn y hy]
        constructor
        · intro c
          rcases conn_name o c with z | z
          · exact absurd (z ▸ hy) hx
          · exact absurd z.1 hx
        · intro e
          exact absurd (e ▸ (rep_name o y).1) hx
      · rw [hno x hx, hno y hy]
        constructor
        · intro c
          rcases conn_name o c with z | z
          · exact z
          · exact absurd z.1 hx
        · rintro rfl
          exact .refl _
  rw [key]
  have e : (star (repN r) L).length = L.length := by simp [star]
  have e2 : L.length = (zr r.bound (r.small - r.shared)).length + (zr r.hung r.great).length := by
    show (zr r.bound (r.small - r.shared) ++ (zr r.hung r.great).map (fun c => -1 - c)).length = _
    rw [List.length_append, List.length_map]
  rw [e, e2, zr_len, zr_len]
  omega
/-- never more than in a full book -/
theorem full_of {ss : List Int} (many : Int) (hs : ∀ t, 0 ≤ t → t < many → Conn (IsLink r ss) (rowS r t) (rowG r t)) (hr : ∀ t, many ≤ t → t < r.small + r.great - r.shared → Conn (IsLink r ss) (rowS r t) (rowG r t)) : FullT r ss := fun t h0 h1 => by
  by_cases c : t < many
  · exact hs t h0 c
  · exact hr t (by omega) h1
end
end Bm
/-! Sums over lists; how many cups a row has. -/
namespace Bm
def sm (l : List Int) (f : Int → Int) : Int := (l.map f).sum
theorem sm_nil (f : Int → Int) : sm [] f = 0 := rfl
theorem sm_cons (a : Int) (l : List Int) (f : Int → Int) : sm (a :: l) f = f a + sm l f := by
  unfold sm
  rw [List.map_cons, List.sum_cons]
theorem sm_app (l m : List Int) (f : Int → Int) : sm (l ++ m) f = sm l f + sm m f := by
  induction l with
  | nil => rw [List.nil_append, sm_nil, Int.zero_add]
  | cons a l ih => rw [List.cons_append, sm_cons, sm_cons, ih, Int.add_assoc]
theorem sm_congr {l : List Int} {f g : Int → Int} (h : ∀ x ∈ l, f x = g x) : sm l f = sm l g := by
  unfold sm
  rw [List.map_congr_left h]
theorem sm_add (l : List Int) (f g : Int → Int) : sm l (fun x => f x + g x) = sm l f + sm l g := by
  induction l with
  | nil => rfl
  | cons a l ih => rw [sm_cons, sm_cons, sm_cons, ih]; omega
theorem sm_sub (l : List Int) (f g : Int → Int) : sm l (fun x => f x - g x) = sm l f - sm l g := by
  induction l with
  | nil => rfl
  | cons a l ih => rw [sm_cons, sm_cons, sm_cons, ih]; omega
theorem sm_mul (l : List Int) (c : Int) (f : Int → Int) : sm l (fun x => c * f x) = c * sm l f := by
  induction l with
  | nil => rw [sm_nil, sm_nil, Int.mul_zero]
  | cons a l ih => rw [sm_cons, sm_cons, ih, Int.mul_add]
theorem sm_mulr (l : List Int) (c : Int) (f : Int → Int) : sm l (fun x => f x * c) = sm l f * c := by
  induction l with
  | nil => rw [sm_nil, sm_nil, Int.zero_mul]
  | cons a l ih => rw [sm_cons, sm_cons, ih, Int.add_mul]
theorem sm_const (l : List Int) (c : Int) : sm l (fun _ => c) = (l.length : Int) * c := by
  induction l with
  | nil => rw [sm_nil]; simp
  | cons a l ih =>
    rw [sm_cons, ih, List.length_cons]
    have : ((l.length + 1 : Nat) : Int) = (l.length : Int) + 1 := by omega
    rw [this, Int.add_mul, Int.one_mul, Int.add_comm]
theorem sm_zero {l : List Int} {f : Int → Int} (h : ∀ x ∈ l, f x = 0) : sm l f = 0 := by
  rw [sm_congr h, sm_const, Int.mul_zero]
theorem sm_le {l : List Int} {f g : Int → Int} (h : ∀ x ∈ l, f x ≤ g x) : sm l f ≤ sm l g := by
  induction l with
  | nil => exact Int.le_refl _
  | cons a l ih =>
    rw [sm_cons, sm_cons]
    have h1 := h a List.mem_cons_self
    have h2 := ih fun x hx => h x (List.mem_cons_of_mem _ hx)
    omega
theorem sm_lt {l : List Int} {f g : Int → Int} (h : ∀ x ∈ l, f x ≤ g x) {a : Int} (ha : a ∈ l) (hs : f a < g a) : sm l f < sm l g := by
  induction l with
  | nil => cases ha
  | cons b l ih =>
    rw [sm_cons, sm_cons]
    have h1 := h b List.mem_cons_self
    have h2 := sm_le fun x hx => h x (List.mem_cons_of_mem _ hx)
    rcases List.mem_cons.mp ha with e | e
    · subst e
      omega
    · have h3 := ih (fun x hx => h x (List.mem_cons_of_mem _ hx)) e
      omega
theorem sm_nonneg {l : List Int} {f : Int → Int} (h : ∀ x ∈ l, 0 ≤ f x) : 0 ≤ sm l f := by
  have := sm_le (l := l) (f := fun _ => 0) h
  rw [sm_const, Int.mul_zero] at this
  exact this
theorem sm_perm {l m : List Int} (h : l.Perm m) (f : Int → Int) : sm l f = sm m f := perm_sum (h.map f)
theorem sm_map (l : List Int) (g f : Int → Int) : sm (l.map g) f = sm l fun x => f (g x) := by
  unfold sm
  rw [List.map_map]
  rfl
theorem sm_comm (l m : List Int) (f : Int → Int → Int) : sm l (fun a => sm m (f a)) = sm m fun b => sm l fun a => f a b := by
  induction l with
  | nil => exact (sm_zero fun _ _ => rfl).symm
  | cons a l ih =>
    rw [sm_cons, ih, ← sm_add]
    exact sm_congr fun b _ => by rw [sm_cons]
theorem sm_filter (l : List Int) (P : Int → Prop) [DecidablePred P] (f : Int → Int) : sm (l.filter fun x => decide (P x)) f = sm l fun x => if P x then f x else 0 := by
  induction l with
  | nil => rfl
  | cons a l ih =>
    rw [sm_cons]
    by_cases c : P a
    · rw [List.filter_cons_of_pos (by simpa using c), sm_cons, ih, if_pos c]
    · rw [List.filter_cons_of_neg (by simpa using c), ih, if_neg c, Int.zero_add]
theorem sm_single {M : List Int} (hn : M.Nodup) {a : Int} (ha : a ∈ M) (g : Int → Int) : sm M (fun m => if a = m then g m else 0) = g a := by
  induction M with
  | nil => cases ha
  | cons b M ih =>
    have h1 := List.nodup_cons.mp hn
    rw [sm_cons]
    rcases List.mem_cons.mp ha with e | e
    · subst e
      rw [if_pos rfl, sm_zero fun m hm => ?_, Int.add_zero]
      rw [if_neg]
      intro z
      exact h1.1 (z ▸ hm)
    · have : ¬ a = b := fun z => h1.1 (z ▸ e)
      rw [if_neg this, Int.zero_add, ih h1.2 e]
/-- how many of a list have a name -/
def cnt (l : List Int) (k : Int → Int) (m : Int) : Int := sm l fun x => if k x = m then 1 else 0
theorem fibre {l M : List Int} {k : Int → Int} (hM : M.Nodup) (hk : ∀ x ∈ l, k x ∈ M) (f : Int → Int) : sm l (fun x => f (k x)) = sm M fun m => cnt l k m * f m := by
  have e : sm l (fun x => f (k x)) = sm l fun x => sm M fun m => if k x = m then f m else 0 := sm_congr fun x hx => (sm_single hM (hk x hx) f).symm
  rw [e, sm_comm]
  refine sm_congr fun m _ => ?_
  unfold cnt
  rw [← sm_mulr]
  refine sm_congr fun x _ => ?_
  by_cases c : k x = m
  · rw [if_pos c, if_pos c, Int.one_mul]
  · rw [if_neg c, if_neg c, Int.zero_mul]
theorem zr_snoc {a b : Int} (h : a ≤ b) : zr a (b + 1) = zr a b ++ [b] := by
  unfold zr
  have e : (b + 1 - a).toNat = (b - a).toNat + 1 := by omega
  rw [e, List.range_succ, List.map_append]
  congr 1
  show [a + (((b - a).toNat : Nat) : Int)] = [b]
  congr 1
  omega
theorem zr_empty {a b : Int} (h : b ≤ a) : zr a b = [] := by
  unfold zr
  have e : (b - a).toNat = 0 := by omega
  rw [e]
  rfl
theorem zr_app {a b c : Int} (h : a ≤ b) (h2 : b ≤ c) : zr a c = zr a b ++ zr b c := by
  obtain ⟨n, e⟩ : ∃ n : Nat, c = b + (n : Int) := ⟨(c - b).toNat, by omega⟩
  subst e
  clear h2
  induction n with
  | zero =>
    have e : b + ((0 : Nat) : Int) = b := by omega
    rw [e, zr_empty (Int.le_refl b), List.append_nil]
  | succ n ih =>
    have e : b + ((n + 1 : Nat) : Int) = b + (n : Int) + 1 := by omega
    rw [e, zr_snoc (by omega), zr_snoc (by omega), ih, List.append_assoc]
theorem sm_zr_snoc {a b : Int} (h : a ≤ b) (f : Int → Int) : sm (zr a (b + 1)) f = sm (zr a b) f + f b := by
  rw [zr_snoc h, sm_app, sm_cons, sm_nil, Int.add_zero]
/-- how many below a number have a residue -/
theorem cnt_mod {s p : Int} (hs : 0 < s) (p0 : 0 ≤ p) (p1 : p < s) (n : Nat) : cnt (zr 0 (n : Int)) (fun c => c % s) p = (n : Int) / s + if p < (n : Int) % s then 1 else 0 := by
  induction n with
  | zero =>
    have e : ((0 : Nat) : Int) = 0 := rfl
    rw [e, zr_empty (Int.le_refl _), Int.zero_ediv, Int.zero_emod, if_neg (by omega)]
    rfl
  | succ n ih =>
    have e : ((n + 1 : Nat) : Int) = (n : Int) + 1 := by omega
    unfold cnt at ih ⊢
    rw [e, sm_zr_snoc (by omega), ih]
    have d := Int.emod_add_mul_ediv (n : Int) s
    have r0 := Int.emod_nonneg (n : Int) (by omega : s ≠ 0)
    have r1 := Int.emod_lt_of_pos (n : Int) hs
    by_cases c : (n : Int) % s + 1 < s
    · have q1 : ((n : Int) + 1) / s = (n : Int) / s := by
        have e2 : (n : Int) + 1 = ((n : Int) % s + 1) + s * ((n : Int) / s) := by omega
        rw [e2, Int.add_mul_ediv_left _ _ (by omega : s ≠ 0), Int.ediv_eq_zero_of_lt (by omega) c, Int.zero_add]
      have q2 : ((n : Int) + 1) % s = (n : Int) % s + 1 := by
        have e2 : (n : Int) + 1 = ((n : Int) % s + 1) + s * ((n : Int) / s) := by omega
        rw [e2, Int.add_mul_emod_self_left, Int.emod_eq_of_lt (by omega) c]
      rw [q1, q2]
      by_cases d1 : (n : Int) % s = p
      · rw [if_pos d1, if_neg (by omega), if_pos (by omega)]
        omega
      · rw [if_neg d1]
        by_cases d2 : p < (n : Int) % s
        · rw [if_pos d2, if_pos (by omega)]
          omega
        · rw [if_neg d2, if_neg (by omega)]
          omega
    · have e1 : (n : Int) + 1 = 0 + s * ((n : Int) / s + 1) := by
        rw [Int.mul_add, Int.mul_one]
        omega
      have q1 : ((n : Int) + 1) / s = (n : Int) / s + 1 := by
        rw [e1, Int.add_mul_ediv_left _ _ (by omega : s ≠ 0), Int.zero_ediv, Int.zero_add]
      have q2 : ((n : Int) + 1) % s = 0 := by
        rw [e1, Int.add_mul_emod_self_left, Int.zero_emod]
      rw [q1, q2, if_neg (by omega : ¬ p < 0)]
      by_cases d1 : (n : Int) % s = p
      · rw [if_pos d1, if_neg (by omega)]
        omega
      · rw [if_neg d1, if_pos (by omega)]
/-- how many of the first places lie below by -/
theorem cnt_wraps {s y b : Int} (hs : 0 < s) (y0 : 0 ≤ y) (y1 : y < s) (b0 : 0 ≤ b) (b1 : b < s) (n : Nat) :
    sm (zr 0 ((n : Int) + 1)) (fun j => if (b + y * j) % s < y then 1 else 0) = (b + y * (n : Int)) / s + if b < y then 1 else 0 := by
  induction n with
  | zero =>
    have e : ((0 : Nat) : Int) = 0 := rfl
    rw [e, sm_zr_snoc (Int.le_refl _), zr_empty (Int.le_refl _), sm_nil, Int.mul_zero, Int.add_zero, Int.emod_eq_of_lt b0 b1, Int.ediv_eq_zero_of_lt b0 b1]
  | succ n ih =>
    have e : ((n + 1 : Nat) : Int) = (n : Int) + 1 := by omega
    rw [e, sm_zr_snoc (by omega), ih]
    have e2 : b + y * ((n : Int) + 1) = b + y * (n : Int) + y := by
      rw [Int.mul_add, Int.mul_one]
      omega
    rw [e2]
    have x0 : 0 ≤ b + y * (n : Int) := by
      have := Int.mul_nonneg y0 (by omega : 0 ≤ (n : Int))
      omega
    generalize b + y * (n : Int) = x at x0
    have d := Int.emod_add_mul_ediv x s
    have r0 := Int.emod_nonneg x (by omega : s ≠ 0)
    have r1 := Int.emod_lt_of_pos x hs
    by_cases c : x % s + y < s
    · have e3 : x + y = (x % s + y) + s * (x / s) := by omega
      have q1 : (x + y) / s = x / s := by rw [e3, Int.add_mul_ediv_left _ _ (by omega : s ≠ 0), Int.ediv_eq_zero_of_lt (by omega) c, Int.zero_add]
      have q2 : (x + y) % s = x % s + y := by
        rw [e3, Int.add_mul_emod_self_left, Int.emod_eq_of_lt (by omega) c]
      rw [q1, q2, if_neg (by omega : ¬ x % s + y < y)]
      omega
    · have e3 : x + y = (x % s + y - s) + s * (x / s + 1) := by
        rw [Int.mul_add, Int.mul_one]
        omega
      have q1 : (x + y) / s = x / s + 1 := by rw [e3, Int.add_mul_ediv_left _ _ (by omega : s ≠ 0), Int.ediv_eq_zero_of_lt (by omega) (by omega), Int.zero_add]
      have q2 : (x + y) % s = x % s + y - s := by rw [e3, Int.add_mul_emod_self_left, Int.emod_eq_of_lt (by omega) (by omega)]
      rw [q1, q2, if_pos (by omega : x % s + y - s < y)]
      omega
end Bm
/-! How long a row is and how many cups hang by it. -/
namespace Bm
def wrapsF (b y s k : Int) : Int := if k = 0 then 0 else (b + y * (k - 1)) / s + if b < y then 1 else 0
def hangF (r : RowsD) (b k : Int) : Int := if r.bound = 0 then k * (r.hung / r.small) + (if 0 < k ∧ b < r.hung % r.small then 1 else 0) else k * (r.hung / r.small) + wrapsF b r.by' r.small k
noncomputable def longR (r : RowsD) (R : Int) : Int := stepsBack r R + 1
noncomputable def hangR (r : RowsD) (R : Int) : Int := hangF r (placeAt r R 0) (longR r R)
/-- names of rows and of cups by themselves -/
def namesL (r : RowsD) : List Int := zr r.bound r.small ++ (zr r.hung r.great).map fun c => -1 - c
noncomputable def longN (r : RowsD) (n : Int) : Int := if 0 ≤ n then longR r n else 0
noncomputable def hangN (r : RowsD) (n : Int) : Int := if 0 ≤ n then hangR r n else 1
section
variable {r : RowsD} (o : RowsOk r)
include o
theorem namesL_mem {n : Int} : n ∈ namesL r ↔ IsName r n := by
  unfold namesL IsName
  rw [List.mem_append, zr_mem, List.mem_map]
  constructor
  · rintro (h | ⟨c, hc, rfl⟩)
    · exact .inl h
    · have := zr_mem.mp hc
      exact .inr ⟨by omega, by omega⟩
  · rintro (h | h)
    · exact .inl h
    · exact .inr ⟨-1 - n, zr_mem.mpr h, by omega⟩
theorem namesL_nodup : (namesL r).Nodup := by
  have b0 := o.b0
  have h0 := o.h0
  refine List.nodup_append.mpr ⟨zr_nodup _ _, map_nodup (zr_nodup _ _) fun x _ y _ e => by omega, fun x hx y hy e => ?_⟩
  have h1 := zr_mem.mp hx
  obtain ⟨c, hc, rfl⟩ := List.mem_map.mp hy
  have h2 := zr_mem.mp hc
  omega
theorem row_sum {R : Int} (h0 : r.bound ≤ R) (h1 : R < r.small) (g : Int → Int) : sm (zr 0 r.small) (fun p => if endOf r p = R then g p else 0) = sm (zr 0 (longR r R)) fun j => g (placeAt r R j) := by
  rw [← sm_filter (zr 0 r.small) (fun p => endOf r p = R) g, ← sm_map (zr 0 (longR r R)) (placeAt r R) g]
  refine sm_perm ((List.perm_ext_iff_of_nodup ((zr_nodup _ _).filter _) (map_nodup (zr_nodup _ _) fun x hx y hy e => ?_)).mpr fun p => ?_) g
  · have hx := zr_mem.mp hx
    have hy := zr_mem.mp hy
    unfold longR at hx hy
    rcases Int.lt_trichotomy x y with c | c | c
    · exact absurd e (place_inj o hx.1 c (by omega) h0 h1)
    · exact c
    · exact absurd e.symm (place_inj o hy.1 c (by omega) h0 h1)
  · rw [List.mem_filter, zr_mem, List.mem_map]
    constructor
    · rintro ⟨⟨p0, p1⟩, e⟩
      have e := of_decide_eq_true e
      have hb := (o.steps_back_b p).1
      have hl := back_le o p
      rw [e] at hl
      refine ⟨stepsBack r p, zr_mem.mpr ⟨hb, by unfold longR; omega⟩, ?_⟩
      rw [← e]
      exact place_of o p0 p1
    · rintro ⟨j, hj, rfl⟩
      have hj := zr_mem.mp hj
      unfold longR at hj
      have pb := place_b o R j
      exact ⟨pb, decide_eq_true (end_place o hj.1 (by omega) h0 h1)⟩
theorem row_long {R : Int} (h0 : r.bound ≤ R) (h1 : R < r.small) : cnt (zr 0 r.small) (endOf r) R = longR r R := by
  unfold cnt
  rw [row_sum o h0 h1, sm_const, zr_len, Int.mul_one]
  have := (o.steps_back_b R).1
  unfold longR
  omega
theorem row_hang {R : Int} (h0 : r.bound ≤ R) (h1 : R < r.small) : cnt (zr 0 r.great) (gName r) R = hangR r R := by
  have b0 := o.b0
  have u0 := o.h0
  have ug := o.hg
  have s0 := small_pos o
  have sb := (o.steps_back_b R).1
  have e1 : cnt (zr 0 r.great) (gName r) R = sm (zr 0 r.hung) fun c => if endOf r (c % r.small) = R then 1 else 0 := by
    unfold cnt
    rw [zr_app u0 ug, sm_app, sm_zero (l := zr r.hung r.great) fun c hc => ?_, Int.add_zero]
    · refine sm_congr fun c hc => ?_
      have hc := zr_mem.mp hc
      unfold gName
      rw [if_neg (by omega : ¬ r.hung ≤ c)]
    · have hc := zr_mem.mp hc
      unfold gName
      rw [if_pos hc.1, if_neg (by omega)]
  have e2 := fibre (l := zr 0 r.hung) (M := zr 0 r.small) (k := fun c => c % r.small) (zr_nodup _ _) (fun c _ => zr_mem.mpr ⟨Int.emod_nonneg _ (by omega), Int.emod_lt_of_pos _ s0⟩) fun p => if endOf r p = R then 1 else 0
  have e3 : (sm (zr 0 r.small) fun m => cnt (zr 0 r.hung) (fun c => c % r.small) m * if endOf r m = R then 1 else 0) = sm (zr 0 r.small) fun p => if endOf r p = R then (r.hung / r.small + if p < r.hung % r.small then 1 else 0) else 0 := by
    refine sm_congr fun p hp => ?_
    have hp := zr_mem.mp hp
    by_cases c : endOf r p = R
    · have := cnt_mod s0 hp.1 hp.2 r.hung.toNat
      have e : ((r.hung.toNat : Nat) : Int) = r.hung := by omega
      rw [e] at this
      rw [if_pos c, if_pos c, this, Int.mul_one]
    · rw [if_neg c, if_neg c, Int.mul_zero]
  rw [e1, e2, e3, row_sum o h0 h1, sm_add, sm_const, zr_len]
  have e4 : (((longR r R - 0).toNat : Nat) : Int) = longR r R := by unfold longR; omega
  rw [e4]
  unfold hangR hangF
  by_cases c : r.bound = 0
  · have z : stepsBack r R = 0 := stepsBack_0 o c R
    have l1 : longR r R = 1 := by unfold longR; omega
    have e5 : (1 : Int) = 0 + 1 := rfl
    rw [if_pos c, l1, e5, sm_zr_snoc (Int.le_refl _), zr_empty (Int.le_refl _), sm_nil]
    by_cases d : placeAt r R 0 < r.hung % r.small
    · rw [if_pos d, if_pos ⟨by decide, d⟩]
      omega
    · rw [if_neg d, if_neg fun z => d z.2]
      omega
  · rw [if_neg c]
    have hh := o.hb (by omega)
    have hy : r.hung % r.small = r.by' := by rw [hh, o.by_]
    have pb := place_b o R 0
    have cw := cnt_wraps s0 o.by0 o.byS pb.1 pb.2 (stepsBack r R).toNat
    have e5 : (((stepsBack r R).toNat : Nat) : Int) = stepsBack r R := by omega
    rw [e5] at cw
    have e6 : (sm (zr 0 (longR r R)) fun j => if placeAt r R j < r.hung % r.small then 1 else 0) = sm (zr 0 (stepsBack r R + 1)) fun j => if (placeAt r R 0 + r.by' * j) % r.small < r.by' then 1 else 0 := by
      refine sm_congr fun j _ => ?_
      have : (placeAt r R 0 + r.by' * j) % r.small = placeAt r R j := by
        unfold placeAt
        rw [Int.emod_add_emod]
        congr 1
        rw [Int.mul_sub, Int.mul_sub, Int.mul_zero]
        omega
      rw [this, hy]
    rw [e6, cw]
    unfold wrapsF longR
    rw [if_neg (by omega : ¬ stepsBack r R + 1 = 0)]
    have : stepsBack r R + 1 - 1 = stepsBack r R := by omega
    rw [this]
theorem sum_small (f : Int → Int) : sm (zr 0 r.small) (fun p => f (endOf r p)) = sm (namesL r) fun n => longN r n * f n := by
  have b0 := o.b0
  have u0 := o.h0
  rw [fibre (namesL_nodup o) (fun p _ => (namesL_mem o).mpr (end_name o p)) f]
  refine sm_congr fun n hn => ?_
  congr 1
  unfold longN
  rcases (namesL_mem o).mp hn with h | h
  · rw [if_pos (by omega), row_long o h.1 h.2]
  · rw [if_neg (by omega)]
    refine sm_zero fun p _ => ?_
    have := end_bounds o p
    rw [if_neg (by omega)]
theorem sum_great (f : Int → Int) : sm (zr 0 r.great) (fun c => f (gName r c)) = sm (namesL r) fun n => hangN r n * f n := by
  have b0 := o.b0
  have u0 := o.h0
  rw [fibre (namesL_nodup o) (fun c hc => (namesL_mem o).mpr (gName_name o (zr_mem.mp hc).2)) f]
  refine sm_congr fun n hn => ?_
  congr 1
  unfold hangN
  rcases (namesL_mem o).mp hn with h | h
  · rw [if_pos (by omega), row_hang o h.1 h.2]
  · rw [if_neg (by omega)]
    have e := sm_single (zr_nodup 0 r.great) (a := -1 - n) (zr_mem.mpr ⟨by omega, h.2⟩) fun _ => 1
    rw [← e]
    unfold cnt
    refine sm_congr fun c hc => ?_
    have hc := zr_mem.mp hc
    show (if gName r c = n then (1 : Int) else 0) = if -1 - n = c then 1 else 0
    unfold gName
    by_cases d : r.hung ≤ c
    · rw [if_pos d]
      by_cases g : -1 - c = n
      · rw [if_pos g, if_pos (by omega)]
      · rw [if_neg g, if_neg (by omega)]
    · have := end_bounds o (c % r.small)
      rw [if_neg d, if_neg (by omega), if_neg (by omega)]
end
end Bm
/-! The least place come to; kinds of rows. -/
namespace Bm
structure LeastOf (b y m n M : Int) : Prop where
  at_ : ∃ i, 0 ≤ i ∧ i < n ∧ (b + y * i) % m = M
  le : ∀ i, 0 ≤ i → i < n → M ≤ (b + y * i) % m
structure GreatestOf (b y m n M : Int) : Prop where
  at_ : ∃ i, 0 ≤ i ∧ i < n ∧ (b + y * i) % m = M
  le : ∀ i, 0 ≤ i → i < n → (b + y * i) % m ≤ M
theorem mods (b y m i : Int) : (b % m + y % m * i) % m = (b + y * i) % m := by
  rw [Int.emod_add_emod, Int.add_emod, Int.mul_emod, Int.emod_emod_of_dvd _ (Int.dvd_refl m), ← Int.mul_emod, ← Int.add_emod]
theorem LeastOf.start {b y m n M : Int} (h : LeastOf (b % m) (y % m) m n M) : LeastOf b y m n M := by
  obtain ⟨⟨i, i0, i1, e⟩, hl⟩ := h
  refine ⟨⟨i, i0, i1, by rw [← e, mods]⟩, fun i i0 i1 => ?_⟩
  rw [← mods]
  exact hl i i0 i1
theorem rev_at (b y m n i : Int) : ((b + y * (n - 1)) % m + (m - y) * i) % m = (b + y * (n - 1 - i)) % m := by
  rw [Int.emod_add_emod]
  have e : b + y * (n - 1) + (m - y) * i = (b + y * (n - 1 - i)) + m * i := by
    rw [Int.sub_mul, Int.mul_sub y (n - 1) i]
    omega
  rw [e, Int.add_mul_emod_self_left]
theorem LeastOf.rev {b y m n M : Int} (h : LeastOf ((b + y * (n - 1)) % m) (m - y) m n M) : LeastOf b y m n M := by
  obtain ⟨⟨i, i0, i1, e⟩, hl⟩ := h
  refine ⟨⟨n - 1 - i, by omega, by omega, by rw [← e, rev_at]⟩, fun i i0 i1 => ?_⟩
  have := hl (n - 1 - i) (by omega) (by omega)
  rw [rev_at] at this
  have e2 : n - 1 - (n - 1 - i) = i := by omega
  rw [e2] at this
  exact this
theorem LeastOf.stop {b y m n : Int} (b0 : 0 ≤ b) (b1 : b < m) (y0 : 0 ≤ y) (hn : 1 ≤ n) (h : y = 0 ∨ (b + y * (n - 1)) / m = 0) : LeastOf b y m n b := by
  refine ⟨⟨0, by omega, by omega, by rw [Int.mul_zero, Int.add_zero]; exact Int.emod_eq_of_lt b0 b1⟩, fun i i0 i1 => ?_⟩
  rcases h with rfl | h
  · rw [Int.zero_mul, Int.add_zero, Int.emod_eq_of_lt b0 b1]
    exact Int.le_refl _
  · have h1 : y * i ≤ y * (n - 1) := Int.mul_le_mul_of_nonneg_left (by omega) y0
    have h2 := Int.mul_nonneg y0 i0
    have d := Int.emod_add_mul_ediv (b + y * (n - 1)) m
    rw [h, Int.mul_zero] at d
    have d2 := Int.emod_lt_of_pos (b + y * (n - 1)) (by omega : 0 < m)
    rw [Int.emod_eq_of_lt (by omega) (by omega)]
    omega
theorem down_at (b y m i : Int) : ((b - m) % y + (0 - m) % y * i) % y = (b - m * (i + 1)) % y := by
  rw [mods]
  congr 1
  rw [Int.sub_mul, Int.mul_add]
  omega
theorem LeastOf.down {b y m n M : Int} (b0 : 0 ≤ b) (b1 : b < m) (y0 : 0 < y) (y1 : y < m) (hn : 1 ≤ n) (h : LeastOf ((b - m) % y) ((0 - m) % y) y ((b + y * (n - 1)) / m) M) : LeastOf b y m n (min b M) := by
  obtain ⟨⟨k, k0, k1, e⟩, hl⟩ := h
  have m0 : 0 < m := by omega
  have hM : ∃ i, 0 ≤ i ∧ i < n ∧ (b + y * i) % m = M := by
    rw [down_at] at e
    -- the first place of lap k + 1
    have c0 := Int.emod_nonneg (b - m * (k + 1)) (by omega : y ≠ 0)
    have c1 := Int.emod_lt_of_pos (b - m * (k + 1)) y0
    have d := Int.emod_add_mul_ediv (b - m * (k + 1)) y
    have d3 : m * (k + 1) ≤ m * ((b + y * (n - 1)) / m) := Int.mul_le_mul_of_nonneg_left (by omega) (by omega)
    have d4 : m * ((b + y * (n - 1)) / m) ≤ b + y * (n - 1) := Int.mul_ediv_self_le (by omega)
    have m1 : m ≤ m * (k + 1) := by
      have := Int.mul_le_mul_of_nonneg_left (by omega : (1 : Int) ≤ k + 1) (by omega : 0 ≤ m)
      rw [Int.mul_one] at this
      exact this
    refine ⟨0 - (b - m * (k + 1)) / y, ?_, ?_, ?_⟩
    · have : (b - m * (k + 1)) / y < 0 := Int.ediv_neg_of_neg_of_pos (by omega) y0
      omega
    · have h1 : y * (0 - (b - m * (k + 1)) / y) < y * n := by
        rw [Int.mul_sub, Int.mul_zero]
        rw [Int.mul_sub, Int.mul_one] at d4 d3
        omega
      exact Int.lt_of_mul_lt_mul_left h1 (by omega)
    · have e2 : b + y * (0 - (b - m * (k + 1)) / y) = (b - m * (k + 1)) % y + m * (k + 1) := by
        rw [Int.mul_sub, Int.mul_zero]
        omega
      rw [e2, Int.add_mul_emod_self_left, Int.emod_eq_of_lt c0 (by omega)]
      exact e
  refine ⟨?_, fun i i0 i1 => ?_⟩
  · by_cases c : b ≤ M
    · rw [Int.min_eq_left c]
      exact ⟨0, by omega, by omega, by rw [Int.mul_zero, Int.add_zero]; exact Int.emod_eq_of_lt b0 b1⟩
    · rw [Int.min_eq_right (by omega)]
      exact hM
  · have x0 := Int.mul_nonneg (by omega : 0 ≤ y) i0
    have v0 := Int.emod_nonneg (b + y * i) (by omega : m ≠ 0)
    have v1 := Int.emod_lt_of_pos (b + y * i) m0
    have d := Int.emod_add_mul_ediv (b + y * i) m
    have q0 : 0 ≤ (b + y * i) / m := Int.ediv_nonneg (by omega) (by omega)
    by_cases c : (b + y * i) / m = 0
    · rw [c, Int.mul_zero] at d
      omega
    · have q1 : (b + y * i) / m ≤ (b + y * (n - 1)) / m := by
        refine Int.ediv_le_ediv m0 ?_
        have := Int.mul_le_mul_of_nonneg_left (by omega : i ≤ n - 1) (by omega : 0 ≤ y)
        omega
      have h := hl ((b + y * i) / m - 1) (by omega) (by omega)
      rw [down_at] at h
      have e2 : (b + y * i) / m - 1 + 1 = (b + y * i) / m := by omega
      rw [e2] at h
      have e3 : b - m * ((b + y * i) / m) = (b + y * i) % m + y * (0 - i) := by
        rw [Int.mul_sub, Int.mul_zero]
        omega
      rw [e3, Int.add_mul_emod_self_left] at h
      have h4 : (b + y * i) % m % y ≤ (b + y * i) % m := by
        have f1 := Int.emod_add_mul_ediv ((b + y * i) % m) y
        have f2 := Int.mul_nonneg (by omega : 0 ≤ y) (Int.ediv_nonneg v0 (by omega : 0 ≤ y))
        omega
      omega
theorem laps_b {b y m n : Int} (b0 : 0 ≤ b) (b1 : b < m) (y0 : 0 ≤ y) (y1 : y < m) (hn : 1 ≤ n) : 0 ≤ (b + y * (n - 1)) / m ∧ (b + y * (n - 1)) / m < n := by
  have h1 := Int.mul_nonneg y0 (by omega : 0 ≤ n - 1)
  have h2 : y * (n - 1) ≤ m * (n - 1) := Int.mul_le_mul_of_nonneg_right (by omega) (by omega)
  refine ⟨Int.ediv_nonneg (by omega) (by omega), ?_⟩
  refine Int.ediv_lt_of_lt_mul (by omega) ?_
  have e : m * (n - 1) = m * n - m := by rw [Int.mul_sub, Int.mul_one]
  have e2 : n * m = m * n := Int.mul_comm _ _
  omega
theorem greatest_of {b y m n M : Int} (hm : 0 < m) (h : LeastOf (m - 1 - b) (0 - y) m n M) : GreatestOf b y m n (m - 1 - M) := by
  have key : ∀ i, (m - 1 - b + (0 - y) * i) % m = m - 1 - (b + y * i) % m := fun i => by
    have v0 := Int.emod_nonneg (b + y * i) (by omega : m ≠ 0)
    have v1 := Int.emod_lt_of_pos (b + y * i) hm
    have d := Int.emod_add_mul_ediv (b + y * i) m
    have e : m - 1 - b + (0 - y) * i = (m - 1 - (b + y * i) % m) + m * (0 - (b + y * i) / m) := by
      rw [Int.sub_mul, Int.zero_mul, Int.mul_sub, Int.mul_zero]
      omega
    rw [e, Int.add_mul_emod_self_left, Int.emod_eq_of_lt (by omega) (by omega)]
  obtain ⟨⟨i, i0, i1, e⟩, hl⟩ := h
  rw [key] at e
  refine ⟨⟨i, i0, i1, by omega⟩, fun i i0 i1 => ?_⟩
  have := hl i i0 i1
  rw [key] at this
  omega
/-! ### kinds -/
/-- the begin of the row behind an end -/
def begR (r : RowsD) (e : Int) : Int := (e + r.by') % r.small
noncomputable def kR (r : RowsD) (e : Int) : Int := (stepsOn r (begR r e) + 1) * hangF r (begR r e) (stepsOn r (begR r e) + 1)
noncomputable def prevEnd (r : RowsD) (p : Int) : Int := (p - r.by' - r.by' * stepsBack r p) % r.small
section
variable {r : RowsD} (o : RowsOk r)
include o
theorem beg_b (e : Int) : 0 ≤ begR r e ∧ begR r e < r.small := ⟨Int.emod_nonneg _ (by have := o.s0; omega), Int.emod_lt_of_pos _ (small_pos o)⟩
theorem beg_sub {e : Int} (h0 : 0 ≤ e) (h1 : e < r.small) (x : Int) : (begR r e - r.by' + x) % r.small = (e + x) % r.small := by
  unfold begR
  have e1 : (e + r.by') % r.small - r.by' + x = (e + r.by') % r.small + (x - r.by') := by omega
  rw [e1, Int.emod_add_emod]
  congr 1
  omega
theorem beg_back {e : Int} (h0 : r.bound ≤ e) (h1 : e < r.small) : stepsBack r (begR r e) = 0 := by
  have b0 := o.b0
  refine stepsBack_eq ⟨Int.le_refl _, ?_, fun y g1 g2 => by omega⟩
  rw [Int.mul_zero, beg_sub o (by omega) h1, Int.add_zero, Int.emod_eq_of_lt (by omega) h1]
  omega
theorem beg_row {e : Int} (h0 : r.bound ≤ e) (h1 : e < r.small) : placeAt r (endOf r (begR r e)) 0 = begR r e ∧ stepsBack r (endOf r (begR r e)) = stepsOn r (begR r e) := by
  have hb := beg_b o e
  have h := place_of o hb.1 hb.2
  rw [beg_back o h0 h1] at h
  have h2 := back_end o (begR r e)
  rw [beg_back o h0 h1, Int.zero_add] at h2
  exact ⟨h, h2⟩
theorem kR_row {e : Int} (h0 : r.bound ≤ e) (h1 : e < r.small) : kR r e = longR r (endOf r (begR r e)) * hangR r (endOf r (begR r e)) := by
  obtain ⟨h2, h3⟩ := beg_row o h0 h1
  unfold kR hangR longR
  rw [h2, h3]
theorem kinds_sum : sm (zr r.bound r.small) (kR r) = sm (zr r.bound r.small) fun R => longR r R * hangR r R := by
  have b0 := o.b0
  have s0 := small_pos o
  have e1 : sm (zr r.bound r.small) (kR r) = sm ((zr r.bound r.small).map fun e => endOf r (begR r e)) fun R => longR r R * hangR r R := by
    rw [sm_map]
    exact sm_congr fun e he => kR_row o (zr_mem.mp he).1 (zr_mem.mp he).2
  rw [e1]
  refine sm_perm ((List.perm_ext_iff_of_nodup (map_nodup (zr_nodup _ _) fun x hx y hy e => ?_) (zr_nodup _ _)).mpr fun R => ?_) _
  · have hx := zr_mem.mp hx
    have hy := zr_mem.mp hy
    have h1 := (beg_row o hx.1 hx.2).1
    have h2 := (beg_row o hy.1 hy.2).1
    rw [e, h2] at h1
    have e2 : (begR r x - r.by' + 0) % r.small = (begR r y - r.by' + 0) % r.small := by rw [h1]
    rw [beg_sub o (by omega) hx.2, beg_sub o (by omega) hy.2, Int.add_zero, Int.add_zero, Int.emod_eq_of_lt (by omega) hx.2, Int.emod_eq_of_lt (by omega) hy.2] at e2
    exact e2
  · rw [List.mem_map]
    constructor
    · rintro ⟨e, he, rfl⟩
      exact zr_mem.mpr (end_bounds o _)
    · intro hR
      have hR := zr_mem.mp hR
      have bl := (back_least o R).hit
      have sb := (o.steps_back_b R).1
      have pe : (placeAt r R 0 - r.by') % r.small = (R - r.by' + (0 - r.by') * stepsBack r R) % r.small := by
        unfold placeAt
        have e1 : (R - r.by' * (stepsBack r R - 0)) % r.small - r.by' = (R - r.by' * (stepsBack r R - 0)) % r.small + (0 - r.by') := by omega
        rw [e1, Int.emod_add_emod]
        congr 1
        rw [Int.sub_mul, Int.zero_mul, Int.sub_zero]
        omega
      refine ⟨(placeAt r R 0 - r.by') % r.small, zr_mem.mpr ⟨by rw [pe]; exact bl.1, Int.emod_lt_of_pos _ s0⟩, ?_⟩
      have e3 : begR r ((placeAt r R 0 - r.by') % r.small) = placeAt r R 0 := by
        have pb := place_b o R 0
        unfold begR
        rw [Int.emod_add_emod]
        have : placeAt r R 0 - r.by' + r.by' = placeAt r R 0 := by omega
        rw [this, Int.emod_eq_of_lt pb.1 pb.2]
      rw [e3]
      exact end_place o (Int.le_refl _) sb hR.1 hR.2
/-- the end ahead of a row, by any of its places -/
theorem prev_at {e i : Int} (h0 : r.bound ≤ e) (h1 : e < r.small) (i0 : 0 ≤ i) (i1 : i ≤ stepsOn r (begR r e)) : prevEnd r ((begR r e + r.by' * i) % r.small) = e := by
  have b0 := o.b0
  have s0 := small_pos o
  have ol := on_least o (begR r e)
  have val : ∀ y, ((begR r e + r.by' * i) % r.small - r.by' + (0 - r.by') * y) % r.small = (begR r e - r.by' + r.by' * (i - y)) % r.small := fun y => by
    have e1 : (begR r e + r.by' * i) % r.small - r.by' + (0 - r.by') * y = (begR r e + r.by' * i) % r.small + ((0 - r.by') * y - r.by') := by omega
    rw [e1, Int.emod_add_emod]
    congr 1
    rw [Int.sub_mul, Int.zero_mul, Int.mul_sub]
    omega
  have fin : (begR r e - r.by' + r.by' * (i - i)) % r.small = e := by
    have : i - i = 0 := by omega
    rw [this, Int.mul_zero, beg_sub o (by omega) h1, Int.add_zero, Int.emod_eq_of_lt (by omega) h1]
  have sb : stepsBack r ((begR r e + r.by' * i) % r.small) = i := by
    refine stepsBack_eq ⟨i0, ?_, fun y g1 g2 => ?_⟩
    · rw [val, fin]
      omega
    · rw [val]
      have e1 : begR r e - r.by' + r.by' * (i - y) = begR r e + r.by' * (i - y - 1) := by
        rw [Int.mul_sub _ (i - y) 1, Int.mul_one]
        omega
      rw [e1]
      exact ol.least _ (by omega) (by omega)
  unfold prevEnd
  rw [sb]
  have e1 : (begR r e + r.by' * i) % r.small - r.by' - r.by' * i = (begR r e + r.by' * i) % r.small - r.by' + (0 - r.by') * i := by
    rw [Int.sub_mul, Int.zero_mul]
    omega
  rw [e1, val, fin]
section
variable {e room : Int} (hb : 0 < r.bound) (e0 : r.bound ≤ e) (e1 : e < r.small) (r1 : room ≤ r.small - 1 - e) (r2 : room ≤ r.small - 1 - (begR r e + r.by' * stepsOn r (begR r e)) % r.small)
  (r3 : ∀ i, 0 ≤ i → i < stepsOn r (begR r e) → (begR r e + r.by' * i) % r.small + room ≤ r.bound - 1)
include hb e0 e1 r1 r2 r3
theorem group {j : Int} (j0 : 0 ≤ j) (j1 : j ≤ room) : begR r (e + j) = begR r e + j ∧ stepsOn r (begR r e + j) = stepsOn r (begR r e) ∧ hangF r (begR r e + j) (stepsOn r (begR r e) + 1) = hangF r (begR r e) (stepsOn r (begR r e) + 1) := by
  have bs := o.bs
  have sp := o.sh_pos
  have s0 := small_pos o
  have bb := beg_b o e
  have ol := on_least o (begR r e)
  have so := (o.steps_on_b (begR r e)).1
  have y0 := o.by0
  have y1 := o.byS
  have bj : begR r e + j < r.small := by
    by_cases c : stepsOn r (begR r e) = 0
    · rw [c, Int.mul_zero, Int.add_zero, Int.emod_eq_of_lt bb.1 bb.2] at r2
      omega
    · have := r3 0 (Int.le_refl _) (by omega)
      rw [Int.mul_zero, Int.add_zero, Int.emod_eq_of_lt bb.1 bb.2] at this
      omega
  have val : ∀ y, (begR r e + j + r.by' * y) % r.small = ((begR r e + r.by' * y) % r.small + j) % r.small := fun y => by
    rw [Int.emod_add_emod]
    congr 1
    omega
  have vb : ∀ y, 0 ≤ (begR r e + r.by' * y) % r.small ∧ (begR r e + r.by' * y) % r.small < r.small := fun y => ⟨Int.emod_nonneg _ (by omega), Int.emod_lt_of_pos _ s0⟩
  refine ⟨?_, stepsOn_eq ⟨so, ?_, fun y g1 g2 => ?_⟩, ?_⟩
  · unfold begR at bj bb ⊢
    have : e + j + r.by' = e + r.by' + j := by omega
    rw [this, ← Int.emod_add_emod]
    exact Int.emod_eq_of_lt (by omega) bj
  · rw [val]
    have h := ol.hit
    have v := vb (stepsOn r (begR r e))
    rw [Int.emod_eq_of_lt (by omega) (by omega)]
    omega
  · rw [val]
    have h := r3 y g1 g2
    have v := vb y
    rw [Int.emod_eq_of_lt (by omega) (by omega)]
    omega
  · unfold hangF wrapsF
    have e2 : stepsOn r (begR r e) + 1 - 1 = stepsOn r (begR r e) := by omega
    have nz : ¬ stepsOn r (begR r e) + 1 = 0 := by omega
    have bz : ¬ r.bound = 0 := by omega
    rw [if_neg bz, if_neg bz, if_neg nz, if_neg nz, e2]
    have d := Int.emod_add_mul_ediv (begR r e + r.by' * stepsOn r (begR r e)) r.small
    have v := vb (stepsOn r (begR r e))
    have q : (begR r e + j + r.by' * stepsOn r (begR r e)) / r.small = (begR r e + r.by' * stepsOn r (begR r e)) / r.small := by
      have e3 : begR r e + j + r.by' * stepsOn r (begR r e) = ((begR r e + r.by' * stepsOn r (begR r e)) % r.small + j) + r.small * ((begR r e + r.by' * stepsOn r (begR r e)) / r.small) := by omega
      rw [e3, Int.add_mul_ediv_left _ _ (by omega : r.small ≠ 0), Int.ediv_eq_zero_of_lt (by omega) (by omega), Int.zero_add]
    rw [q]
    have w : begR r e + j < r.by' ↔ begR r e < r.by' := by
      by_cases c : e + r.by' < r.small
      · have : begR r e = e + r.by' := by
          unfold begR
          exact Int.emod_eq_of_lt (by omega) c
        omega
      · have : begR r e = e + r.by' - r.small := by
          unfold begR
          have e4 : e + r.by' = (e + r.by' - r.small) + r.small * 1 := by omega
          rw [e4, Int.add_mul_emod_self_left, Int.emod_eq_of_lt (by omega) (by omega)]
          omega
        omega
    by_cases c : begR r e < r.by'
    · rw [if_pos c, if_pos (w.mpr c)]
    · rw [if_neg c, if_neg fun z => c (w.mp z)]
theorem group_sum (r0 : 0 ≤ room) : sm (zr e (e + room + 1)) (kR r) = (stepsOn r (begR r e) + 1) * hangF r (begR r e) (stepsOn r (begR r e) + 1) * (room + 1) := by
  have h : sm (zr e (e + room + 1)) (kR r) = sm (zr e (e + room + 1)) fun _ => kR r e := by
    refine sm_congr fun x hx => ?_
    have hx := zr_mem.mp hx
    obtain ⟨g1, g2, g3⟩ := group o hb e0 e1 r1 r2 r3 (j := x - e) (by omega) (by omega)
    have ex : e + (x - e) = x := by omega
    rw [ex] at g1
    unfold kR
    rw [g1, g2, g3]
  rw [h, sm_const, zr_len, Int.mul_comm]
  have : (((e + room + 1 - e).toNat : Nat) : Int) = room + 1 := by omega
  rw [this]
  rfl
/-- where a kind ends -/
theorem group_fin (r0 : 0 ≤ room) (hf : room = r.small - 1 - e ∨ room = r.small - 1 - (begR r e + r.by' * stepsOn r (begR r e)) % r.small ∨ (∃ i, 0 ≤ i ∧ i < stepsOn r (begR r e) ∧ room = r.bound - 1 - (begR r e + r.by' * i) % r.small)) :
    e + room ∈ [r.small - 1, prevEnd r (r.small - 1), prevEnd r (r.bound - 1)] := by
  have s0 := small_pos o
  have bs := o.bs
  have sp := o.sh_pos
  obtain ⟨g1, g2, g3⟩ := group o hb e0 e1 r1 r2 r3 (j := room) r0 (Int.le_refl _)
  have val : ∀ y, (begR r e + room + r.by' * y) % r.small = ((begR r e + r.by' * y) % r.small + room) % r.small := fun y => by
    rw [Int.emod_add_emod]
    congr 1
    omega
  have vb : ∀ y, 0 ≤ (begR r e + r.by' * y) % r.small ∧ (begR r e + r.by' * y) % r.small < r.small := fun y => ⟨Int.emod_nonneg _ (by omega), Int.emod_lt_of_pos _ s0⟩
  have so := (o.steps_on_b (begR r e)).1
  rcases hf with h | h | ⟨i, i0, i1, h⟩
  · have : e + room = r.small - 1 := by omega
    rw [this]
    exact List.mem_cons_self
  · have v := vb (stepsOn r (begR r e))
    have p := prev_at o (e := e + room) (i := stepsOn r (begR r e)) (by omega) (by omega) so (by rw [g1, g2]; exact Int.le_refl _)
    rw [g1, val, Int.emod_eq_of_lt (by omega) (by omega)] at p
    have : (begR r e + r.by' * stepsOn r (begR r e)) % r.small + room = r.small - 1 := by omega
    rw [this] at p
    rw [← p]
    exact List.mem_cons_of_mem _ List.mem_cons_self
  · have v := vb i
    have p := prev_at o (e := e + room) (i := i) (by omega) (by omega) i0 (by rw [g1, g2]; omega)
    rw [g1, val, Int.emod_eq_of_lt (by omega) (by omega)] at p
    have : (begR r e + r.by' * i) % r.small + room = r.bound - 1 := by omega
    rw [this] at p
    rw [← p]
    exact List.mem_cons_of_mem _ (List.mem_cons_of_mem _ List.mem_cons_self)
end
end
end Bm
/-! How many beats of a round are sure: pairs of a place and a cup of one lot. -/
namespace Bm
/-- the pairs -/
noncomputable def pairsH (r : RowsD) (H : Int → Int) : Int := sm (zr 0 r.small) fun p => sm (zr 0 r.great) fun c => if H (gName r c) = H (endOf r p) then 1 else 0
/-- the names of a lot, by its head -/
noncomputable def lotH (T : Eld) (h : Int) : List Int := h :: (eks T).filter fun m => decide (headOf T m = h)
/-- as the program counts -/
noncomputable def countH (r : RowsD) (T : Eld) (HS : List Int) : Int := sm (zr r.bound r.small) (fun R => longR r R * hangR r R) + sm HS fun h => sm (lotH T h) (longN r) * sm (lotH T h) (hangN r) - sm (lotH T h) fun n => longN r n * hangN r n
section
variable {r : RowsD} (o : RowsOk r) {ss : List Int}
include o
theorem key_name {k : Int} (hk : k ∈ eks (tiesE r ss)) : IsName r k ∧ IsName r (headOf (tiesE r ss) k) := by
  have g := tiesE_good r ss
  have hn := headOf_not g k
  have hh := headOf_self g hn
  have c := (ties_conn r ss k (headOf (tiesE r ss) k)).mp hh.symm
  rcases conn_name o c with z | z
  · exact absurd (z ▸ hk) hn
  · exact z
theorem count_pairs {HS : List Int} (hn : HS.Nodup) (hm : ∀ h, h ∈ HS ↔ ∃ k ∈ eks (tiesE r ss), headOf (tiesE r ss) k = h) : countH r (tiesE r ss) HS = pairsH r (headOf (tiesE r ss)) := by
  have g := tiesE_good r ss
  have kn := fun {k : Int} (hk : k ∈ eks (tiesE r ss)) => key_name o hk
  generalize tiesE r ss = T at g hm kn ⊢
  have alone : ∀ m, headOf T m ∉ HS → m ∉ eks T := fun m h z => h ((hm _).mpr ⟨m, z, rfl⟩)
  -- the lot's names
  have lp : ∀ h ∈ HS, (lotH T h).Perm ((namesL r).filter fun m => decide (headOf T m = h)) := by
    intro h hh
    obtain ⟨k, hk, ek⟩ := (hm h).mp hh
    have hno : h ∉ eks T := ek ▸ headOf_not g k
    have hself : headOf T h = h := headOf_self g hno
    refine (List.perm_ext_iff_of_nodup (List.nodup_cons.mpr ⟨fun z => hno (List.mem_filter.mp z).1, (goodE_nodup g).filter _⟩) ((namesL_nodup o).filter _)).mpr fun m => ?_
    rw [List.mem_filter, namesL_mem o]
    constructor
    · intro z
      rcases List.mem_cons.mp z with z | z
      · subst z
        exact ⟨ek ▸ (kn hk).2, decide_eq_true hself⟩
      · have z := List.mem_filter.mp z
        exact ⟨(kn z.1).1, z.2⟩
    · rintro ⟨z1, z2⟩
      by_cases c : m ∈ eks T
      · exact List.mem_cons_of_mem _ (List.mem_filter.mpr ⟨c, z2⟩)
      · have := of_decide_eq_true z2
        rw [headOf_self g c] at this
        rw [this]
        exact List.mem_cons_self
  have ls : ∀ h ∈ HS, ∀ f : Int → Int, sm (lotH T h) f = sm (namesL r) fun m => if headOf T m = h then f m else 0 := fun h hh f => by
    rw [sm_perm (lp h hh) f, sm_filter (namesL r) (fun m => headOf T m = h) f]
  -- cups of a head
  have gg : ∀ h, (sm (zr 0 r.great) fun c => if headOf T (gName r c) = h then 1 else 0) = sm (namesL r) fun m => if headOf T m = h then hangN r m else 0 := fun h => by
    rw [sum_great o fun n => if headOf T n = h then 1 else 0]
    refine sm_congr fun m _ => ?_
    by_cases c : headOf T m = h
    · rw [if_pos c, if_pos c, Int.mul_one]
    · rw [if_neg c, if_neg c, Int.mul_zero]
  have e1 : pairsH r (headOf T) = sm (namesL r) fun m => longN r m * sm (namesL r) fun n => if headOf T n = headOf T m then hangN r n else 0 := by
    unfold pairsH
    rw [← sum_small o fun m => sm (namesL r) fun n => if headOf T n = headOf T m then hangN r n else 0]
    exact sm_congr fun p _ => gg _
  -- by heads
  have e2 : (sm (namesL r) fun m => longN r m * sm (namesL r) fun n => if headOf T n = headOf T m then hangN r n else 0) =
      sm (namesL r) fun m => longN r m * hangN r m + sm HS fun h => if headOf T m = h then longN r m * ((sm (namesL r) fun n => if headOf T n = h then hangN r n else 0) - hangN r m) else 0 := by
    refine sm_congr fun m hmn => ?_
    by_cases c : headOf T m ∈ HS
    · rw [sm_single hn c fun h => longN r m * ((sm (namesL r) fun n => if headOf T n = h then hangN r n else 0) - hangN r m)]
      rw [Int.mul_sub]
      omega
    · have z : (sm HS fun h => if headOf T m = h then longN r m * ((sm (namesL r) fun n => if headOf T n = h then hangN r n else 0) - hangN r m) else 0) = 0 := by
        refine sm_zero fun h hh => ?_
        rw [if_neg (fun e : headOf T m = h => c (e ▸ hh))]
      rw [z, Int.add_zero]
      congr 1
      have mm := headOf_self g (alone m c)
      rw [← sm_single (namesL_nodup o) hmn (hangN r)]
      refine sm_congr fun n hn' => ?_
      by_cases d : headOf T n = headOf T m
      · have nn := headOf_self g (alone n (d ▸ c))
        have : m = n := by rw [← mm, ← d, nn]
        rw [if_pos d, if_pos this]
      · have : ¬ m = n := fun z => d (by rw [z])
        rw [if_neg d, if_neg this]
  rw [e1, e2, sm_add]
  unfold countH
  congr 1
  · unfold namesL
    rw [sm_app, sm_map, sm_zero (l := zr r.hung r.great) fun c hc => ?_, Int.add_zero]
    · refine sm_congr fun R hR => ?_
      have hR := zr_mem.mp hR
      have b0 := o.b0
      unfold longN hangN
      rw [if_pos (by omega), if_pos (by omega)]
    · have hc := zr_mem.mp hc
      have h0 := o.h0
      unfold longN
      rw [if_neg (by omega), Int.zero_mul]
  · rw [sm_comm]
    refine sm_congr fun h hh => ?_
    rw [ls h hh, ls h hh, ls h hh, ← sm_mulr, ← sm_sub]
    refine sm_congr fun m _ => ?_
    by_cases c : headOf T m = h
    · rw [if_pos c, if_pos c, if_pos c, Int.mul_sub]
    · rw [if_neg c, if_neg c, if_neg c, Int.zero_mul, Int.sub_zero]
theorem gN {c : Int} (h1 : c < r.great) : IsName r (gName r c) := gName_name o h1
theorem pairs_full (F : FullT r ss) : pairsH r (headOf (tiesE r ss)) = r.small * (r.great / r.shared) := by
  have s0 := small_pos o
  have sp := o.sh_pos
  have sg := o.sg
  have e : pairsH r (headOf (tiesE r ss)) = sm (zr 0 r.small) fun _ => r.great / r.shared := by
    unfold pairsH
    refine sm_congr fun p hp => ?_
    have q0 := Int.emod_nonneg p (by omega : r.shared ≠ 0)
    have q1 := Int.emod_lt_of_pos p sp
    have h := cnt_mod sp q0 q1 r.great.toNat
    have e : ((r.great.toNat : Nat) : Int) = r.great := by omega
    rw [e, Int.emod_eq_zero_of_dvd o.sh_great, if_neg (by omega), Int.add_zero] at h
    rw [← h]
    unfold cnt
    refine sm_congr fun c hc => ?_
    have hc := zr_mem.mp hc
    have z : headOf (tiesE r ss) (gName r c) = headOf (tiesE r ss) (endOf r p) ↔ c % r.shared = p % r.shared := by
      rw [ties_conn, full_iff o F (gName_name o hc.2) (end_name o p), gName_nres o hc.1, end_nres o]
    by_cases d : c % r.shared = p % r.shared
    · rw [if_pos d, if_pos (z.mpr d)]
    · rw [if_neg d, if_neg fun w => d (z.mp w)]
  rw [e, sm_const, zr_len]
  have : (((r.small - 0).toNat : Nat) : Int) = r.small := by omega
  rw [this]
theorem pairs_less {ss' : List Int} (h : ∀ a b, Conn (IsLink r ss) a b → Conn (IsLink r ss') a b) {t : Int} (h1 : ¬ Conn (IsLink r ss) (rowS r t) (rowG r t)) (h2 : Conn (IsLink r ss') (rowS r t) (rowG r t)) :
    pairsH r (headOf (tiesE r ss)) < pairsH r (headOf (tiesE r ss')) := by
  have s0 := small_pos o
  have sg := o.sg
  have tm : ∀ p c, (if headOf (tiesE r ss) (gName r c) = headOf (tiesE r ss) (endOf r p) then (1 : Int) else 0) ≤ if headOf (tiesE r ss') (gName r c) = headOf (tiesE r ss') (endOf r p) then 1 else 0 := fun p c => by
    by_cases d : headOf (tiesE r ss) (gName r c) = headOf (tiesE r ss) (endOf r p)
    · rw [if_pos d, if_pos ((ties_conn _ _ _ _).mpr (h _ _ ((ties_conn _ _ _ _).mp d)))]
      exact Int.le_refl _
    · rw [if_neg d]
      split
      · decide
      · exact Int.le_refl _
  unfold pairsH
  refine sm_lt (fun p _ => sm_le fun c _ => tm p c) (a := t % r.small) (zr_mem.mpr ⟨Int.emod_nonneg _ (by omega), Int.emod_lt_of_pos _ s0⟩) ?_
  refine sm_lt (fun c _ => tm _ c) (a := t % r.great) (zr_mem.mpr ⟨Int.emod_nonneg _ (by omega), Int.emod_lt_of_pos _ (by omega)⟩) ?_
  have e1 : endOf r (t % r.small) = rowS r t := rfl
  rw [e1, ← rowG_g]
  rw [if_neg fun z => h1 ((ties_conn _ _ _ _).mp z.symm), if_pos ((ties_conn _ _ _ _).mpr h2).symm]
  decide
end
end Bm
/-! Kinds where no place leads on; a round. -/
namespace Bm
section
variable {r : RowsD} (o : RowsOk r)
include o
theorem kinds0 (hb : r.bound = 0) : 1 * hangF r 0 1 * (r.hung % r.small) + 1 * hangF r (r.hung % r.small) 1 * (r.small - r.hung % r.small) = sm (zr r.bound r.small) fun R => longR r R * hangR r R := by
  have s0 := small_pos o
  have c0 := Int.emod_nonneg r.hung (by omega : r.small ≠ 0)
  have c1 := Int.emod_lt_of_pos r.hung s0
  have val : ∀ R, 0 ≤ R → R < r.small → longR r R * hangR r R = r.hung / r.small + if R < r.hung % r.small then 1 else 0 := fun R h0 h1 => by
    have z : stepsBack r R = 0 := stepsBack_0 o hb R
    have pz : placeAt r R 0 = R := by
      unfold placeAt
      rw [z, Int.sub_zero, Int.mul_zero, Int.sub_zero]
      exact Int.emod_eq_of_lt h0 h1
    unfold hangR longR hangF
    rw [if_pos hb, z, pz]
    by_cases c : R < r.hung % r.small
    · rw [if_pos c, if_pos ⟨by decide, c⟩]
      omega
    · rw [if_neg c, if_neg fun z => c z.2]
      omega
  rw [hb, zr_app c0 (by omega : r.hung % r.small ≤ r.small), sm_app]
  have a1 : sm (zr 0 (r.hung % r.small)) (fun R => longR r R * hangR r R) = (r.hung % r.small) * (r.hung / r.small + 1) := by
    rw [sm_congr (g := fun _ => r.hung / r.small + 1) fun R hR => ?_, sm_const, zr_len]
    · have : (((r.hung % r.small - 0).toNat : Nat) : Int) = r.hung % r.small := by omega
      rw [this]
    · have hR := zr_mem.mp hR
      rw [val R hR.1 (by omega), if_pos hR.2]
  have a2 : sm (zr (r.hung % r.small) r.small) (fun R => longR r R * hangR r R) = (r.small - r.hung % r.small) * (r.hung / r.small) := by
    rw [sm_congr (g := fun _ => r.hung / r.small) fun R hR => ?_, sm_const, zr_len]
    · have : (((r.small - r.hung % r.small).toNat : Nat) : Int) = r.small - r.hung % r.small := by omega
      rw [this]
    · have hR := zr_mem.mp hR
      rw [val R (by omega) hR.2, if_neg (by omega), Int.add_zero]
  rw [a1, a2]
  have h2 : hangF r (r.hung % r.small) 1 = r.hung / r.small := by
    unfold hangF
    rw [if_pos hb, if_neg fun z => by omega]
    omega
  rw [h2]
  by_cases c : r.hung % r.small = 0
  · rw [c, Int.mul_zero, Int.zero_mul, Int.one_mul, Int.mul_comm]
  · have h1 : hangF r 0 1 = r.hung / r.small + 1 := by
      unfold hangF
      rw [if_pos hb, if_pos ⟨by decide, by omega⟩]
      omega
    rw [h1, Int.one_mul, Int.one_mul, Int.mul_comm, Int.mul_comm (r.hung / r.small)]
end
end Bm
/-! Bounds of what is counted. -/
namespace Bm
section
variable {r : RowsD} (o : RowsOk r)
include o
theorem hangF_b {b k : Int} (b0 : 0 ≤ b) (b1 : b ≤ r.small) (k0 : 0 ≤ k) (k1 : k ≤ r.small) : 0 ≤ hangF r b k ∧ hangF r b k ≤ 3 * 10 ^ 30 := by
  have s0 := small_pos o
  have sg := o.sg
  have gB := o.gB
  have u0 := o.h0
  have ug := o.hg
  have y0 := o.by0
  have y1 := o.byS
  have q0 : 0 ≤ r.hung / r.small := Int.ediv_nonneg u0 (by omega)
  have q1 : r.small * (r.hung / r.small) ≤ r.hung := Int.mul_ediv_self_le (by omega)
  have q2 : k * (r.hung / r.small) ≤ r.small * (r.hung / r.small) := Int.mul_le_mul_of_nonneg_right k1 q0
  have q3 := Int.mul_nonneg k0 q0
  unfold hangF
  by_cases c : r.bound = 0
  · rw [if_pos c]
    split <;> omega
  · rw [if_neg c]
    unfold wrapsF
    by_cases d : k = 0
    · rw [if_pos d]
      omega
    · rw [if_neg d]
      have m0 := Int.mul_nonneg y0 (by omega : 0 ≤ k - 1)
      have m1 : r.by' * (k - 1) ≤ r.small * (k - 1) := Int.mul_le_mul_of_nonneg_right (by omega) (by omega)
      have e1 : r.small * (k - 1) = r.small * k - r.small := by rw [Int.mul_sub, Int.mul_one]
      have e2 : (k + 1) * r.small = r.small * k + r.small := by rw [Int.add_mul, Int.one_mul, Int.mul_comm]
      have w0 : 0 ≤ (b + r.by' * (k - 1)) / r.small := Int.ediv_nonneg (by omega) (by omega)
      have w1 : (b + r.by' * (k - 1)) / r.small < k + 1 := Int.ediv_lt_of_lt_mul s0 (by omega)
      split <;> omega
theorem longR_b (n : Int) : 1 ≤ longR r n ∧ longR r n ≤ r.small := by
  have := o.steps_back_b n
  unfold longR
  omega
theorem longN_b (n : Int) : 0 ≤ longN r n ∧ longN r n ≤ 10 ^ 30 := by
  have := longR_b o n
  have sg := o.sg
  have gB := o.gB
  unfold longN
  split <;> omega
theorem hangN_b (n : Int) : 0 ≤ hangN r n ∧ hangN r n ≤ 3 * 10 ^ 30 := by
  unfold hangN
  split
  · have pb := place_b o n 0
    have lb := longR_b o n
    exact hangF_b o pb.1 (by omega) (by omega) lb.2
  · omega
end
theorem sm_bd {l : List Int} {f : Int → Int} {B : Int} (h : ∀ x ∈ l, 0 ≤ f x ∧ f x ≤ B) : 0 ≤ sm l f ∧ sm l f ≤ (l.length : Int) * B := by
  refine ⟨sm_nonneg fun x hx => (h x hx).1, ?_⟩
  have := sm_le (l := l) (g := fun _ => B) fun x hx => (h x hx).2
  rw [sm_const] at this
  exact this
end Bm
/-! The stretch's own beats; beats that mend. -/
namespace Bm
section
variable {r : RowsD} (o : RowsOk r)
include o
theorem end_next {p : Int} (h0 : 0 ≤ p) (h1 : p < r.bound) : endOf r ((p + r.by') % r.small) = endOf r p := by
  have bs := o.bs
  have sp := o.sh_pos
  have eb := end_bounds o p
  have hj := (o.steps_back_b p).1
  have lt := back_lt o h0 h1
  have e := place_of o h0 (by omega : p < r.small)
  have n := place_next o (endOf r p) (stepsBack r p)
  rw [e] at n
  rw [n]
  exact end_place o (by omega) (by omega) eb.1 eb.2
/-- a written beat of the stretch ties nothing anew -/
theorem stretch_same {t : Int} (h : (0 ≤ t ∧ t < r.hung) ∨ (r.great ≤ t ∧ t < r.great + r.bound)) : rowS r t = rowG r t := by
  have s0 := o.s0
  have sg := o.sg
  have hg := o.hg
  have b0 := o.b0
  have bs := o.bs
  have sp := o.sh_pos
  rcases h with h | h
  · rw [rowG_g, Int.emod_eq_of_lt h.1 (by omega)]
    unfold gName
    rw [if_neg (by omega)]
    rfl
  · have hh := o.hb (by omega)
    have e1 : t % r.great = t - r.great := by
      have e : t = (t - r.great) + r.great * 1 := by omega
      rw [e, Int.add_mul_emod_self_left, Int.emod_eq_of_lt (by omega) (by omega)]
      omega
    have e2 : t % r.small = (t - r.great + r.by') % r.small := by
      rw [o.by_, Int.add_emod_emod]
      congr 1
      omega
    rw [rowG_g, e1]
    unfold gName
    rw [if_neg (by omega), Int.emod_eq_of_lt (by omega : 0 ≤ t - r.great) (by omega)]
    show endOf r (t % r.small) = _
    rw [e2]
    exact end_next o (by omega) (by omega)
end
/-- beats that mend a book -/
structure MendOk (r : RowsD) (ss : List Int) (lo hi : Int) (F : List Int) : Prop where
  sub : ∀ x ∈ F, lo ≤ x ∧ x < hi
  nd : F.Nodup
  rk : (tiesE r (ss ++ F)).length = (tiesE r ss).length + F.length
  all : ∀ t, lo ≤ t → t < hi → Conn (IsLink r (ss ++ F)) (rowS r t) (rowG r t)
theorem MendOk.nil {r : RowsD} {ss : List Int} {lo : Int} : MendOk r ss lo lo [] := ⟨fun x hx => (by cases hx), List.nodup_nil, by rw [List.append_nil]; rfl, fun t h0 h1 => by omega⟩
theorem MendOk.skip {r : RowsD} {ss : List Int} {lo hi : Int} {F : List Int} (m : MendOk r ss lo hi F) (h : Conn (IsLink r (ss ++ F)) (rowS r hi) (rowG r hi)) : MendOk r ss lo (hi + 1) F :=
  ⟨fun x hx => by have := m.sub x hx; omega, m.nd, m.rk, fun t h0 h1 => by
    rcases Int.lt_or_le t hi with c | c
    · exact m.all t h0 c
    · have : t = hi := by omega
      rw [this]
      exact h⟩
theorem MendOk.put {r : RowsD} {ss : List Int} {lo hi : Int} {F : List Int} (m : MendOk r ss lo hi F) (hl : lo ≤ hi) (h : ¬ Conn (IsLink r (ss ++ F)) (rowS r hi) (rowG r hi)) : MendOk r ss lo (hi + 1) (F ++ [hi]) := by
  refine ⟨fun x hx => ?_, List.nodup_append.mpr ⟨m.nd, by simp, fun a ha b hb e => ?_⟩, ?_, fun t h0 h1 => ?_⟩
  · rcases List.mem_append.mp hx with z | z
    · have := m.sub x z
      omega
    · rw [List.mem_singleton.mp z]
      omega
  · have := m.sub a ha
    rw [List.mem_singleton.mp hb] at e
    omega
  · rw [← List.append_assoc, rank_out h, m.rk, List.length_append]
    rfl
  · rw [← List.append_assoc]
    rcases Int.lt_or_le t hi with c | c
    · exact (m.all t h0 c).sub fun x hx => List.mem_append_left _ hx
    · have : t = hi := by omega
      rw [this]
      exact Conn.edge (List.mem_append_right _ (List.mem_singleton.mpr rfl))
theorem MendOk.full {r : RowsD} (o : RowsOk r) {ss : List Int} {lo : Int} {F : List Int} (hlo : ∀ t, 0 ≤ t → t < lo → (0 ≤ t ∧ t < r.hung) ∨ (r.great ≤ t ∧ t < r.great + r.bound)) (m : MendOk r ss lo (r.small + r.great - r.shared) F) : FullT r (ss ++ F) := fun t h0 h1 => by
  rcases Int.lt_or_le t lo with c | c
  · rw [stretch_same o (hlo t h0 c)]
    exact .refl _
  · exact m.all t c h1
theorem MendOk.count {r : RowsD} (o : RowsOk r) {ss : List Int} {lo : Int} {F : List Int} (hlo : ∀ t, 0 ≤ t → t < lo → (0 ≤ t ∧ t < r.hung) ∨ (r.great ≤ t ∧ t < r.great + r.bound)) (m : MendOk r ss lo (r.small + r.great - r.shared) F) :
    r.small - r.bound + (r.great - r.hung) - ((tiesE r ss).length : Nat) - r.shared = (F.length : Int) := by
  have h := full_rank o (m.full o hlo)
  rw [m.rk] at h
  omega
end Bm
/-! Words of our own over the layer: a def as it may be called (Cal), calls by it. -/
namespace Bt
open PySem PySem.Spec PyProof.Rows L2
/-- a def at f that may be called: what it promises, how its arguments bind -/
structure Cal (P : Program) (w : World) (K : PySem.W.Frag) (mg : Str → Option Value) (base : Heap) (k : Nat) (f : Addr) (ps : List Str) (sp : Sp) : Prop where
  ex : ∃ fd : FuncData, FnOk P w K mg base CX0 k f fd ps sp ∧ Binds K fd ps []
  kp : PySem.W.keepIn K (.ref f) = true
section
variable {P : Program} {w : World} {K : PySem.W.Frag} {mg : Str → Option Value} {base : Heap} {x qual : Str} {params : Arguments} {body : List Stmt} {scope : Scope} {f : Addr} {fd : FuncData}
theorem mkCal {N ps : List Str} {k : Nat} {sp : Sp} (F : FunD K x qual params body scope [] [] f fd) (S : FnScope N ps scope)
    (hb : ∀ (kV doc pm : Value) (an : Option Addr) (cdv ct : Value) (us : List Value), us.length = ps.length → bindArgs (PySem.W.fnOf x qual params body scope .none kV doc pm an cdv ct) ⟨us, []⟩ = pure (ps.zip us))
    (len : ∀ vs H Q E, sp vs H Q E → vs.length = ps.length)
    (hbody : ∀ (cdv : Value) (A : Around) (outer : List Env) (s : Shared) (H : Hp) (vs : List V) (Q : VK) (E : XK), Room k (A.deeper (envOfC qual scope s.heap.objs.size f cdv)) → sp vs H Q E →
      ∃ t, PSs (cxOf CX0 P w K mg base N qual scope f cdv A outer s H E).nox body t ∧ t { nx := fun _ H' => Q .non H', rt := Q } (start N vs) H) : Cal P w K mg base (k + 1) f ps sp := by
  refine ⟨⟨fd, F.ok S len fun cdv A outer s H vs Q E hr h => ?_, F.bindsN hb⟩, F.kp⟩
  obtain ⟨t, h1, h2⟩ := hbody cdv A outer s H vs Q E hr h
  exact ⟨t, h1.nox, h2⟩
theorem Cal.imp {ps : List Str} {k : Nat} {sp sp' : Sp} (c : Cal P w K mg base k f ps sp) (h : ∀ vs H Q E, sp' vs H Q E → sp vs H Q E) : Cal P w K mg base k f ps sp' := by
  obtain ⟨⟨fd, F, b⟩, kp⟩ := c
  exact ⟨⟨fd, F.imp h, b⟩, kp⟩
theorem Cal.mono {ps : List Str} {j k : Nat} {sp : Sp} (c : Cal P w K mg base j f ps sp) (h : j ≤ k) : Cal P w K mg base k f ps sp := by
  obtain ⟨⟨fd, F, b⟩, kp⟩ := c
  exact ⟨⟨fd, F.mono h, b⟩, kp⟩
end
section
variable {X : Cx} {k : Nat} {f C : Addr} {ps : List Str} {sp : Sp} {x m : Str} {p pos apos : Pos} {e o : Expr} {es : List Expr} {ta : TE} {t : TA}
theorem pe_c (c : Cal X.prog X.w X.K X.mg X.base k f ps sp) (hr : Room k X.A) (hm : X.mg x = some (.ref f)) (ha : PA X (e :: es) t) (hg : Gl X x := by rfl)
    (hdb : (x == ("__debug__" : Str)) = false := by decide) (he : starEach (e :: es) X.env = (false, eval e X.env) :: starEach es X.env := by rfl) (hpl : (backTo pos (starEach es X.env)).any (·.1) = false := by rfl) :
    PE X (.Call (.Name x p) (e :: es) [] pos) (tCall sp [] E0 t) := by
  obtain ⟨⟨fd, F, b⟩, kp⟩ := c
  exact pe_call F hr hg hm kp b .nil pass0 ha hdb he hpl
theorem pe_m {pl : Sem Bool} (c : Cal X.prog X.w X.K X.mg X.base k f ps sp) (hc : Cls X.K C) (hm : Meth X.K C m f) (hr : Room k X.A) (ho : PE X o ta) (ha : PA X (e :: es) t)
    (hst : starEach (e :: es) X.env = (false, eval e X.env) :: starEach es X.env := by rfl) (hpl : (backTo pos (starEach es X.env)).any (·.1) = false := by rfl)
    (ht : eval (.Call (.Attribute o m apos) (e :: es) [] pos) X.env = (do
      let ov ← eval o X.env
      standAt apos.atName
      let (f, first) ← holding [ov] (getMethod ov m pl)
      callWith pos f first (backTo pos (starEach (e :: es) X.env)) (backToKw pos (keywordEach [] X.env))) := by rfl) :
    PE X (.Call (.Attribute o m apos) (e :: es) [] pos) (tMeth C m sp [] E0 ta t) := by
  obtain ⟨⟨fd, F, b⟩, kp⟩ := c
  exact pe_meth ho hc hm F hr b .nil pass0 ha hst hpl ht
theorem pe_m0 {pl : Sem Bool} (c : Cal X.prog X.w X.K X.mg X.base k f ps sp) (hc : Cls X.K C) (hm : Meth X.K C m f) (hr : Room k X.A) (ho : PE X o ta)
    (ht : eval (.Call (.Attribute o m apos) [] [] pos) X.env = (do
      let ov ← eval o X.env
      standAt apos.atName
      let (f, first) ← holding [ov] (getMethod ov m pl)
      callWith pos f first (backTo pos (starEach [] X.env)) (backToKw pos (keywordEach [] X.env))) := by rfl) :
    PE X (.Call (.Attribute o m apos) [] [] pos) (tMeth C m sp [] E0 ta tNil) := by
  obtain ⟨⟨fd, F, b⟩, kp⟩ := c
  exact pe_meth0 ho hc hm F hr b .nil pass0 ht
theorem pe_mk (c : Cal X.prog X.w X.K X.mg X.base k f ps sp) (M : Mk X.K C f) (hr : Room (k + 1) X.A) (hm : X.mg x = some (.ref C)) (ha : PA X (e :: es) t) (hg : Gl X x := by rfl)
    (hdb : (x == ("__debug__" : Str)) = false := by decide) (he : starEach (e :: es) X.env = (false, eval e X.env) :: starEach es X.env := by rfl) (hpl : (backTo pos (starEach es X.env)).any (·.1) = false := by rfl) :
    PE X (.Call (.Name x p) (e :: es) [] pos) (tMake C sp [] E0 t) := by
  obtain ⟨⟨fd, F, b⟩, kp⟩ := c
  exact pe_make M F hr hg hm b .nil pass0 ha hdb he hpl
/-- a builtin as a value -/
theorem pe_ty {n : String} (hm : X.mg x = none) (hv : bootBuiltins x = some (.type n)) (hg : Gl X x := by rfl) (hn : x ≠ "__name__" := by decide) (hd : (x == ("__debug__" : Str)) = false := by decide) : PE X (.Name x pos) (tC (.ty n)) :=
  pe_bltn hg hm hv rfl hn hd
/-- a global int -/
theorem pe_gi {i : Int} (hm : ∃ t, X.mg x = some (.int i t)) (hg : Gl X x := by rfl) (hd : (x == ("__debug__" : Str)) = false := by decide) : PE X (.Name x pos) (tC (.int i)) := by
  obtain ⟨t, hm⟩ := hm
  exact pe_glob hg hm ⟨t, rfl⟩ hd
end
/-- a while by its invariant and measure; Rv: what the test gives, and the heap behind it -/
theorem while_byR {c : TT} {tb : TS} {D : Ends} {σ : L2.St} {H : Hp} (Pv : L2.St → Hp → Prop) (Rv : L2.St → Hp → Bool → Hp → Prop) (μ : L2.St → Hp → Nat) (h0 : Pv σ H)
    (hc : ∀ σ H Q, Pv σ H → (∀ b H1, Rv σ H b H1 → Q b H1) → c σ H Q)
    (ht : ∀ σ H H1, Pv σ H → Rv σ H true H1 → tb { D with nx := fun σ' H' => Pv σ' H' ∧ μ σ' H' < μ σ H, ct := fun σ' H' => Pv σ' H' ∧ μ σ' H' < μ σ H, bk := D.nx } σ H1)
    (hf : ∀ σ H H1, Pv σ H → Rv σ H false H1 → D.nx σ H1) : tWhile c tb D σ H := by
  refine ⟨fun m σ H => m = μ σ H ∧ Pv σ H, ⟨_, rfl, h0⟩, ?_⟩
  rintro m σ H ⟨rfl, p⟩
  refine hc σ H _ p fun b H1 r => ?_
  cases b with
  | true =>
    rw [if_pos rfl]
    exact ⟨_, fun σ' H' ⟨p', l⟩ => ⟨_, l, rfl, p'⟩, ht σ H H1 p r⟩
  | false =>
    rw [if_neg Bool.false_ne_true]
    exact hf σ H H1 p r
/-- .. where the test reads alone -/
theorem while_byB {c : TT} {tb : TS} {D : Ends} {σ : L2.St} {H : Hp} (Pv : L2.St → Hp → Prop) (β : L2.St → Hp → Bool) (μ : L2.St → Hp → Nat) (h0 : Pv σ H)
    (hc : ∀ σ H (Q : Bool → Hp → Prop), Pv σ H → Q (β σ H) H → c σ H Q)
    (ht : ∀ σ H, Pv σ H → β σ H = true → tb { D with nx := fun σ' H' => Pv σ' H' ∧ μ σ' H' < μ σ H, ct := fun σ' H' => Pv σ' H' ∧ μ σ' H' < μ σ H, bk := D.nx } σ H)
    (hf : ∀ σ H, Pv σ H → β σ H = false → D.nx σ H) : tWhile c tb D σ H :=
  while_byR Pv (fun σ H b H1 => b = β σ H ∧ H1 = H) μ h0 (fun σ H Q p q => hc σ H Q p (q _ _ ⟨rfl, rfl⟩)) (fun σ H H1 p ⟨e, e2⟩ => by
    subst e2
    exact ht σ H1 p e.symm) (fun σ H H1 p ⟨e, e2⟩ => by
    subst e2
    exact hf σ H1 p e.symm)
/-- for x in reversed(list) -/
theorem for_rev {K : PySem.W.Frag} {a : Addr} {xs : List V} {g : TG} {tb : TS} {D : Ends} {σ : L2.St} {H : Hp} (Pv : Nat → L2.St → Hp → Prop) (h0 : Pv 0 σ H) (hl : ∀ i σ H, i ≤ xs.length → Pv i σ H → SqL K H a xs)
    (hs : ∀ i x σ H, i < xs.length → xs[xs.length - 1 - i]? = some x → Pv i σ H → g x σ H fun σ2 H2 => tb { D with nx := Pv (i + 1), ct := Pv (i + 1), bk := D.nx } σ2 H2) (hd : ∀ σ H, Pv xs.length σ H → D.nx σ H) :
    ∃ W : Nat → Nat → L2.St → Hp → Prop, (∃ m, W 0 m σ H) ∧ ∀ i m σ H, W i m σ H →
      ((Itv K a xs.length).stop i H ∧ D.nx σ H) ∨ ((Itv K a xs.length).go i H ∧ ∃ N : L2.St → Hp → Prop, (∀ σ' H', N σ' H' → ∃ m', m' < m ∧ W (i + 1) m' σ' H') ∧ ∀ x H', (Itv K a xs.length).yld i H x H' → g x σ H' fun σ2 H2 => tb { D with nx := N, ct := N, bk := D.nx } σ2 H2) := by
  refine ⟨fun i m σ H => m = xs.length - i ∧ i ≤ xs.length ∧ Pv i σ H, ⟨xs.length, by simp, Nat.zero_le _, h0⟩, ?_⟩
  rintro i m σ H ⟨rfl, hi, p⟩
  have q := hl i σ H hi p
  by_cases hlt : i < xs.length
  · have hj : xs.length - 1 - i < xs.length := by omega
    refine .inr ⟨⟨hlt, xs, xs[xs.length - 1 - i], q, by simp [hj]⟩, Pv (i + 1), fun σ' H' p' => ⟨xs.length - (i + 1), by omega, rfl, hlt, p'⟩, fun x H' y => ?_⟩
    obtain ⟨e, y⟩ := y
    subst e
    exact hs i x σ _ hlt (y xs q) p
  · have e : i = xs.length := by omega
    subst e
    exact .inl ⟨Nat.le_refl _, hd σ H p⟩
theorem ite_tt {c : Bool} {A B : Prop} (hc : c = true) (h : A) : if c = true then A else B := by
  rw [if_pos hc]
  exact h
theorem ite_ff {c : Bool} {A B : Prop} (hc : c = false) (h : B) : if c = true then A else B := by
  rw [hc, if_neg Bool.false_ne_true]
  exact h
theorem snoc_or {α : Type} (l : List α) : l = [] ∨ ∃ t e, l = t ++ [e] := by
  rcases List.eq_nil_or_concat l with e | ⟨t, e, h⟩
  · exact .inl e
  · exact .inr ⟨t, e, by rw [h, List.concat_eq_append]⟩
theorem nat200 {i : Int} (h1 : -(2 ^ 200) < i) (h2 : i < 2 ^ 200) : i.natAbs < 2 ^ 200 := by
  have e : ((2 ^ 200 : Nat) : Int) = (2 : Int) ^ 200 := by norm_cast
  omega
theorem wmul {i j : Int} (h1 : -(2 ^ 200) < i) (h2 : i < 2 ^ 200) (h3 : -(2 ^ 200) < j) (h4 : j < 2 ^ 200) : CMulW i j := wide_mul (nat200 h1 h2) (nat200 h3 h4) (by decide) (by decide) (by decide)
theorem wdiv {i j : Int} (h3 : 0 < j) (h4 : j < 2 ^ 200) : CDivW i j := wide_div h3 (nat200 (by omega) h4) (by decide) (by decide)
theorem size16 : sizeLine = 16777216 := sizeLine_eq
/-- a statement, then the rest, with a word between them: what follows is shown once, from Mid -/
def tCut (t u : TS) : TS := fun D σ H => ∃ Mid : L2.St → Hp → Prop, t { D with nx := Mid } σ H ∧ ∀ σ' H', Mid σ' H' → u D σ' H'
theorem pss_cut {X : Cx} {st : Stmt} {rest : List Stmt} {t u : TS} (h1 : PS X st t) (h2 : PSs X rest u) : PSs X (st :: rest) (tCut t u) := by
  refine ⟨fun pins s σ H D I h => ?_⟩
  obtain ⟨Mid, hm, hu⟩ := h
  refine wpAny_execs_cons (thn (h1.run pins s σ H { D with nx := Mid } I hm) fun f s1 q => ?_)
  cases f with
  | next =>
    obtain ⟨σ', H', I', q⟩ := q
    exact h2.run pins s1 σ' H' D I' (hu σ' H' q)
  | ret v => exact q
  | brk => exact q
  | cont => exact q
/-- an expression, with a word behind it -/
def tCutE (t : TE) : TE := fun σ H Q => ∃ Mid : V → Hp → Prop, t σ H Mid ∧ ∀ v H', Mid v H' → Q v H'
theorem pe_cut {X : Cx} {e : Expr} {t : TE} (h : PE X e t) : PE X e (tCutE t) := ⟨fun pins s σ H Q I hw => by
  obtain ⟨Mid, hm, hu⟩ := hw
  exact thn (h.run pins s σ H Mid I hm) fun u s1 ⟨v, H', I', r, q⟩ => ⟨v, H', I', r, hu v H' q⟩⟩
theorem Same.upd1 {H H' : Hp} {p : Addr} {o : HO} (s : Same H H') (hp : H' p = none) : Same H (upd H' p o) := fun b u e => by
  rw [upd_ne (ne_of_none (s b u e) hp)]
  exact s b u e
theorem Same.new {H : Hp} {p : Addr} {o : HO} (hp : H p = none) : Same H (upd H p o) := Same.upd1 (Same.refl H) hp
theorem Same.seqT {K : PySem.W.Frag} {H H' : Hp} {a : Addr} {xs : List V} (e : Same H H') (h : SqT K H a xs) : SqT K H' a xs := by
  rcases h with (h | ⟨o, h⟩) | h
  · exact .inl (.inl (e _ _ h))
  · exact .inl (.inr ⟨o, e _ _ h⟩)
  · exact .inr h
end Bt
namespace Bt
open PySem PySem.Spec PyProof.Rows L2
theorem lenF {f : Str} {v : V} {fs : List (Str × V)} {n : Nat} (h : fs.length ≤ n) : (putF f v fs).length ≤ n + 1 := Nat.le_trans (length_putF f v fs) (Nat.succ_le_succ h)
theorem few {fs : List (Str × V)} {n : Nat} (h : fs.length ≤ n) (hn : n < 1000) : fs.length < 1000 := Nat.lt_of_le_of_lt h hn
theorem len0 : ([] : List (Str × V)).length ≤ 0 := Nat.le_refl 0
def F_Belts (a0 : Int) (a1 : Int) : List (Str × V) := putF "other" (.int a1) (putF "one" (.int a0) ([]))
theorem lk_Belts_one {a0 : Int} {a1 : Int} : (F_Belts a0 a1).lookup ("one" : Str) = some (.int a0) := by
  unfold F_Belts
  rw [lookup_putF, if_neg (by decide +kernel), lookup_putF, if_pos rfl]
theorem lk_Belts_other {a0 : Int} {a1 : Int} : (F_Belts a0 a1).lookup ("other" : Str) = some (.int a1) := by
  unfold F_Belts
  rw [lookup_putF, if_pos rfl]
theorem lk_Belts_no {a0 : Int} {a1 : Int} {m : Str} (h0 : ¬ m = "one") (h1 : ¬ m = "other") : (F_Belts a0 a1).lookup m = none := by
  unfold F_Belts
  rw [lookup_putF, if_neg h1, lookup_putF, if_neg h0]
  all_goals rfl
def F_Book (a0 : Addr) (a1 : Int) (a2 : Int) (a3 : Addr) : List (Str × V) := putF "singles" (.ref a3) (putF "many" (.int a2) (putF "begin" (.int a1) (putF "belts" (.ref a0) ([]))))
theorem lk_Book_belts {a0 : Addr} {a1 : Int} {a2 : Int} {a3 : Addr} : (F_Book a0 a1 a2 a3).lookup ("belts" : Str) = some (.ref a0) := by
  unfold F_Book
  rw [lookup_putF, if_neg (by decide +kernel), lookup_putF, if_neg (by decide +kernel), lookup_putF, if_neg (by decide +kernel), lookup_putF, if_pos rfl]
theorem lk_Book_begin {a0 : Addr} {a1 : Int} {a2 : Int} {a3 : Addr} : (F_Book a0 a1 a2 a3).lookup ("begin" : Str) = some (.int a1) := by
  unfold F_Book
  rw [lookup_putF, if_neg (by decide +kernel), lookup_putF, if_neg (by decide +kernel), lookup_putF, if_pos rfl]
theorem lk_Book_many {a0 : Addr} {a1 : Int} {a2 : Int} {a3 : Addr} : (F_Book a0 a1 a2 a3).lookup ("many" : Str) = some (.int a2) := by
  unfold F_Book
  rw [lookup_putF, if_neg (by decide +kernel), lookup_putF, if_pos rfl]
theorem lk_Book_singles {a0 : Addr} {a1 : Int} {a2 : Int} {a3 : Addr} : (F_Book a0 a1 a2 a3).lookup ("singles" : Str) = some (.ref a3) := by
  unfold F_Book
  rw [lookup_putF, if_pos rfl]
theorem lk_Book_no {a0 : Addr} {a1 : Int} {a2 : Int} {a3 : Addr} {m : Str} (h0 : ¬ m = "belts") (h1 : ¬ m = "begin") (h2 : ¬ m = "many") (h3 : ¬ m = "singles") : (F_Book a0 a1 a2 a3).lookup m = none := by
  unfold F_Book
  rw [lookup_putF, if_neg h3, lookup_putF, if_neg h2, lookup_putF, if_neg h1, lookup_putF, if_neg h0]
  all_goals rfl
def F_Rows (a0 : Int) (a1 : Int) (a2 : Int) (a3 : Int) (a4 : Int) (a5 : Int) : List (Str × V) := putF "hung" (.int a5) (putF "bound" (.int a4) (putF "by" (.int a3) (putF "shared" (.int a2) (putF "great" (.int a1) (putF "small" (.int a0) ([]))))))
theorem lk_Rows_small {a0 : Int} {a1 : Int} {a2 : Int} {a3 : Int} {a4 : Int} {a5 : Int} : (F_Rows a0 a1 a2 a3 a4 a5).lookup ("small" : Str) = some (.int a0) := by
  unfold F_Rows
  rw [lookup_putF, if_neg (by decide +kernel), lookup_putF, if_neg (by decide +kernel), lookup_putF, if_neg (by decide +kernel), lookup_putF, if_neg (by decide +kernel), lookup_putF, if_neg (by decide +kernel), lookup_putF, if_pos rfl]
theorem lk_Rows_great {a0 : Int} {a1 : Int} {a2 : Int} {a3 : Int} {a4 : Int} {a5 : Int} : (F_Rows a0 a1 a2 a3 a4 a5).lookup ("great" : Str) = some (.int a1) := by
  unfold F_Rows
  rw [lookup_putF, if_neg (by decide +kernel), lookup_putF, if_neg (by decide +kernel), lookup_putF, if_neg (by decide +kernel), lookup_putF, if_neg (by decide +kernel), lookup_putF, if_pos rfl]
theorem lk_Rows_shared {a0 : Int} {a1 : Int} {a2 : Int} {a3 : Int} {a4 : Int} {a5 : Int} : (F_Rows a0 a1 a2 a3 a4 a5).lookup ("shared" : Str) = some (.int a2) := by
  unfold F_Rows
  rw [lookup_putF, if_neg (by decide +kernel), lookup_putF, if_neg (by decide +kernel), lookup_putF, if_neg (by decide +kernel), lookup_putF, if_pos rfl]
theorem lk_Rows_by {a0 : Int} {a1 : Int} {a2 : Int} {a3 : Int} {a4 : Int} {a5 : Int} : (F_Rows a0 a1 a2 a3 a4 a5).lookup ("by" : Str) = some (.int a3) := by
  unfold F_Rows
  rw [lookup_putF, if_neg (by decide +kernel), lookup_putF, if_neg (by decide +kernel), lookup_putF, if_pos rfl]
theorem lk_Rows_bound {a0 : Int} {a1 : Int} {a2 : Int} {a3 : Int} {a4 : Int} {a5 : Int} : (F_Rows a0 a1 a2 a3 a4 a5).lookup ("bound" : Str) = some (.int a4) := by
  unfold F_Rows
  rw [lookup_putF, if_neg (by decide +kernel), lookup_putF, if_pos rfl]
theorem lk_Rows_hung {a0 : Int} {a1 : Int} {a2 : Int} {a3 : Int} {a4 : Int} {a5 : Int} : (F_Rows a0 a1 a2 a3 a4 a5).lookup ("hung" : Str) = some (.int a5) := by
  unfold F_Rows
  rw [lookup_putF, if_pos rfl]
theorem lk_Rows_no {a0 : Int} {a1 : Int} {a2 : Int} {a3 : Int} {a4 : Int} {a5 : Int} {m : Str} (h0 : ¬ m = "small") (h1 : ¬ m = "great") (h2 : ¬ m = "shared") (h3 : ¬ m = "by") (h4 : ¬ m = "bound") (h5 : ¬ m = "hung") : (F_Rows a0 a1 a2 a3 a4 a5).lookup m = none := by
  unfold F_Rows
  rw [lookup_putF, if_neg h5, lookup_putF, if_neg h4, lookup_putF, if_neg h3, lookup_putF, if_neg h2, lookup_putF, if_neg h1, lookup_putF, if_neg h0]
  all_goals rfl
def F_Net (a0 : Addr) (a1 : Int) (a2 : Addr) (a3 : Bool) : List (Str × V) := putF "is_turned" (.bl a3) (putF "singles" (.ref a2) (putF "begin" (.int a1) (putF "rows" (.ref a0) ([]))))
theorem lk_Net_rows {a0 : Addr} {a1 : Int} {a2 : Addr} {a3 : Bool} : (F_Net a0 a1 a2 a3).lookup ("rows" : Str) = some (.ref a0) := by
  unfold F_Net
  rw [lookup_putF, if_neg (by decide +kernel), lookup_putF, if_neg (by decide +kernel), lookup_putF, if_neg (by decide +kernel), lookup_putF, if_pos rfl]
theorem lk_Net_begin {a0 : Addr} {a1 : Int} {a2 : Addr} {a3 : Bool} : (F_Net a0 a1 a2 a3).lookup ("begin" : Str) = some (.int a1) := by
  unfold F_Net
  rw [lookup_putF, if_neg (by decide +kernel), lookup_putF, if_neg (by decide +kernel), lookup_putF, if_pos rfl]
theorem lk_Net_singles {a0 : Addr} {a1 : Int} {a2 : Addr} {a3 : Bool} : (F_Net a0 a1 a2 a3).lookup ("singles" : Str) = some (.ref a2) := by
  unfold F_Net
  rw [lookup_putF, if_neg (by decide +kernel), lookup_putF, if_pos rfl]
theorem lk_Net_is_turned {a0 : Addr} {a1 : Int} {a2 : Addr} {a3 : Bool} : (F_Net a0 a1 a2 a3).lookup ("is_turned" : Str) = some (.bl a3) := by
  unfold F_Net
  rw [lookup_putF, if_pos rfl]
theorem lk_Net_no {a0 : Addr} {a1 : Int} {a2 : Addr} {a3 : Bool} {m : Str} (h0 : ¬ m = "rows") (h1 : ¬ m = "begin") (h2 : ¬ m = "singles") (h3 : ¬ m = "is_turned") : (F_Net a0 a1 a2 a3).lookup m = none := by
  unfold F_Net
  rw [lookup_putF, if_neg h3, lookup_putF, if_neg h2, lookup_putF, if_neg h1, lookup_putF, if_neg h0]
  all_goals rfl
def F_Ties (a0 : Addr) (a1 : Int) (a2 : Addr) : List (Str × V) := putF "elder" (.ref a2) (putF "begin" (.int a1) (putF "rows" (.ref a0) ([])))
theorem lk_Ties_rows {a0 : Addr} {a1 : Int} {a2 : Addr} : (F_Ties a0 a1 a2).lookup ("rows" : Str) = some (.ref a0) := by
  unfold F_Ties
  rw [lookup_putF, if_neg (by decide +kernel), lookup_putF, if_neg (by decide +kernel), lookup_putF, if_pos rfl]
theorem lk_Ties_begin {a0 : Addr} {a1 : Int} {a2 : Addr} : (F_Ties a0 a1 a2).lookup ("begin" : Str) = some (.int a1) := by
  unfold F_Ties
  rw [lookup_putF, if_neg (by decide +kernel), lookup_putF, if_pos rfl]
theorem lk_Ties_elder {a0 : Addr} {a1 : Int} {a2 : Addr} : (F_Ties a0 a1 a2).lookup ("elder" : Str) = some (.ref a2) := by
  unfold F_Ties
  rw [lookup_putF, if_pos rfl]
theorem lk_Ties_no {a0 : Addr} {a1 : Int} {a2 : Addr} {m : Str} (h0 : ¬ m = "rows") (h1 : ¬ m = "begin") (h2 : ¬ m = "elder") : (F_Ties a0 a1 a2).lookup m = none := by
  unfold F_Ties
  rw [lookup_putF, if_neg h2, lookup_putF, if_neg h1, lookup_putF, if_neg h0]
  all_goals rfl
theorem lk_Rows_m_steps_on {a0 : Int} {a1 : Int} {a2 : Int} {a3 : Int} {a4 : Int} {a5 : Int} : (F_Rows a0 a1 a2 a3 a4 a5).lookup ("steps_on" : Str) = none := lk_Rows_no (by decide +kernel) (by decide +kernel) (by decide +kernel) (by decide +kernel) (by decide +kernel) (by decide +kernel)
theorem lk_Rows_m_steps_back {a0 : Int} {a1 : Int} {a2 : Int} {a3 : Int} {a4 : Int} {a5 : Int} : (F_Rows a0 a1 a2 a3 a4 a5).lookup ("steps_back" : Str) = none := lk_Rows_no (by decide +kernel) (by decide +kernel) (by decide +kernel) (by decide +kernel) (by decide +kernel) (by decide +kernel)
theorem lk_Rows_m_end_of {a0 : Int} {a1 : Int} {a2 : Int} {a3 : Int} {a4 : Int} {a5 : Int} : (F_Rows a0 a1 a2 a3 a4 a5).lookup ("end_of" : Str) = none := lk_Rows_no (by decide +kernel) (by decide +kernel) (by decide +kernel) (by decide +kernel) (by decide +kernel) (by decide +kernel)
theorem lk_Rows_m_hanging {a0 : Int} {a1 : Int} {a2 : Int} {a3 : Int} {a4 : Int} {a5 : Int} : (F_Rows a0 a1 a2 a3 a4 a5).lookup ("hanging" : Str) = none := lk_Rows_no (by decide +kernel) (by decide +kernel) (by decide +kernel) (by decide +kernel) (by decide +kernel) (by decide +kernel)
theorem lk_Rows_m_kinds {a0 : Int} {a1 : Int} {a2 : Int} {a3 : Int} {a4 : Int} {a5 : Int} : (F_Rows a0 a1 a2 a3 a4 a5).lookup ("kinds" : Str) = none := lk_Rows_no (by decide +kernel) (by decide +kernel) (by decide +kernel) (by decide +kernel) (by decide +kernel) (by decide +kernel)
theorem lk_Net_m_small_spot {a0 : Addr} {a1 : Int} {a2 : Addr} {a3 : Bool} : (F_Net a0 a1 a2 a3).lookup ("small_spot" : Str) = none := lk_Net_no (by decide +kernel) (by decide +kernel) (by decide +kernel) (by decide +kernel)
theorem lk_Net_m_great_spot {a0 : Addr} {a1 : Int} {a2 : Addr} {a3 : Bool} : (F_Net a0 a1 a2 a3).lookup ("great_spot" : Str) = none := lk_Net_no (by decide +kernel) (by decide +kernel) (by decide +kernel) (by decide +kernel)
theorem lk_Net_m_links {a0 : Addr} {a1 : Int} {a2 : Addr} {a3 : Bool} : (F_Net a0 a1 a2 a3).lookup ("links" : Str) = none := lk_Net_no (by decide +kernel) (by decide +kernel) (by decide +kernel) (by decide +kernel)
theorem lk_Net_m_ways_from {a0 : Addr} {a1 : Int} {a2 : Addr} {a3 : Bool} : (F_Net a0 a1 a2 a3).lookup ("ways_from" : Str) = none := lk_Net_no (by decide +kernel) (by decide +kernel) (by decide +kernel) (by decide +kernel)
theorem lk_Net_m_runs {a0 : Addr} {a1 : Int} {a2 : Addr} {a3 : Bool} : (F_Net a0 a1 a2 a3).lookup ("runs" : Str) = none := lk_Net_no (by decide +kernel) (by decide +kernel) (by decide +kernel) (by decide +kernel)
theorem lk_Net_m_beat_in {a0 : Addr} {a1 : Int} {a2 : Addr} {a3 : Bool} : (F_Net a0 a1 a2 a3).lookup ("beat_in" : Str) = none := lk_Net_no (by decide +kernel) (by decide +kernel) (by decide +kernel) (by decide +kernel)
theorem lk_Ties_m_place_at {a0 : Addr} {a1 : Int} {a2 : Addr} : (F_Ties a0 a1 a2).lookup ("place_at" : Str) = none := lk_Ties_no (by decide +kernel) (by decide +kernel) (by decide +kernel)
theorem lk_Ties_m_name_of {a0 : Addr} {a1 : Int} {a2 : Addr} : (F_Ties a0 a1 a2).lookup ("name_of" : Str) = none := lk_Ties_no (by decide +kernel) (by decide +kernel) (by decide +kernel)
theorem lk_Ties_m_names_at {a0 : Addr} {a1 : Int} {a2 : Addr} : (F_Ties a0 a1 a2).lookup ("names_at" : Str) = none := lk_Ties_no (by decide +kernel) (by decide +kernel) (by decide +kernel)
theorem lk_Ties_m_head {a0 : Addr} {a1 : Int} {a2 : Addr} : (F_Ties a0 a1 a2).lookup ("head" : Str) = none := lk_Ties_no (by decide +kernel) (by decide +kernel) (by decide +kernel)
theorem lk_Ties_m_tie {a0 : Addr} {a1 : Int} {a2 : Addr} : (F_Ties a0 a1 a2).lookup ("tie" : Str) = none := lk_Ties_no (by decide +kernel) (by decide +kernel) (by decide +kernel)
theorem lk_Ties_m_size {a0 : Addr} {a1 : Int} {a2 : Addr} : (F_Ties a0 a1 a2).lookup ("size" : Str) = none := lk_Ties_no (by decide +kernel) (by decide +kernel) (by decide +kernel)
theorem lk_Ties_m_names_with {a0 : Addr} {a1 : Int} {a2 : Addr} : (F_Ties a0 a1 a2).lookup ("names_with" : Str) = none := lk_Ties_no (by decide +kernel) (by decide +kernel) (by decide +kernel)
theorem lk_Ties_m_how_many {a0 : Addr} {a1 : Int} {a2 : Addr} : (F_Ties a0 a1 a2).lookup ("how_many" : Str) = none := lk_Ties_no (by decide +kernel) (by decide +kernel) (by decide +kernel)
end Bt
/-! The head of k62: the places of its defs, what the top leaves (facts by names), by one kernel run. Written by genhead.py. -/
namespace Bt
open PySem PySem.Spec PyProof.Rows L2
def top (i : Nat) : Stmt := PySem.Challenge.pw_beltecho_k62_whole_great_books_mended.main.body.getD i (.Pass ⟨0, 0, 0, 0⟩)
abbrev S_check_beat_books : Stmt := top 22
abbrev S_check_beat_chains : Stmt := top 45
abbrev S_is_whole : Stmt := top 8
abbrev S_is_between : Stmt := top 9
abbrev S_common_part : Stmt := top 10
abbrev S_over_up : Stmt := top 11
abbrev S_Belts_init : Stmt := inClass (top 17) 0
abbrev S_round_of : Stmt := top 18
abbrev S_is_far : Stmt := top 19
abbrev S_are_singles : Stmt := top 20
abbrev S_Book_init : Stmt := inClass (top 21) 0
abbrev S_with_singles : Stmt := top 24
abbrev S_with_single : Stmt := top 25
abbrev S_without_single : Stmt := top 26
abbrev S_first_hit : Stmt := top 28
abbrev S_first_in : Stmt := top 29
abbrev S_least_within : Stmt := top 30
abbrev S_greatest_within : Stmt := top 31
abbrev S_wraps : Stmt := top 32
abbrev S_Rows_init : Stmt := inClass (top 34) 0
abbrev S_Rows_steps_on : Stmt := inClass (top 34) 1
abbrev S_Rows_steps_back : Stmt := inClass (top 34) 2
abbrev S_Rows_end_of : Stmt := inClass (top 34) 3
abbrev S_Rows_hanging : Stmt := inClass (top 34) 4
abbrev S_Rows_kinds : Stmt := inClass (top 34) 5
abbrev S_Ties_init : Stmt := inClass (top 38) 0
abbrev S_Ties_place_at : Stmt := inClass (top 38) 1
abbrev S_Ties_name_of : Stmt := inClass (top 38) 2
abbrev S_Ties_names_at : Stmt := inClass (top 38) 3
abbrev S_Ties_head : Stmt := inClass (top 38) 4
abbrev S_Ties_tie : Stmt := inClass (top 38) 5
abbrev S_Ties_size : Stmt := inClass (top 38) 6
abbrev S_Ties_names_with : Stmt := inClass (top 38) 7
abbrev S_Ties_how_many : Stmt := inClass (top 38) 8
abbrev S_how_many_lots : Stmt := top 39
abbrev S_fewest : Stmt := top 41
abbrev S_mending : Stmt := top 42
abbrev S_Net_init : Stmt := inClass (top 44) 0
abbrev S_Net_small_spot : Stmt := inClass (top 44) 1
abbrev S_Net_great_spot : Stmt := inClass (top 44) 2
abbrev S_Net_links : Stmt := inClass (top 44) 3
abbrev S_Net_ways_from : Stmt := inClass (top 44) 4
abbrev S_sure : Stmt := top 47
abbrev S_in_round : Stmt := top 49
abbrev S_law_cell_at : Stmt := top 51
abbrev S_law_source : Stmt := top 52
abbrev S_law_next : Stmt := top 53
abbrev S_law_one : Stmt := top 54
abbrev S_law_common : Stmt := top 55
abbrev S_law_made : Stmt := top 56
abbrev S_law_great : Stmt := top 57
abbrev S_law_mixed : Stmt := top 58
abbrev S_law_put_in : Stmt := top 59
abbrev S_law_right : Stmt := top 60
abbrev S_law : Stmt := top 61
def D_check_beat_books : He.DefD := ⟨("check_beat_books", none), "check_beat", "check_beat", defArgs S_check_beat_books, defBody S_check_beat_books, defScope S_check_beat_books, [], []⟩
def D_check_beat_chains : He.DefD := ⟨("check_beat_chains", none), "check_beat", "check_beat", defArgs S_check_beat_chains, defBody S_check_beat_chains, defScope S_check_beat_chains, [], []⟩
def D_is_whole : He.DefD := ⟨("is_whole", none), "is_whole", "is_whole", defArgs S_is_whole, defBody S_is_whole, defScope S_is_whole, [], []⟩
def D_is_between : He.DefD := ⟨("is_between", none), "is_between", "is_between", defArgs S_is_between, defBody S_is_between, defScope S_is_between, [], []⟩
def D_common_part : He.DefD := ⟨("common_part", none), "common_part", "common_part", defArgs S_common_part, defBody S_common_part, defScope S_common_part, [], []⟩
def D_over_up : He.DefD := ⟨("over_up", none), "over_up", "over_up", defArgs S_over_up, defBody S_over_up, defScope S_over_up, [], []⟩
def D_Belts_init : He.DefD := ⟨("Belts", some "__init__"), "__init__", "Belts.__init__", defArgs S_Belts_init, defBody S_Belts_init, defScope S_Belts_init, [], []⟩
def D_round_of : He.DefD := ⟨("round_of", none), "round_of", "round_of", defArgs S_round_of, defBody S_round_of, defScope S_round_of, [], []⟩
def D_is_far : He.DefD := ⟨("is_far", none), "is_far", "is_far", defArgs S_is_far, defBody S_is_far, defScope S_is_far, [], []⟩
def D_are_singles : He.DefD := ⟨("are_singles", none), "are_singles", "are_singles", defArgs S_are_singles, defBody S_are_singles, defScope S_are_singles, [], []⟩
def D_Book_init : He.DefD := ⟨("Book", some "__init__"), "__init__", "Book.__init__", defArgs S_Book_init, defBody S_Book_init, defScope S_Book_init, [], []⟩
def D_with_singles : He.DefD := ⟨("with_singles", none), "with_singles", "with_singles", defArgs S_with_singles, defBody S_with_singles, defScope S_with_singles, [], []⟩
def D_with_single : He.DefD := ⟨("with_single", none), "with_single", "with_single", defArgs S_with_single, defBody S_with_single, defScope S_with_single, [], []⟩
def D_without_single : He.DefD := ⟨("without_single", none), "without_single", "without_single", defArgs S_without_single, defBody S_without_single, defScope S_without_single, [], []⟩
def D_first_hit : He.DefD := ⟨("first_hit", none), "first_hit", "first_hit", defArgs S_first_hit, defBody S_first_hit, defScope S_first_hit, [], []⟩
def D_first_in : He.DefD := ⟨("first_in", none), "first_in", "first_in", defArgs S_first_in, defBody S_first_in, defScope S_first_in, [], []⟩
def D_least_within : He.DefD := ⟨("least_within", none), "least_within", "least_within", defArgs S_least_within, defBody S_least_within, defScope S_least_within, [], []⟩
def D_greatest_within : He.DefD := ⟨("greatest_within", none), "greatest_within", "greatest_within", defArgs S_greatest_within, defBody S_greatest_within, defScope S_greatest_within, [], []⟩
def D_wraps : He.DefD := ⟨("wraps", none), "wraps", "wraps", defArgs S_wraps, defBody S_wraps, defScope S_wraps, [], []⟩
def D_Rows_init : He.DefD := ⟨("Rows", some "__init__"), "__init__", "Rows.__init__", defArgs S_Rows_init, defBody S_Rows_init, defScope S_Rows_init, [], []⟩
def D_Rows_steps_on : He.DefD := ⟨("Rows", some "steps_on"), "steps_on", "Rows.steps_on", defArgs S_Rows_steps_on, defBody S_Rows_steps_on, defScope S_Rows_steps_on, [], []⟩
def D_Rows_steps_back : He.DefD := ⟨("Rows", some "steps_back"), "steps_back", "Rows.steps_back", defArgs S_Rows_steps_back, defBody S_Rows_steps_back, defScope S_Rows_steps_back, [], []⟩
def D_Rows_end_of : He.DefD := ⟨("Rows", some "end_of"), "end_of", "Rows.end_of", defArgs S_Rows_end_of, defBody S_Rows_end_of, defScope S_Rows_end_of, [], []⟩
def D_Rows_hanging : He.DefD := ⟨("Rows", some "hanging"), "hanging", "Rows.hanging", defArgs S_Rows_hanging, defBody S_Rows_hanging, defScope S_Rows_hanging, [], []⟩
def D_Rows_kinds : He.DefD := ⟨("Rows", some "kinds"), "kinds", "Rows.kinds", defArgs S_Rows_kinds, defBody S_Rows_kinds, defScope S_Rows_kinds, [], []⟩
def D_Ties_init : He.DefD := ⟨("Ties", some "__init__"), "__init__", "Ties.__init__", defArgs S_Ties_init, defBody S_Ties_init, defScope S_Ties_init, [], []⟩
def D_Ties_place_at : He.DefD := ⟨("Ties", some "place_at"), "place_at", "Ties.place_at", defArgs S_Ties_place_at, defBody S_Ties_place_at, defScope S_Ties_place_at, [], []⟩
def D_Ties_name_of : He.DefD := ⟨("Ties", some "name_of"), "name_of", "Ties.name_of", defArgs S_Ties_name_of, defBody S_Ties_name_of, defScope S_Ties_name_of, [], []⟩
def D_Ties_names_at : He.DefD := ⟨("Ties", some "names_at"), "names_at", "Ties.names_at", defArgs S_Ties_names_at, defBody S_Ties_names_at, defScope S_Ties_names_at, [], []⟩
def D_Ties_head : He.DefD := ⟨("Ties", some "head"), "head", "Ties.head", defArgs S_Ties_head, defBody S_Ties_head, defScope S_Ties_head, [], []⟩
def D_Ties_tie : He.DefD := ⟨("Ties", some "tie"), "tie", "Ties.tie", defArgs S_Ties_tie, defBody S_Ties_tie, defScope S_Ties_tie, [], []⟩
def D_Ties_size : He.DefD := ⟨("Ties", some "size"), "size", "Ties.size", defArgs S_Ties_size, defBody S_Ties_size, defScope S_Ties_size, [], []⟩
def D_Ties_names_with : He.DefD := ⟨("Ties", some "names_with"), "names_with", "Ties.names_with", defArgs S_Ties_names_with, defBody S_Ties_names_with, defScope S_Ties_names_with, [], []⟩
def D_Ties_how_many : He.DefD := ⟨("Ties", some "how_many"), "how_many", "Ties.how_many", defArgs S_Ties_how_many, defBody S_Ties_how_many, defScope S_Ties_how_many, [], []⟩
def D_how_many_lots : He.DefD := ⟨("how_many_lots", none), "how_many_lots", "how_many_lots", defArgs S_how_many_lots, defBody S_how_many_lots, defScope S_how_many_lots, [], []⟩
def D_fewest : He.DefD := ⟨("fewest", none), "fewest", "fewest", defArgs S_fewest, defBody S_fewest, defScope S_fewest, [], []⟩
def D_mending : He.DefD := ⟨("mending", none), "mending", "mending", defArgs S_mending, defBody S_mending, defScope S_mending, [], []⟩
def D_Net_init : He.DefD := ⟨("Net", some "__init__"), "__init__", "Net.__init__", defArgs S_Net_init, defBody S_Net_init, defScope S_Net_init, [], []⟩
def D_Net_small_spot : He.DefD := ⟨("Net", some "small_spot"), "small_spot", "Net.small_spot", defArgs S_Net_small_spot, defBody S_Net_small_spot, defScope S_Net_small_spot, [], []⟩
def D_Net_great_spot : He.DefD := ⟨("Net", some "great_spot"), "great_spot", "Net.great_spot", defArgs S_Net_great_spot, defBody S_Net_great_spot, defScope S_Net_great_spot, [], []⟩
def D_Net_links : He.DefD := ⟨("Net", some "links"), "links", "Net.links", defArgs S_Net_links, defBody S_Net_links, defScope S_Net_links, [], []⟩
def D_Net_ways_from : He.DefD := ⟨("Net", some "ways_from"), "ways_from", "Net.ways_from", defArgs S_Net_ways_from, defBody S_Net_ways_from, defScope S_Net_ways_from, [], []⟩
def D_sure : He.DefD := ⟨("sure", none), "sure", "sure", defArgs S_sure, defBody S_sure, defScope S_sure, [], []⟩
def D_in_round : He.DefD := ⟨("in_round", none), "in_round", "in_round", defArgs S_in_round, defBody S_in_round, defScope S_in_round, [], []⟩
def D_law_cell_at : He.DefD := ⟨("_law_cell_at", none), "_law_cell_at", "_law_cell_at", defArgs S_law_cell_at, defBody S_law_cell_at, defScope S_law_cell_at, [], []⟩
def D_law_source : He.DefD := ⟨("_law_source", none), "_law_source", "_law_source", defArgs S_law_source, defBody S_law_source, defScope S_law_source, [], []⟩
def D_law_next : He.DefD := ⟨("_law_next", none), "_law_next", "_law_next", defArgs S_law_next, defBody S_law_next, defScope S_law_next, [], []⟩
def D_law_one : He.DefD := ⟨("_law_one", none), "_law_one", "_law_one", defArgs S_law_one, defBody S_law_one, defScope S_law_one, [], []⟩
def D_law_common : He.DefD := ⟨("_law_common", none), "_law_common", "_law_common", defArgs S_law_common, defBody S_law_common, defScope S_law_common, [], []⟩
def D_law_made : He.DefD := ⟨("_law_made", none), "_law_made", "_law_made", defArgs S_law_made, defBody S_law_made, defScope S_law_made, [], []⟩
def D_law_great : He.DefD := ⟨("_law_great", none), "_law_great", "_law_great", defArgs S_law_great, defBody S_law_great, defScope S_law_great, [], []⟩
def D_law_mixed : He.DefD := ⟨("_law_mixed", none), "_law_mixed", "_law_mixed", defArgs S_law_mixed, defBody S_law_mixed, defScope S_law_mixed, [], []⟩
def D_law_put_in : He.DefD := ⟨("_law_put_in", none), "_law_put_in", "_law_put_in", defArgs S_law_put_in, defBody S_law_put_in, defScope S_law_put_in, [], []⟩
def D_law_right : He.DefD := ⟨("_law_right", none), "_law_right", "_law_right", defArgs S_law_right, defBody S_law_right, defScope S_law_right, [], []⟩
def D_law : He.DefD := ⟨("law", none), "law", "law", defArgs S_law, defBody S_law, defScope S_law, [], []⟩
def fnL : List He.DefD := [D_check_beat_books, D_check_beat_chains, D_is_whole, D_is_between, D_common_part, D_over_up, D_Belts_init, D_round_of, D_is_far, D_are_singles, D_Book_init, D_with_singles, D_with_single, D_without_single, D_first_hit, D_first_in, D_least_within, D_greatest_within, D_wraps, D_Rows_init, D_Rows_steps_on, D_Rows_steps_back, D_Rows_end_of, D_Rows_hanging, D_Rows_kinds, D_Ties_init, D_Ties_place_at, D_Ties_name_of, D_Ties_names_at, D_Ties_head, D_Ties_tie, D_Ties_size, D_Ties_names_with, D_Ties_how_many, D_how_many_lots, D_fewest, D_mending, D_Net_init, D_Net_small_spot, D_Net_great_spot, D_Net_links, D_Net_ways_from, D_sure, D_in_round, D_law_cell_at, D_law_source, D_law_next, D_law_one, D_law_common, D_law_made, D_law_great, D_law_mixed, D_law_put_in, D_law_right, D_law]
def faL : List He.Fa := [.glo "check_beat_books", .glo "check_beat_chains", .glo "is_whole", .glo "is_between", .glo "common_part", .glo "over_up", .glo "round_of", .glo "is_far", .glo "are_singles", .glo "with_singles", .glo "with_single", .glo "without_single", .glo "first_hit", .glo "first_in", .glo "least_within", .glo "greatest_within", .glo "wraps", .glo "how_many_lots", .glo "fewest", .glo "mending", .glo "sure", .glo "in_round", .glo "_law_cell_at", .glo "_law_source", .glo "_law_next", .glo "_law_one", .glo "_law_common", .glo "_law_made", .glo "_law_great", .glo "_law_mixed", .glo "_law_put_in", .glo "_law_right", .glo "law", .glo "Belts", .glo "Book", .glo "Rows", .glo "Ties", .glo "Net", .free "isinstance", .free "int", .free "bool", .free "min", .free "max", .free "len", .free "set", .free "tuple", .free "all", .free "sum", .free "range", .free "reversed", .free "abs", .free "sorted", .free "list", .int "MOST_CUPS" 1000000000000000000000000000000, .int "MOST_BEAT" 1000000000000000000000000000000000000000000000000000000000000, .int "MOST_MANY" 10000000000000000000000000000000, .int "MOST_SINGLES" 100, .int "SMALL" 0, .int "GREAT" 1, .cls "Belts", .noat "Belts" "one", .noat "Belts" "other", .mkr "Belts", .cls "Book", .noat "Book" "belts", .noat "Book" "begin", .noat "Book" "many", .noat "Book" "singles", .mkr "Book", .cls "Rows", .noat "Rows" "small", .noat "Rows" "great", .noat "Rows" "shared", .noat "Rows" "by", .noat "Rows" "bound", .noat "Rows" "hung", .meth "Rows" "steps_on", .meth "Rows" "steps_back", .meth "Rows" "end_of", .meth "Rows" "hanging", .meth "Rows" "kinds", .mkr "Rows", .cls "Ties", .noat "Ties" "rows", .noat "Ties" "begin", .noat "Ties" "elder", .meth "Ties" "place_at", .meth "Ties" "name_of", .meth "Ties" "names_at", .meth "Ties" "head", .meth "Ties" "tie", .meth "Ties" "size", .meth "Ties" "names_with", .meth "Ties" "how_many", .mkr "Ties", .cls "Net", .noat "Net" "rows", .noat "Net" "begin", .noat "Net" "singles", .noat "Net" "is_turned", .meth "Net" "small_spot", .meth "Net" "great_spot", .meth "Net" "links", .meth "Net" "ways_from", .mkr "Net"]
/-- what isinstance(x, Belts) leans on -/
def extB (K : PySem.W.Frag) : Bool := He.eqO (PySem.W.findIn K (.ref (He.ga K "Belts")) "__class__") (some (some (.builtin "object.__class__"))) && (He.eqO (PySem.W.specialIn K (.builtin "object.__class__") "__get__") (some (some (.builtin "getset_descriptor.__get__"))) &&
  (decide (PySem.W.takesIn K (.builtin "object.__class__") = some true) && decide (PySem.W.mroIn K (He.ga K "Belts") (.type "object") = some true)))
def obsX (K : PySem.W.Frag) : Bool × He.AlD := (extB K, He.obsD faL fnL K)
/-- what the top leaves -/
structure Env (K : PySem.W.Frag) (mg : Str → Option Value) : Prop where
  says : He.SaysD faL fnL K
  ext : extB K = true
  ex : ∃ h : Heap, K.In h ∧ h.Ns mainGlobals mg
section
variable {K : PySem.W.Frag} {mg : Str → Option Value}
theorem Env.fact (T : Env K mg) (i : Nat) {f : He.Fa} (h : faL[i]? = some f) : f.ok K = true := T.says.fact i h
theorem Env.d_check_beat_books (T : Env K mg) : ∃ fd, FunD K "check_beat" "check_beat" (defArgs S_check_beat_books) (defBody S_check_beat_books) (defScope S_check_beat_books) [] [] (He.fAd K D_check_beat_books.at_) fd := T.says.def_ 0 (d := D_check_beat_books) rfl
theorem Env.d_check_beat_chains (T : Env K mg) : ∃ fd, FunD K "check_beat" "check_beat" (defArgs S_check_beat_chains) (defBody S_check_beat_chains) (defScope S_check_beat_chains) [] [] (He.fAd K D_check_beat_chains.at_) fd := T.says.def_ 1 (d := D_check_beat_chains) rfl
theorem Env.d_is_whole (T : Env K mg) : ∃ fd, FunD K "is_whole" "is_whole" (defArgs S_is_whole) (defBody S_is_whole) (defScope S_is_whole) [] [] (He.fAd K D_is_whole.at_) fd := T.says.def_ 2 (d := D_is_whole) rfl
theorem Env.d_is_between (T : Env K mg) : ∃ fd, FunD K "is_between" "is_between" (defArgs S_is_between) (defBody S_is_between) (defScope S_is_between) [] [] (He.fAd K D_is_between.at_) fd := T.says.def_ 3 (d := D_is_between) rfl
theorem Env.d_common_part (T : Env K mg) : ∃ fd, FunD K "common_part" "common_part" (defArgs S_common_part) (defBody S_common_part) (defScope S_common_part) [] [] (He.fAd K D_common_part.at_) fd := T.says.def_ 4 (d := D_common_part) rfl
theorem Env.d_over_up (T : Env K mg) : ∃ fd, FunD K "over_up" "over_up" (defArgs S_over_up) (defBody S_over_up) (defScope S_over_up) [] [] (He.fAd K D_over_up.at_) fd := T.says.def_ 5 (d := D_over_up) rfl
theorem Env.d_Belts_init (T : Env K mg) : ∃ fd, FunD K "__init__" "Belts.__init__" (defArgs S_Belts_init) (defBody S_Belts_init) (defScope S_Belts_init) [] [] (He.fAd K D_Belts_init.at_) fd := T.says.def_ 6 (d := D_Belts_init) rfl
theorem Env.d_round_of (T : Env K mg) : ∃ fd, FunD K "round_of" "round_of" (defArgs S_round_of) (defBody S_round_of) (defScope S_round_of) [] [] (He.fAd K D_round_of.at_) fd := T.says.def_ 7 (d := D_round_of) rfl
theorem Env.d_is_far (T : Env K mg) : ∃ fd, FunD K "is_far" "is_far" (defArgs S_is_far) (defBody S_is_far) (defScope S_is_far) [] [] (He.fAd K D_is_far.at_) fd := T.says.def_ 8 (d := D_is_far) rfl
theorem Env.d_are_singles (T : Env K mg) : ∃ fd, FunD K "are_singles" "are_singles" (defArgs S_are_singles) (defBody S_are_singles) (defScope S_are_singles) [] [] (He.fAd K D_are_singles.at_) fd := T.says.def_ 9 (d := D_are_singles) rfl
theorem Env.d_Book_init (T : Env K mg) : ∃ fd, FunD K "__init__" "Book.__init__" (defArgs S_Book_init) (defBody S_Book_init) (defScope S_Book_init) [] [] (He.fAd K D_Book_init.at_) fd := T.says.def_ 10 (d := D_Book_init) rfl
theorem Env.d_with_singles (T : Env K mg) : ∃ fd, FunD K "with_singles" "with_singles" (defArgs S_with_singles) (defBody S_with_singles) (defScope S_with_singles) [] [] (He.fAd K D_with_singles.at_) fd := T.says.def_ 11 (d := D_with_singles) rfl
theorem Env.d_with_single (T : Env K mg) : ∃ fd, FunD K "with_single" "with_single" (defArgs S_with_single) (defBody S_with_single) (defScope S_with_single) [] [] (He.fAd K D_with_single.at_) fd := T.says.def_ 12 (d := D_with_single) rfl
theorem Env.d_without_single (T : Env K mg) : ∃ fd, FunD K "without_single" "without_single" (defArgs S_without_single) (defBody S_without_single) (defScope S_without_single) [] [] (He.fAd K D_without_single.at_) fd := T.says.def_ 13 (d := D_without_single) rfl
theorem Env.d_first_hit (T : Env K mg) : ∃ fd, FunD K "first_hit" "first_hit" (defArgs S_first_hit) (defBody S_first_hit) (defScope S_first_hit) [] [] (He.fAd K D_first_hit.at_) fd := T.says.def_ 14 (d := D_first_hit) rfl
theorem Env.d_first_in (T : Env K mg) : ∃ fd, FunD K "first_in" "first_in" (defArgs S_first_in) (defBody S_first_in) (defScope S_first_in) [] [] (He.fAd K D_first_in.at_) fd := T.says.def_ 15 (d := D_first_in) rfl
theorem Env.d_least_within (T : Env K mg) : ∃ fd, FunD K "least_within" "least_within" (defArgs S_least_within) (defBody S_least_within) (defScope S_least_within) [] [] (He.fAd K D_least_within.at_) fd := T.says.def_ 16 (d := D_least_within) rfl
theorem Env.d_greatest_within (T : Env K mg) : ∃ fd, FunD K "greatest_within" "greatest_within" (defArgs S_greatest_within) (defBody S_greatest_within) (defScope S_greatest_within) [] [] (He.fAd K D_greatest_within.at_) fd := T.says.def_ 17 (d := D_greatest_within) rfl
theorem Env.d_wraps (T : Env K mg) : ∃ fd, FunD K "wraps" "wraps" (defArgs S_wraps) (defBody S_wraps) (defScope S_wraps) [] [] (He.fAd K D_wraps.at_) fd := T.says.def_ 18 (d := D_wraps) rfl
theorem Env.d_Rows_init (T : Env K mg) : ∃ fd, FunD K "__init__" "Rows.__init__" (defArgs S_Rows_init) (defBody S_Rows_init) (defScope S_Rows_init) [] [] (He.fAd K D_Rows_init.at_) fd := T.says.def_ 19 (d := D_Rows_init) rfl
theorem Env.d_Rows_steps_on (T : Env K mg) : ∃ fd, FunD K "steps_on" "Rows.steps_on" (defArgs S_Rows_steps_on) (defBody S_Rows_steps_on) (defScope S_Rows_steps_on) [] [] (He.fAd K D_Rows_steps_on.at_) fd := T.says.def_ 20 (d := D_Rows_steps_on) rfl
theorem Env.d_Rows_steps_back (T : Env K mg) : ∃ fd, FunD K "steps_back" "Rows.steps_back" (defArgs S_Rows_steps_back) (defBody S_Rows_steps_back) (defScope S_Rows_steps_back) [] [] (He.fAd K D_Rows_steps_back.at_) fd := T.says.def_ 21 (d := D_Rows_steps_back) rfl
theorem Env.d_Rows_end_of (T : Env K mg) : ∃ fd, FunD K "end_of" "Rows.end_of" (defArgs S_Rows_end_of) (defBody S_Rows_end_of) (defScope S_Rows_end_of) [] [] (He.fAd K D_Rows_end_of.at_) fd := T.says.def_ 22 (d := D_Rows_end_of) rfl
theorem Env.d_Rows_hanging (T : Env K mg) : ∃ fd, FunD K "hanging" "Rows.hanging" (defArgs S_Rows_hanging) (defBody S_Rows_hanging) (defScope S_Rows_hanging) [] [] (He.fAd K D_Rows_hanging.at_) fd := T.says.def_ 23 (d := D_Rows_hanging) rfl
theorem Env.d_Rows_kinds (T : Env K mg) : ∃ fd, FunD K "kinds" "Rows.kinds" (defArgs S_Rows_kinds) (defBody S_Rows_kinds) (defScope S_Rows_kinds) [] [] (He.fAd K D_Rows_kinds.at_) fd := T.says.def_ 24 (d := D_Rows_kinds) rfl
theorem Env.d_Ties_init (T : Env K mg) : ∃ fd, FunD K "__init__" "Ties.__init__" (defArgs S_Ties_init) (defBody S_Ties_init) (defScope S_Ties_init) [] [] (He.fAd K D_Ties_init.at_) fd := T.says.def_ 25 (d := D_Ties_init) rfl
theorem Env.d_Ties_place_at (T : Env K mg) : ∃ fd, FunD K "place_at" "Ties.place_at" (defArgs S_Ties_place_at) (defBody S_Ties_place_at) (defScope S_Ties_place_at) [] [] (He.fAd K D_Ties_place_at.at_) fd := T.says.def_ 26 (d := D_Ties_place_at) rfl
theorem Env.d_Ties_name_of (T : Env K mg) : ∃ fd, FunD K "name_of" "Ties.name_of" (defArgs S_Ties_name_of) (defBody S_Ties_name_of) (defScope S_Ties_name_of) [] [] (He.fAd K D_Ties_name_of.at_) fd := T.says.def_ 27 (d := D_Ties_name_of) rfl
theorem Env.d_Ties_names_at (T : Env K mg) : ∃ fd, FunD K "names_at" "Ties.names_at" (defArgs S_Ties_names_at) (defBody S_Ties_names_at) (defScope S_Ties_names_at) [] [] (He.fAd K D_Ties_names_at.at_) fd := T.says.def_ 28 (d := D_Ties_names_at) rfl
theorem Env.d_Ties_head (T : Env K mg) : ∃ fd, FunD K "head" "Ties.head" (defArgs S_Ties_head) (defBody S_Ties_head) (defScope S_Ties_head) [] [] (He.fAd K D_Ties_head.at_) fd := T.says.def_ 29 (d := D_Ties_head) rfl
theorem Env.d_Ties_tie (T : Env K mg) : ∃ fd, FunD K "tie" "Ties.tie" (defArgs S_Ties_tie) (defBody S_Ties_tie) (defScope S_Ties_tie) [] [] (He.fAd K D_Ties_tie.at_) fd := T.says.def_ 30 (d := D_Ties_tie) rfl
theorem Env.d_Ties_size (T : Env K mg) : ∃ fd, FunD K "size" "Ties.size" (defArgs S_Ties_size) (defBody S_Ties_size) (defScope S_Ties_size) [] [] (He.fAd K D_Ties_size.at_) fd := T.says.def_ 31 (d := D_Ties_size) rfl
theorem Env.d_Ties_names_with (T : Env K mg) : ∃ fd, FunD K "names_with" "Ties.names_with" (defArgs S_Ties_names_with) (defBody S_Ties_names_with) (defScope S_Ties_names_with) [] [] (He.fAd K D_Ties_names_with.at_) fd := T.says.def_ 32 (d := D_Ties_names_with) rfl
theorem Env.d_Ties_how_many (T : Env K mg) : ∃ fd, FunD K "how_many" "Ties.how_many" (defArgs S_Ties_how_many) (defBody S_Ties_how_many) (defScope S_Ties_how_many) [] [] (He.fAd K D_Ties_how_many.at_) fd := T.says.def_ 33 (d := D_Ties_how_many) rfl
theorem Env.d_how_many_lots (T : Env K mg) : ∃ fd, FunD K "how_many_lots" "how_many_lots" (defArgs S_how_many_lots) (defBody S_how_many_lots) (defScope S_how_many_lots) [] [] (He.fAd K D_how_many_lots.at_) fd := T.says.def_ 34 (d := D_how_many_lots) rfl
theorem Env.d_fewest (T : Env K mg) : ∃ fd, FunD K "fewest" "fewest" (defArgs S_fewest) (defBody S_fewest) (defScope S_fewest) [] [] (He.fAd K D_fewest.at_) fd := T.says.def_ 35 (d := D_fewest) rfl
theorem Env.d_mending (T : Env K mg) : ∃ fd, FunD K "mending" "mending" (defArgs S_mending) (defBody S_mending) (defScope S_mending) [] [] (He.fAd K D_mending.at_) fd := T.says.def_ 36 (d := D_mending) rfl
theorem Env.d_Net_init (T : Env K mg) : ∃ fd, FunD K "__init__" "Net.__init__" (defArgs S_Net_init) (defBody S_Net_init) (defScope S_Net_init) [] [] (He.fAd K D_Net_init.at_) fd := T.says.def_ 37 (d := D_Net_init) rfl
theorem Env.d_Net_small_spot (T : Env K mg) : ∃ fd, FunD K "small_spot" "Net.small_spot" (defArgs S_Net_small_spot) (defBody S_Net_small_spot) (defScope S_Net_small_spot) [] [] (He.fAd K D_Net_small_spot.at_) fd := T.says.def_ 38 (d := D_Net_small_spot) rfl
theorem Env.d_Net_great_spot (T : Env K mg) : ∃ fd, FunD K "great_spot" "Net.great_spot" (defArgs S_Net_great_spot) (defBody S_Net_great_spot) (defScope S_Net_great_spot) [] [] (He.fAd K D_Net_great_spot.at_) fd := T.says.def_ 39 (d := D_Net_great_spot) rfl
theorem Env.d_Net_links (T : Env K mg) : ∃ fd, FunD K "links" "Net.links" (defArgs S_Net_links) (defBody S_Net_links) (defScope S_Net_links) [] [] (He.fAd K D_Net_links.at_) fd := T.says.def_ 40 (d := D_Net_links) rfl
theorem Env.d_Net_ways_from (T : Env K mg) : ∃ fd, FunD K "ways_from" "Net.ways_from" (defArgs S_Net_ways_from) (defBody S_Net_ways_from) (defScope S_Net_ways_from) [] [] (He.fAd K D_Net_ways_from.at_) fd := T.says.def_ 41 (d := D_Net_ways_from) rfl
theorem Env.d_sure (T : Env K mg) : ∃ fd, FunD K "sure" "sure" (defArgs S_sure) (defBody S_sure) (defScope S_sure) [] [] (He.fAd K D_sure.at_) fd := T.says.def_ 42 (d := D_sure) rfl
theorem Env.d_in_round (T : Env K mg) : ∃ fd, FunD K "in_round" "in_round" (defArgs S_in_round) (defBody S_in_round) (defScope S_in_round) [] [] (He.fAd K D_in_round.at_) fd := T.says.def_ 43 (d := D_in_round) rfl
theorem Env.d_law_cell_at (T : Env K mg) : ∃ fd, FunD K "_law_cell_at" "_law_cell_at" (defArgs S_law_cell_at) (defBody S_law_cell_at) (defScope S_law_cell_at) [] [] (He.fAd K D_law_cell_at.at_) fd := T.says.def_ 44 (d := D_law_cell_at) rfl
theorem Env.d_law_source (T : Env K mg) : ∃ fd, FunD K "_law_source" "_law_source" (defArgs S_law_source) (defBody S_law_source) (defScope S_law_source) [] [] (He.fAd K D_law_source.at_) fd := T.says.def_ 45 (d := D_law_source) rfl
theorem Env.d_law_next (T : Env K mg) : ∃ fd, FunD K "_law_next" "_law_next" (defArgs S_law_next) (defBody S_law_next) (defScope S_law_next) [] [] (He.fAd K D_law_next.at_) fd := T.says.def_ 46 (d := D_law_next) rfl
theorem Env.d_law_one (T : Env K mg) : ∃ fd, FunD K "_law_one" "_law_one" (defArgs S_law_one) (defBody S_law_one) (defScope S_law_one) [] [] (He.fAd K D_law_one.at_) fd := T.says.def_ 47 (d := D_law_one) rfl
theorem Env.d_law_common (T : Env K mg) : ∃ fd, FunD K "_law_common" "_law_common" (defArgs S_law_common) (defBody S_law_common) (defScope S_law_common) [] [] (He.fAd K D_law_common.at_) fd := T.says.def_ 48 (d := D_law_common) rfl
theorem Env.d_law_made (T : Env K mg) : ∃ fd, FunD K "_law_made" "_law_made" (defArgs S_law_made) (defBody S_law_made) (defScope S_law_made) [] [] (He.fAd K D_law_made.at_) fd := T.says.def_ 49 (d := D_law_made) rfl
theorem Env.d_law_great (T : Env K mg) : ∃ fd, FunD K "_law_great" "_law_great" (defArgs S_law_great) (defBody S_law_great) (defScope S_law_great) [] [] (He.fAd K D_law_great.at_) fd := T.says.def_ 50 (d := D_law_great) rfl
theorem Env.d_law_mixed (T : Env K mg) : ∃ fd, FunD K "_law_mixed" "_law_mixed" (defArgs S_law_mixed) (defBody S_law_mixed) (defScope S_law_mixed) [] [] (He.fAd K D_law_mixed.at_) fd := T.says.def_ 51 (d := D_law_mixed) rfl
theorem Env.d_law_put_in (T : Env K mg) : ∃ fd, FunD K "_law_put_in" "_law_put_in" (defArgs S_law_put_in) (defBody S_law_put_in) (defScope S_law_put_in) [] [] (He.fAd K D_law_put_in.at_) fd := T.says.def_ 52 (d := D_law_put_in) rfl
theorem Env.d_law_right (T : Env K mg) : ∃ fd, FunD K "_law_right" "_law_right" (defArgs S_law_right) (defBody S_law_right) (defScope S_law_right) [] [] (He.fAd K D_law_right.at_) fd := T.says.def_ 53 (d := D_law_right) rfl
theorem Env.d_law (T : Env K mg) : ∃ fd, FunD K "law" "law" (defArgs S_law) (defBody S_law) (defScope S_law) [] [] (He.fAd K D_law.at_) fd := T.says.def_ 54 (d := D_law) rfl
theorem Env.g_check_beat_books (T : Env K mg) : mg "check_beat_books" = some (.ref (He.ga K "check_beat_books")) := by
  obtain ⟨h, X, G⟩ := T.ex
  exact He.glo_ok X G (T.fact 0 rfl)
theorem Env.g_check_beat_chains (T : Env K mg) : mg "check_beat_chains" = some (.ref (He.ga K "check_beat_chains")) := by
  obtain ⟨h, X, G⟩ := T.ex
  exact He.glo_ok X G (T.fact 1 rfl)
theorem Env.g_is_whole (T : Env K mg) : mg "is_whole" = some (.ref (He.ga K "is_whole")) := by
  obtain ⟨h, X, G⟩ := T.ex
  exact He.glo_ok X G (T.fact 2 rfl)
theorem Env.g_is_between (T : Env K mg) : mg "is_between" = some (.ref (He.ga K "is_between")) := by
  obtain ⟨h, X, G⟩ := T.ex
  exact He.glo_ok X G (T.fact 3 rfl)
theorem Env.g_common_part (T : Env K mg) : mg "common_part" = some (.ref (He.ga K "common_part")) := by
  obtain ⟨h, X, G⟩ := T.ex
  exact He.glo_ok X G (T.fact 4 rfl)
theorem Env.g_over_up (T : Env K mg) : mg "over_up" = some (.ref (He.ga K "over_up")) := by
  obtain ⟨h, X, G⟩ := T.ex
  exact He.glo_ok X G (T.fact 5 rfl)
theorem Env.g_round_of (T : Env K mg) : mg "round_of" = some (.ref (He.ga K "round_of")) := by
  obtain ⟨h, X, G⟩ := T.ex
  exact He.glo_ok X G (T.fact 6 rfl)
theorem Env.g_is_far (T : Env K mg) : mg "is_far" = some (.ref (He.ga K "is_far")) := by
  obtain ⟨h, X, G⟩ := T.ex
  exact He.glo_ok X G (T.fact 7 rfl)
theorem Env.g_are_singles (T : Env K mg) : mg "are_singles" = some (.ref (He.ga K "are_singles")) := by
  obtain ⟨h, X, G⟩ := T.ex
  exact He.glo_ok X G (T.fact 8 rfl)
theorem Env.g_with_singles (T : Env K mg) : mg "with_singles" = some (.ref (He.ga K "with_singles")) := by
  obtain ⟨h, X, G⟩ := T.ex
  exact He.glo_ok X G (T.fact 9 rfl)
theorem Env.g_with_single (T : Env K mg) : mg "with_single" = some (.ref (He.ga K "with_single")) := by
  obtain ⟨h, X, G⟩ := T.ex
  exact He.glo_ok X G (T.fact 10 rfl)
theorem Env.g_without_single (T : Env K mg) : mg "without_single" = some (.ref (He.ga K "without_single")) := by
  obtain ⟨h, X, G⟩ := T.ex
  exact He.glo_ok X G (T.fact 11 rfl)
theorem Env.g_first_hit (T : Env K mg) : mg "first_hit" = some (.ref (He.ga K "first_hit")) := by
  obtain ⟨h, X, G⟩ := T.ex
  exact He.glo_ok X G (T.fact 12 rfl)
theorem Env.g_first_in (T : Env K mg) : mg "first_in" = some (.ref (He.ga K "first_in")) := by
  obtain ⟨h, X, G⟩ := T.ex
  exact He.glo_ok X G (T.fact 13 rfl)
theorem Env.g_least_within (T : Env K mg) : mg "least_within" = some (.ref (He.ga K "least_within")) := by
  obtain ⟨h, X, G⟩ := T.ex
  exact He.glo_ok X G (T.fact 14 rfl)
theorem Env.g_greatest_within (T : Env K mg) : mg "greatest_within" = some (.ref (He.ga K "greatest_within")) := by
  obtain ⟨h, X, G⟩ := T.ex
  exact He.glo_ok X G (T.fact 15 rfl)
theorem Env.g_wraps (T : Env K mg) : mg "wraps" = some (.ref (He.ga K "wraps")) := by
  obtain ⟨h, X, G⟩ := T.ex
  exact He.glo_ok X G (T.fact 16 rfl)
theorem Env.g_how_many_lots (T : Env K mg) : mg "how_many_lots" = some (.ref (He.ga K "how_many_lots")) := by
  obtain ⟨h, X, G⟩ := T.ex
  exact He.glo_ok X G (T.fact 17 rfl)
theorem Env.g_fewest (T : Env K mg) : mg "fewest" = some (.ref (He.ga K "fewest")) := by
  obtain ⟨h, X, G⟩ := T.ex
  exact He.glo_ok X G (T.fact 18 rfl)
theorem Env.g_mending (T : Env K mg) : mg "mending" = some (.ref (He.ga K "mending")) := by
  obtain ⟨h, X, G⟩ := T.ex
  exact He.glo_ok X G (T.fact 19 rfl)
theorem Env.g_sure (T : Env K mg) : mg "sure" = some (.ref (He.ga K "sure")) := by
  obtain ⟨h, X, G⟩ := T.ex
  exact He.glo_ok X G (T.fact 20 rfl)
theorem Env.g_in_round (T : Env K mg) : mg "in_round" = some (.ref (He.ga K "in_round")) := by
  obtain ⟨h, X, G⟩ := T.ex
  exact He.glo_ok X G (T.fact 21 rfl)
theorem Env.g_law_cell_at (T : Env K mg) : mg "_law_cell_at" = some (.ref (He.ga K "_law_cell_at")) := by
  obtain ⟨h, X, G⟩ := T.ex
  exact He.glo_ok X G (T.fact 22 rfl)
theorem Env.g_law_source (T : Env K mg) : mg "_law_source" = some (.ref (He.ga K "_law_source")) := by
  obtain ⟨h, X, G⟩ := T.ex
  exact He.glo_ok X G (T.fact 23 rfl)
theorem Env.g_law_next (T : Env K mg) : mg "_law_next" = some (.ref (He.ga K "_law_next")) := by
  obtain ⟨h, X, G⟩ := T.ex
  exact He.glo_ok X G (T.fact 24 rfl)
theorem Env.g_law_one (T : Env K mg) : mg "_law_one" = some (.ref (He.ga K "_law_one")) := by
  obtain ⟨h, X, G⟩ := T.ex
  exact He.glo_ok X G (T.fact 25 rfl)
theorem Env.g_law_common (T : Env K mg) : mg "_law_common" = some (.ref (He.ga K "_law_common")) := by
  obtain ⟨h, X, G⟩ := T.ex
  exact He.glo_ok X G (T.fact 26 rfl)
theorem Env.g_law_made (T : Env K mg) : mg "_law_made" = some (.ref (He.ga K "_law_made")) := by
  obtain ⟨h, X, G⟩ := T.ex
  exact He.glo_ok X G (T.fact 27 rfl)
theorem Env.g_law_great (T : Env K mg) : mg "_law_great" = some (.ref (He.ga K "_law_great")) := by
  obtain ⟨h, X, G⟩ := T.ex
  exact He.glo_ok X G (T.fact 28 rfl)
theorem Env.g_law_mixed (T : Env K mg) : mg "_law_mixed" = some (.ref (He.ga K "_law_mixed")) := by
  obtain ⟨h, X, G⟩ := T.ex
  exact He.glo_ok X G (T.fact 29 rfl)
theorem Env.g_law_put_in (T : Env K mg) : mg "_law_put_in" = some (.ref (He.ga K "_law_put_in")) := by
  obtain ⟨h, X, G⟩ := T.ex
  exact He.glo_ok X G (T.fact 30 rfl)
theorem Env.g_law_right (T : Env K mg) : mg "_law_right" = some (.ref (He.ga K "_law_right")) := by
  obtain ⟨h, X, G⟩ := T.ex
  exact He.glo_ok X G (T.fact 31 rfl)
theorem Env.g_law (T : Env K mg) : mg "law" = some (.ref (He.ga K "law")) := by
  obtain ⟨h, X, G⟩ := T.ex
  exact He.glo_ok X G (T.fact 32 rfl)
theorem Env.g_Belts (T : Env K mg) : mg "Belts" = some (.ref (He.ga K "Belts")) := by
  obtain ⟨h, X, G⟩ := T.ex
  exact He.glo_ok X G (T.fact 33 rfl)
theorem Env.g_Book (T : Env K mg) : mg "Book" = some (.ref (He.ga K "Book")) := by
  obtain ⟨h, X, G⟩ := T.ex
  exact He.glo_ok X G (T.fact 34 rfl)
theorem Env.g_Rows (T : Env K mg) : mg "Rows" = some (.ref (He.ga K "Rows")) := by
  obtain ⟨h, X, G⟩ := T.ex
  exact He.glo_ok X G (T.fact 35 rfl)
theorem Env.g_Ties (T : Env K mg) : mg "Ties" = some (.ref (He.ga K "Ties")) := by
  obtain ⟨h, X, G⟩ := T.ex
  exact He.glo_ok X G (T.fact 36 rfl)
theorem Env.g_Net (T : Env K mg) : mg "Net" = some (.ref (He.ga K "Net")) := by
  obtain ⟨h, X, G⟩ := T.ex
  exact He.glo_ok X G (T.fact 37 rfl)
theorem Env.b_isinstance (T : Env K mg) : mg "isinstance" = none := by
  obtain ⟨h, X, G⟩ := T.ex
  exact He.free_ok X G (T.fact 38 rfl)
theorem Env.b_int (T : Env K mg) : mg "int" = none := by
  obtain ⟨h, X, G⟩ := T.ex
  exact He.free_ok X G (T.fact 39 rfl)
theorem Env.b_bool (T : Env K mg) : mg "bool" = none := by
  obtain ⟨h, X, G⟩ := T.ex
  exact He.free_ok X G (T.fact 40 rfl)
theorem Env.b_min (T : Env K mg) : mg "min" = none := by
  obtain ⟨h, X, G⟩ := T.ex
  exact He.free_ok X G (T.fact 41 rfl)
theorem Env.b_max (T : Env K mg) : mg "max" = none := by
  obtain ⟨h, X, G⟩ := T.ex
  exact He.free_ok X G (T.fact 42 rfl)
theorem Env.b_len (T : Env K mg) : mg "len" = none := by
  obtain ⟨h, X, G⟩ := T.ex
  exact He.free_ok X G (T.fact 43 rfl)
theorem Env.b_set (T : Env K mg) : mg "set" = none := by
  obtain ⟨h, X, G⟩ := T.ex
  exact He.free_ok X G (T.fact 44 rfl)
theorem Env.b_tuple (T : Env K mg) : mg "tuple" = none := by
  obtain ⟨h, X, G⟩ := T.ex
  exact He.free_ok X G (T.fact 45 rfl)
theorem Env.b_all (T : Env K mg) : mg "all" = none := by
  obtain ⟨h, X, G⟩ := T.ex
  exact He.free_ok X G (T.fact 46 rfl)
theorem Env.b_sum (T : Env K mg) : mg "sum" = none := by
  obtain ⟨h, X, G⟩ := T.ex
  exact He.free_ok X G (T.fact 47 rfl)
theorem Env.b_range (T : Env K mg) : mg "range" = none := by
  obtain ⟨h, X, G⟩ := T.ex
  exact He.free_ok X G (T.fact 48 rfl)
theorem Env.b_reversed (T : Env K mg) : mg "reversed" = none := by
  obtain ⟨h, X, G⟩ := T.ex
  exact He.free_ok X G (T.fact 49 rfl)
theorem Env.b_abs (T : Env K mg) : mg "abs" = none := by
  obtain ⟨h, X, G⟩ := T.ex
  exact He.free_ok X G (T.fact 50 rfl)
theorem Env.b_sorted (T : Env K mg) : mg "sorted" = none := by
  obtain ⟨h, X, G⟩ := T.ex
  exact He.free_ok X G (T.fact 51 rfl)
theorem Env.b_list (T : Env K mg) : mg "list" = none := by
  obtain ⟨h, X, G⟩ := T.ex
  exact He.free_ok X G (T.fact 52 rfl)
theorem Env.i_MOST_CUPS (T : Env K mg) : ∃ t, mg "MOST_CUPS" = some (.int 1000000000000000000000000000000 t) := by
  obtain ⟨h, X, G⟩ := T.ex
  exact He.int_ok X G (T.fact 53 rfl)
theorem Env.i_MOST_BEAT (T : Env K mg) : ∃ t, mg "MOST_BEAT" = some (.int 1000000000000000000000000000000000000000000000000000000000000 t) := by
  obtain ⟨h, X, G⟩ := T.ex
  exact He.int_ok X G (T.fact 54 rfl)
theorem Env.i_MOST_MANY (T : Env K mg) : ∃ t, mg "MOST_MANY" = some (.int 10000000000000000000000000000000 t) := by
  obtain ⟨h, X, G⟩ := T.ex
  exact He.int_ok X G (T.fact 55 rfl)
theorem Env.i_MOST_SINGLES (T : Env K mg) : ∃ t, mg "MOST_SINGLES" = some (.int 100 t) := by
  obtain ⟨h, X, G⟩ := T.ex
  exact He.int_ok X G (T.fact 56 rfl)
theorem Env.i_SMALL (T : Env K mg) : ∃ t, mg "SMALL" = some (.int 0 t) := by
  obtain ⟨h, X, G⟩ := T.ex
  exact He.int_ok X G (T.fact 57 rfl)
theorem Env.i_GREAT (T : Env K mg) : ∃ t, mg "GREAT" = some (.int 1 t) := by
  obtain ⟨h, X, G⟩ := T.ex
  exact He.int_ok X G (T.fact 58 rfl)
theorem Env.c_Belts (T : Env K mg) : Cls K (He.ga K "Belts") := He.cls_ok (T.fact 59 rfl)
theorem Env.n_Belts_one (T : Env K mg) : NoAttr K (He.ga K "Belts") "one" := He.noat_ok (T.fact 60 rfl)
theorem Env.n_Belts_other (T : Env K mg) : NoAttr K (He.ga K "Belts") "other" := He.noat_ok (T.fact 61 rfl)
theorem Env.k_Belts (T : Env K mg) : Mk K (He.ga K "Belts") (He.fAd K ("Belts", some "__init__")) := He.mkr_ok (T.fact 62 rfl)
theorem Env.c_Book (T : Env K mg) : Cls K (He.ga K "Book") := He.cls_ok (T.fact 63 rfl)
theorem Env.n_Book_belts (T : Env K mg) : NoAttr K (He.ga K "Book") "belts" := He.noat_ok (T.fact 64 rfl)
theorem Env.n_Book_begin (T : Env K mg) : NoAttr K (He.ga K "Book") "begin" := He.noat_ok (T.fact 65 rfl)
theorem Env.n_Book_many (T : Env K mg) : NoAttr K (He.ga K "Book") "many" := He.noat_ok (T.fact 66 rfl)
theorem Env.n_Book_singles (T : Env K mg) : NoAttr K (He.ga K "Book") "singles" := He.noat_ok (T.fact 67 rfl)
theorem Env.k_Book (T : Env K mg) : Mk K (He.ga K "Book") (He.fAd K ("Book", some "__init__")) := He.mkr_ok (T.fact 68 rfl)
theorem Env.c_Rows (T : Env K mg) : Cls K (He.ga K "Rows") := He.cls_ok (T.fact 69 rfl)
theorem Env.n_Rows_small (T : Env K mg) : NoAttr K (He.ga K "Rows") "small" := He.noat_ok (T.fact 70 rfl)
theorem Env.n_Rows_great (T : Env K mg) : NoAttr K (He.ga K "Rows") "great" := He.noat_ok (T.fact 71 rfl)
theorem Env.n_Rows_shared (T : Env K mg) : NoAttr K (He.ga K "Rows") "shared" := He.noat_ok (T.fact 72 rfl)
theorem Env.n_Rows_by (T : Env K mg) : NoAttr K (He.ga K "Rows") "by" := He.noat_ok (T.fact 73 rfl)
theorem Env.n_Rows_bound (T : Env K mg) : NoAttr K (He.ga K "Rows") "bound" := He.noat_ok (T.fact 74 rfl)
theorem Env.n_Rows_hung (T : Env K mg) : NoAttr K (He.ga K "Rows") "hung" := He.noat_ok (T.fact 75 rfl)
theorem Env.m_Rows_steps_on (T : Env K mg) : Meth K (He.ga K "Rows") "steps_on" (He.fAd K ("Rows", some "steps_on")) := He.meth_ok (T.fact 76 rfl)
theorem Env.m_Rows_steps_back (T : Env K mg) : Meth K (He.ga K "Rows") "steps_back" (He.fAd K ("Rows", some "steps_back")) := He.meth_ok (T.fact 77 rfl)
theorem Env.m_Rows_end_of (T : Env K mg) : Meth K (He.ga K "Rows") "end_of" (He.fAd K ("Rows", some "end_of")) := He.meth_ok (T.fact 78 rfl)
theorem Env.m_Rows_hanging (T : Env K mg) : Meth K (He.ga K "Rows") "hanging" (He.fAd K ("Rows", some "hanging")) := He.meth_ok (T.fact 79 rfl)
theorem Env.m_Rows_kinds (T : Env K mg) : Meth K (He.ga K "Rows") "kinds" (He.fAd K ("Rows", some "kinds")) := He.meth_ok (T.fact 80 rfl)
theorem Env.k_Rows (T : Env K mg) : Mk K (He.ga K "Rows") (He.fAd K ("Rows", some "__init__")) := He.mkr_ok (T.fact 81 rfl)
theorem Env.c_Ties (T : Env K mg) : Cls K (He.ga K "Ties") := He.cls_ok (T.fact 82 rfl)
theorem Env.n_Ties_rows (T : Env K mg) : NoAttr K (He.ga K "Ties") "rows" := He.noat_ok (T.fact 83 rfl)
theorem Env.n_Ties_begin (T : Env K mg) : NoAttr K (He.ga K "Ties") "begin" := He.noat_ok (T.fact 84 rfl)
theorem Env.n_Ties_elder (T : Env K mg) : NoAttr K (He.ga K "Ties") "elder" := He.noat_ok (T.fact 85 rfl)
theorem Env.m_Ties_place_at (T : Env K mg) : Meth K (He.ga K "Ties") "place_at" (He.fAd K ("Ties", some "place_at")) := He.meth_ok (T.fact 86 rfl)
theorem Env.m_Ties_name_of (T : Env K mg) : Meth K (He.ga K "Ties") "name_of" (He.fAd K ("Ties", some "name_of")) := He.meth_ok (T.fact 87 rfl)
theorem Env.m_Ties_names_at (T : Env K mg) : Meth K (He.ga K "Ties") "names_at" (He.fAd K ("Ties", some "names_at")) := He.meth_ok (T.fact 88 rfl)
theorem Env.m_Ties_head (T : Env K mg) : Meth K (He.ga K "Ties") "head" (He.fAd K ("Ties", some "head")) := He.meth_ok (T.fact 89 rfl)
theorem Env.m_Ties_tie (T : Env K mg) : Meth K (He.ga K "Ties") "tie" (He.fAd K ("Ties", some "tie")) := He.meth_ok (T.fact 90 rfl)
theorem Env.m_Ties_size (T : Env K mg) : Meth K (He.ga K "Ties") "size" (He.fAd K ("Ties", some "size")) := He.meth_ok (T.fact 91 rfl)
theorem Env.m_Ties_names_with (T : Env K mg) : Meth K (He.ga K "Ties") "names_with" (He.fAd K ("Ties", some "names_with")) := He.meth_ok (T.fact 92 rfl)
theorem Env.m_Ties_how_many (T : Env K mg) : Meth K (He.ga K "Ties") "how_many" (He.fAd K ("Ties", some "how_many")) := He.meth_ok (T.fact 93 rfl)
theorem Env.k_Ties (T : Env K mg) : Mk K (He.ga K "Ties") (He.fAd K ("Ties", some "__init__")) := He.mkr_ok (T.fact 94 rfl)
theorem Env.c_Net (T : Env K mg) : Cls K (He.ga K "Net") := He.cls_ok (T.fact 95 rfl)
theorem Env.n_Net_rows (T : Env K mg) : NoAttr K (He.ga K "Net") "rows" := He.noat_ok (T.fact 96 rfl)
theorem Env.n_Net_begin (T : Env K mg) : NoAttr K (He.ga K "Net") "begin" := He.noat_ok (T.fact 97 rfl)
theorem Env.n_Net_singles (T : Env K mg) : NoAttr K (He.ga K "Net") "singles" := He.noat_ok (T.fact 98 rfl)
theorem Env.n_Net_is_turned (T : Env K mg) : NoAttr K (He.ga K "Net") "is_turned" := He.noat_ok (T.fact 99 rfl)
theorem Env.m_Net_small_spot (T : Env K mg) : Meth K (He.ga K "Net") "small_spot" (He.fAd K ("Net", some "small_spot")) := He.meth_ok (T.fact 100 rfl)
theorem Env.m_Net_great_spot (T : Env K mg) : Meth K (He.ga K "Net") "great_spot" (He.fAd K ("Net", some "great_spot")) := He.meth_ok (T.fact 101 rfl)
theorem Env.m_Net_links (T : Env K mg) : Meth K (He.ga K "Net") "links" (He.fAd K ("Net", some "links")) := He.meth_ok (T.fact 102 rfl)
theorem Env.m_Net_ways_from (T : Env K mg) : Meth K (He.ga K "Net") "ways_from" (He.fAd K ("Net", some "ways_from")) := He.meth_ok (T.fact 103 rfl)
theorem Env.k_Net (T : Env K mg) : Mk K (He.ga K "Net") (He.fAd K ("Net", some "__init__")) := He.mkr_ok (T.fact 104 rfl)
end
abbrev RR : PySem.W.OpenRow := PySem.W.OpenLaw.row PySem.Challenge.rw_beltecho_k62_whole_great_books_mended
def hk : PySem.W.Hook where
  α := Bool × He.AlD
  obs := fun s => obsX (He.frG s.heap.get? (He.asD s.heap.get? 5))
  val := fun _ => (true, He.valD fnL)
  says := fun _ h => ∃ K : PySem.W.Frag, K.In h ∧ obsX K = (true, He.valD fnL)
  of := fun _ _ e => ⟨_, He.frG_in, e⟩
  keeps := fun _ _ _ ⟨K, hK, c⟩ k => ⟨K, PySem.W.Frag.In.keeps hK k, c⟩
def ob (s : PySem.W.SharedT) : Bool × He.AlD := obsX (He.frG (HandSHeadRun.getT s) (He.asD (HandSHeadRun.getT s) 5))
theorem ob_eq (s : PySem.W.SharedT) : ob s = hk.obs s.abs := by
  have e : HandSHeadRun.getT s = s.abs.heap.get? := funext (HandSHeadRun.getT_eq s)
  unfold ob
  rw [e]
  rfl
theorem Env.isBelts {K : PySem.W.Frag} {mg : Str → Option Value} (T : Env K mg) {H : Hp} {a dx : Addr} {fs : List (Str × V)} (e : H a = some (.ins (He.ga K "Belts") dx fs)) : TyOf K H (.ref a) (.ref (He.ga K "Belts")) := by
  obtain ⟨c1, c⟩ := He.ba T.ext
  obtain ⟨c2, c⟩ := He.ba c
  obtain ⟨c3, c4⟩ := He.ba c
  exact .ins e T.c_Belts (He.eqO_ok c1) (He.eqO_ok c2) (of_decide_eq_true c3) (of_decide_eq_true c4)
def loose0 : List PySem.Str := ["_wall", "EchoError", "NoBelts", "NoBook", "NoBeat", "TooMany", "is_whole", "is_between", "common_part", "over_up", "MOST_CUPS", "MOST_BEAT", "MOST_MANY", "MOST_SINGLES", "Belts", "round_of", "is_far", "are_singles", "Book", "check_beat", "check_beat_books", "with_singles", "with_single", "without_single", "first_hit", "first_in", "least_within", "greatest_within", "wraps", "Rows"]
def loose1 : List PySem.Str := ["SMALL", "GREAT", "Ties", "how_many_lots", "fewest", "mending", "Net", "check_beat_chains", "sure", "in_round", "_law_cell_at", "_law_source", "_law_next", "_law_one", "_law_common", "_law_made", "_law_great", "_law_mixed", "_law_put_in", "_law_right"]
def looseL : List PySem.Str := loose0 ++ loose1
abbrev qv : Program := PySem.W.view RR.prog [61]
theorem run (w : World) : HandSHeadRun.RunEq RR qv hk ob 8000 looseL w := by
  intro os
  kernel_rfl
end Bt
namespace Bt
open PySem PySem.Spec PyProof.Rows L2
/-! ### len(set(t)) of a tuple of unlike ints -/
theorem same_len {ks ns : List Int} (h1 : ks.Nodup) (h2 : ns.Nodup) (h : ∀ k, k ∈ ks ↔ k ∈ ns) : ks.length = ns.length := ((List.perm_ext_iff_of_nodup h1 h2).mpr h).length_eq
theorem ints_vals : ∀ {ns : List Int} {us : List Value}, Vals (ns.map V.int) us → IntsAre us ns
  | [], _, .nil => .nil
  | n :: ns, _, .cons r t => by
    obtain ⟨k, rfl⟩ := r
    exact .cons n k (ints_vals t)
def tLenSetT (K : PySem.W.Frag) (ta : TE) : TE := fun σ H Q => ta σ H fun x H1 => ∃ (l : Addr) (ns : List Int), x = .ref l ∧ SqT K H1 l (ns.map V.int) ∧ ns.Nodup ∧ ns.length ≤ 4000 ∧ Q (.int (ns.length : Nat)) H1
theorem pe_lenSetT {X : Cx} {a : Expr} {ta : TE} {p p2 q pos : Pos} (hm : X.mg "len" = none) (hm2 : X.mg "set" = none) (ha : PE X a ta) (hg : Gl X "len" := by rfl) (hg2 : Gl X "set" := by rfl) (hc : X.calm = true := by rfl)
    (na : starEach [a] X.env = (false, eval a X.env) :: starEach [] X.env := by rfl) : PE X (.Call (.Name "len" p) [.Call (.Name "set" p2) [a] [] q] [] pos) (tLenSetT X.K ta) := by
  refine ⟨fun pins s σ H Q I h => ?_⟩
  refine Call_ (ld_blt I hg hm boot_len (callWith_builtin1 (args_cons ?_ rfl) rfl rfl))
  refine Call_ (ld_blt I hg2 hm2 boot_set (callWith_type1 (args_cons (thn (ha.run pins s σ H _ I h) fun v s1 ⟨x, H1, I1, r1, q1⟩ => args_nil ?_) na) na rfl))
  obtain ⟨l, ns, rfl, hq, hnd, hl, q1⟩ := q1
  cases r1
  obtain ⟨its, r, pl, hz⟩ := I1.tuple hq
  refine call_set_tupI ns (I1.ok.hd hc) pl (by simpa using ints_vals r) (by unfold scanBound; omega) fun h' tk c hS hcl hk => args_nil ?_
  obtain ⟨o, es, ep, t, ho, hex, hd, _, knd, hks, _, hf, hn, _⟩ := hS
  have e : es.size = ns.length := by
    have z := same_len knd hnd fun k => by
      rw [← hks k]
      simp
    simpa using z
  have I2 : Inv X pins σ H1 { s1 with heap := h', toks := tk } := I1.kept fun b o e => hk b o e
  exact call_len_set ho hex hd hf (by rw [e]; omega) ⟨.int (ns.length : Nat), H1, I2.tok _, ⟨_, by rw [e]⟩, q1⟩
/-! ### == and != of two lists of ints -/
def rNeInts (K : PySem.W.Frag) : R2 := fun x y H Q => ∃ (a b : Addr) (ns ms : List Int), x = .ref a ∧ y = .ref b ∧ SqL K H a (ns.map V.int) ∧ SqL K H b (ms.map V.int) ∧ Q (.bl (!decide (ns = ms))) H
theorem op_neInts {X : Cx} (hu : X.A.units + 64 < cLine) : OpR X (compareOp .NotEq) (rNeInts X.K) := by
  intro pins s σ H x y v u Q I rx ry h
  obtain ⟨a, b, ns, ms, rfl, rfl, ha, hb, q⟩ := h
  cases rx
  cases ry
  obtain ⟨as, r1, p1, _⟩ := I.list ha
  obtain ⟨bs, r2, p2, _⟩ := I.list hb
  exact PySem.W.ke_ne_ints p1.isList p2.isList (ints_vals r1) (ints_vals r2) hu ⟨.bl _, H, I, rfl, q⟩
end Bt
namespace Bt
open PySem PySem.Spec PyProof.Rows L2
section
variable {P : Program} {w : World} {K : PySem.W.Frag} {mg : Str → Option Value} {base : Heap}
/-! ### wholes -/
def spIsWhole : Sp := fun vs H Q _ => ∃ i : Int, vs = [.int i] ∧ Q (.bl true) H
theorem c_is_whole (T : Env K mg) : Cal P w K mg base 1 (He.fAd K D_is_whole.at_) ["thing"] spIsWhole := by
  obtain ⟨fd, F⟩ := T.d_is_whole
  refine mkCal (N := ["thing"]) F ⟨rfl, rfl, rfl, by decide +kernel, rfl, by decide +kernel, by decide +kernel⟩ (fun _ _ _ _ _ _ us hl => match us, hl with | [_], _ => rfl)
    (fun vs H Q E h => by obtain ⟨i, rfl, _⟩ := h; rfl) (fun cdv A outer s H vs Q E hr h => ?_)
  obtain ⟨i, rfl, h⟩ := h
  refine ⟨_, pss_one (ps_ret (pe_and (pe_callB call_isi rfl T.b_isinstance (by decide +kernel) (pa_cons (pv 0) (pa_cons (pe_ty (n := "int") T.b_int (by decide +kernel)) pa_nil)))
    (pe_one (pe_not (pe_callB call_isi rfl T.b_isinstance (by decide +kernel) (pa_cons (pv 0) (pa_cons (pe_ty (n := "bool") T.b_bool (by decide +kernel)) pa_nil))))))), ?_⟩
  refine ⟨_, rfl, _, _, _, _, true, rfl, .ty "int", .base (.int i), kit_ty (by decide +kernel), true, rfl, ?_⟩
  refine iteT ?_
  refine ⟨_, rfl, _, _, _, _, false, rfl, .ty "bool", .base (.int i), kit_ty (by decide +kernel), false, rfl, ?_⟩
  exact h
def spIsBetween : Sp := fun vs H Q _ => ∃ (a b c : Int) (k : Bool), vs = [.int a, .int b, .int c] ∧ decide (b ≤ a ∧ a ≤ c) = k ∧ Q (.bl k) H
theorem c_is_between (T : Env K mg) : Cal P w K mg base 2 (He.fAd K D_is_between.at_) ["thing", "low", "high"] spIsBetween := by
  obtain ⟨fd, F⟩ := T.d_is_between
  refine mkCal (N := ["thing", "low", "high"]) F ⟨rfl, rfl, rfl, by decide +kernel, rfl, by decide +kernel, by decide +kernel⟩ (fun _ _ _ _ _ _ us hl => match us, hl with | [_, _, _], _ => rfl)
    (fun vs H Q E h => by obtain ⟨a, b, c, k, rfl, _⟩ := h; rfl) (fun cdv A outer s H vs Q E hr h => ?_)
  obtain ⟨a, b, c, k, rfl, hk, h⟩ := h
  subst hk
  refine ⟨_, pss_one (ps_ret (pe_and (pe_c (c_is_whole T) hr T.g_is_whole (pa_cons (pv 0) pa_nil)) (pe_one (pe_chain op_le op_le (pv 1) (pv 0) (pv 2))))), ?_⟩
  refine ⟨_, rfl, a, rfl, true, rfl, ?_⟩
  refine iteT ?_
  refine ⟨_, rfl, _, rfl, _, _, rfl, rfl, _, rfl, ?_⟩
  by_cases h1 : b ≤ a
  · rw [decide_eq_true h1]
    refine iteT ⟨_, rfl, _, _, rfl, rfl, ?_⟩
    have e : decide (b ≤ a ∧ a ≤ c) = decide (a ≤ c) := by simp [h1]
    rw [e] at h
    exact h
  · rw [decide_eq_false h1]
    refine iteF ?_
    have e : decide (b ≤ a ∧ a ≤ c) = false := by simp [h1]
    rw [e] at h
    exact h
/-- common_part: Euclid -/
def spCommon : Sp := fun vs H Q _ => ∃ a b : Int, vs = [.int a, .int b] ∧ 0 ≤ a ∧ 0 ≤ b ∧ Q (.int (Int.gcd a b : Nat)) H
theorem c_common_part (T : Env K mg) : Cal P w K mg base 1 (He.fAd K D_common_part.at_) ["one", "other"] spCommon := by
  obtain ⟨fd, F⟩ := T.d_common_part
  have sc : FnScope ["one", "other"] ["one", "other"] (defScope S_common_part) := ⟨rfl, rfl, rfl, by decide +kernel, rfl, by decide +kernel, by decide +kernel⟩
  refine mkCal F sc (fun _ _ _ _ _ _ us hl => match us, hl with | [_, _], _ => rfl)
    (fun vs H Q E h => by obtain ⟨a, b, rfl, _⟩ := h; rfl) (fun cdv A outer s H vs Q E hr h => ?_)
  obtain ⟨a, b, rfl, ha, hb, h⟩ := h
  refine ⟨_, pss_cons (ps_while PassesOwn.never (pt_cmpR op_gt (pv 1) pe_int (nomark _))
    (pss_one (ps_par (i := 0) (j := 1) (by rfl) sc.nd rfl rfl (by decide) rfl rfl (pa_cons (pv 1) (pa_cons (pe_op op_mod (pv 0) (pv 1)) pa_nil)) (by rfl))))
    (pss_one (ps_ret (pv 0))), ?_⟩
  refine while_by (fun σ H' => H' = H ∧ ∃ x y : Int, σ = [some (.int x), some (.int y)] ∧ 0 ≤ x ∧ 0 ≤ y ∧ Int.gcd x y = Int.gcd a b)
    (fun σ _ => match σ with | [_, some (.int y)] => y.toNat | _ => 0) ⟨rfl, a, b, rfl, ha, hb, rfl⟩ ?_ (fun σ H Q Q' hq q => ?_)
  · rintro σ H' ⟨rfl, x, y, rfl, hx, hy, hg⟩
    refine ⟨_, rfl, _, _, rfl, rfl, _, rfl, ?_⟩
    by_cases h1 : 0 < y
    · rw [decide_eq_true h1]
      refine iteT ?_
      refine ⟨_, rfl, _, rfl, _, rfl, _, _, rfl, rfl, h1, _, _, rfl, ?_⟩
      refine ⟨⟨rfl, y, x % y, rfl, hy, Int.emod_nonneg _ (by omega), ?_⟩, ?_⟩
      · rw [← hg]
        exact Bm.gcd_emod x y
      · show (x % y).toNat < y.toNat
        have := Int.emod_lt_of_pos x h1
        omega
    · rw [decide_eq_false h1]
      refine iteF ?_
      have e : y = 0 := by omega
      subst e
      refine ⟨_, rfl, ?_⟩
      have e2 : (Int.gcd a b : Int) = x := by
        rw [← hg, Int.gcd_zero_right]
        omega
      rw [e2] at h
      exact h
  · obtain ⟨v, e1, i, j, e3, e4, k, e5, q⟩ := q
    exact ⟨v, e1, i, j, e3, e4, k, e5, hq _ _ q⟩
def spOverUp : Sp := fun vs H Q _ => ∃ a b : Int, vs = [.int a, .int b] ∧ 0 < b ∧ b < 2 ^ 200 ∧ Q (.int (Bm.up a b)) H
theorem c_over_up (T : Env K mg) : Cal P w K mg base 1 (He.fAd K D_over_up.at_) ["one", "other"] spOverUp := by
  obtain ⟨fd, F⟩ := T.d_over_up
  refine mkCal (N := ["one", "other"]) F ⟨rfl, rfl, rfl, by decide +kernel, rfl, by decide +kernel, by decide +kernel⟩ (fun _ _ _ _ _ _ us hl => match us, hl with | [_, _], _ => rfl)
    (fun vs H Q E h => by obtain ⟨a, b, rfl, _⟩ := h; rfl) (fun cdv A outer s H vs Q E hr h => ?_)
  obtain ⟨a, b, rfl, h0, h1, h⟩ := h
  refine ⟨_, pss_one (ps_ret (pe_op op_sub pe_int (pe_op op_fdivW (pe_op op_sub pe_int (pv 0)) (pv 1)))), ?_⟩
  exact ⟨_, rfl, _, _, rfl, rfl, _, rfl, _, _, rfl, rfl, wdiv h0 h1, _, _, rfl, rfl, h⟩
end
end Bt
namespace Bt
open PySem PySem.Spec PyProof.Rows L2
section
variable {P : Program} {w : World} {K : PySem.W.Frag} {mg : Str → Option Value} {base : Heap}
/-! ### turning -/
abbrev Lev := Addr × (Int × Int × Int)
def Lay (H : Hp) (L : List Lev) : Prop := ∀ e ∈ L, H e.1 = some (.tup [.int e.2.1, .int e.2.2.1, .int e.2.2.2])
abbrev addrs (L : List Lev) : List V := L.map fun e => V.ref e.1
abbrev stk (L : List Lev) : List (Int × Int × Int) := (L.map (·.2)).reverse
theorem Lay.keeps {H H' : Hp} {L : List Lev} (l : Lay H L) (k : ∀ b xs, H b = some (.tup xs) → H' b = some (.tup xs)) : Lay H' L := fun e he => k _ _ (l e he)
def spFirstHit : Sp := fun vs H Q _ => ∃ b m lo hi : Int, vs = [.int b, .int m, .int lo, .int hi] ∧ Bm.Down b m lo hi ∧ m < 2 ^ 120 ∧ ∀ x H', Same H H' → Bm.Least b m lo hi x → Q (.int x) H'
set_option maxHeartbeats 8000000 in
theorem c_first_hit (T : Env K mg) : Cal P w K mg base 2 (He.fAd K D_first_hit.at_) ["by", "many", "low", "high"] spFirstHit := by
  obtain ⟨fd, F⟩ := T.d_first_hit
  have sc : FnScope ["by", "many", "low", "high", "back", "found", "wanted", "step", "ring"] ["by", "many", "low", "high"] (defScope S_first_hit) := ⟨rfl, rfl, rfl, by decide +kernel, rfl, by decide +kernel, by decide +kernel⟩
  refine mkCal F sc (fun _ _ _ _ _ _ us hl => match us, hl with | [_, _, _, _], _ => rfl)
    (fun vs H Q E h => by obtain ⟨a, b, c, d, rfl, _⟩ := h; rfl) (fun cdv A outer s H vs Q E hr h => ?_)
  obtain ⟨b0, m0, lo0, hi0, rfl, d0, hB, h⟩ := h
  refine ⟨_, pss_cons (ps_set (i := 4) sc.nd rfl (Or.inl rfl) (pe_lst pa_nil))
    (pss_cons (ps_set (i := 5) sc.nd rfl (Or.inl rfl) pe_int)
    (pss_cut (ps_while PassesOwn.never (pt_cmpR op_gt (pv 2) pe_int (nomark _))
      (pss_cons (ps_if (pt_cmpR op_eq (pv 0) pe_int (nomark _)) (pss_one (ps_ret pe_non)) pss_nil)
      (pss_cut (ps_if (pt_cmpR op_gt (pe_op op_mul pe_int (pv 0)) (pv 1) (nomark _))
        (pss_one (ps_par3 (i := 0) (j := 2) (l := 3) rfl sc.nd rfl rfl rfl (by decide) (by decide) (by decide) rfl rfl rfl
          (pa_cons (pe_op op_sub (pv 1) (pv 0)) (pa_cons (pe_op op_sub (pv 1) (pv 3)) (pa_cons (pe_op op_sub (pv 1) (pv 2)) pa_nil))) (by rfl))) pss_nil)
      (pss_cons (ps_set (i := 5) sc.nd rfl (Or.inl rfl) (pe_c (c_over_up T) hr T.g_over_up (pa_cons (pv 2) (pa_cons (pv 0) pa_nil))))
      (pss_cons (ps_if (pt_cmpR op_le (pe_op op_mulW (pv 0) (pv 5)) (pv 3) (nomark _)) (pss_one ps_break) pss_nil)
      (pss_cons (ps_expr (pe_bm PySem.F.plainAttrs_list PySem.F.slot_list_append PySem.F.type_list_append mt_append (pv 4) (pa_cons (pe_tup (pa_cons (pv 2) (pa_cons (pv 0) (pa_cons (pv 1) pa_nil)))) pa_nil)))
      (pss_cons (ps_asg (pe_tup (pa_cons (pe_op op_mod (pv 1) (pv 0)) (pa_cons (pv 0) (pa_cons (pe_op op_mod (pe_op op_sub pe_int (pv 3)) (pv 0)) (pa_cons (pe_op op_mod (pe_op op_sub pe_int (pv 2)) (pv 0)) pa_nil)))))
        (pg_tup rfl (pgs_cons (pg_name (i := 0) sc.nd rfl (Or.inl rfl)) (pgs_cons (pg_name (i := 1) sc.nd rfl (Or.inl rfl)) (pgs_cons (pg_name (i := 2) sc.nd rfl (Or.inl rfl)) (pgs_cons (pg_name (i := 3) sc.nd rfl (Or.inl rfl)) pgs_nil))))))
      (pss_one (ps_set (i := 5) sc.nd rfl (Or.inl rfl) pe_int)))))))))
    (pss_cons (ps_for PassesOwn.never rfl (pi_reversed rfl T.b_reversed (pa_cons (pv 4) pa_nil))
      (pg_tup rfl (pgs_cons (pg_name (i := 6) sc.nd rfl (Or.inl rfl)) (pgs_cons (pg_name (i := 7) sc.nd rfl (Or.inl rfl)) (pgs_cons (pg_name (i := 8) sc.nd rfl (Or.inl rfl)) pgs_nil))))
      (pss_one (ps_set (i := 5) sc.nd rfl (Or.inl rfl) (pe_c (c_over_up T) hr T.g_over_up (pa_cons (pe_op op_add (pv 6) (pe_op op_mulW (pv 8) (pv 5))) (pa_cons (pv 7) pa_nil))))))
    (pss_one (ps_ret (pv 5)))))), ?_⟩
  refine ⟨(by show 0 ≤ sizeLine; decide), fun p np => ?_⟩
  refine ⟨fun σ H' => ∃ (v0 v1 v2 v3 : Option V) (b m lo hi f : Int) (L : List Lev), σ = [v0, v1, v2, v3, some (.ref p), some (.int f), none, none, none] ∧ Same H H' ∧ H' p = some (.lst (addrs L)) ∧ Lay H' L ∧
    Bm.Stk m0 b0 m0 lo0 hi0 (stk L) b m lo hi ∧ Bm.Least b m lo hi f ∧ m ≤ m0 ∧ 0 < m, ?_, ?_⟩
  · refine while_byB (fun σ H' => ∃ (b m lo hi : Int) (L : List Lev), σ = [some (.int b), some (.int m), some (.int lo), some (.int hi), some (.ref p), some (.int 0), none, none, none] ∧ Same H H' ∧ H' p = some (.lst (addrs L)) ∧ Lay H' L ∧
        Bm.Down b m lo hi ∧ Bm.Stk m0 b0 m0 lo0 hi0 (stk L) b m lo hi ∧ m * 2 ^ L.length ≤ m0 ∧ m ≤ m0)
      (fun σ _ => match σ with | [_, _, some (.int lo), _, _, _, _, _, _] => decide (0 < lo) | _ => false) (fun σ _ => match σ with | [_, some (.int m), _, _, _, _, _, _, _] => m.toNat | _ => 0)
      ⟨b0, m0, lo0, hi0, [], rfl, Same.new np, upd_same, fun e he => by simp at he, d0, .base fun x z => z, by simp, Int.le_refl _⟩ ?_ ?_ ?_
    · rintro σ H' R ⟨b, m, lo, hi, L, rfl, _⟩ q
      exact ⟨_, rfl, _, _, rfl, rfl, _, rfl, q⟩
    · rintro σ H' ⟨b, m, lo, hi, L, rfl, sm, hp, ly, d, st, hm, mm⟩ hlo
      have hlo : 0 < lo := of_decide_eq_true hlo
      have hb := d.by_pos hlo
      have hbm := d.bm
      have hll := d.lh
      have hhm := d.hm
      refine ⟨_, rfl, rfl, _, rfl, ite_ff (decide_eq_false fun z => by injection z with z; omega) ?_⟩
      refine ⟨fun σ H2 => H2 = H' ∧ ∃ b lo hi : Int, σ = [some (.int b), some (.int m), some (.int lo), some (.int hi), some (.ref p), some (.int 0), none, none, none] ∧ Bm.Down b m lo hi ∧ 0 < lo ∧ 2 * b ≤ m ∧ Bm.Stk m0 b0 m0 lo0 hi0 (stk L) b m lo hi, ?_, ?_⟩
      · refine ⟨_, rfl, _, _, rfl, rfl, Or.inl (by decide), _, rfl, _, _, rfl, rfl, _, rfl, ?_⟩
        by_cases c : m < 2 * b
        · refine ite_tt (decide_eq_true c) ?_
          refine ⟨_, rfl, _, rfl, _, _, rfl, rfl, _, rfl, _, rfl, _, _, rfl, rfl, _, rfl, _, rfl, _, _, rfl, rfl, _, _, _, rfl, ?_⟩
          exact ⟨rfl, m - b, m - hi, m - lo, rfl, d.reflect hlo, by omega, by omega, st.weak fun x z => z.reflect⟩
        · refine ite_ff (decide_eq_false c) ?_
          exact ⟨rfl, b, lo, hi, rfl, d, hlo, by omega, st⟩
      · rintro σ H2 ⟨rfl, b, lo, hi, rfl, d, hlo, h2b, st⟩
        have hb := d.by_pos hlo
        have hbm := d.bm
        have hll := d.lh
        have hhm := d.hm
        have hu0 := Bm.up_pos (a := lo) hb hlo
        have hu1 := Bm.up_le (a := lo) hb (Int.le_of_lt hlo)
        refine ⟨_, rfl, _, rfl, _, _, rfl, hb, by omega, ?_⟩
        refine ⟨_, rfl, _, rfl, _, _, rfl, rfl, wmul (by omega) (by omega) (by omega) (by omega), _, rfl, _, _, rfl, rfl, _, rfl, ?_⟩
        by_cases c : b * Bm.up lo b ≤ hi
        · refine ite_tt (decide_eq_true c) ?_
          exact ⟨_, _, _, _, b, m, lo, hi, _, L, rfl, sm, hp, ly, st, Bm.Least.stop hb hlo hhm c, mm, by omega⟩
        · refine ite_ff (decide_eq_false c) ?_
          have hlen : L.length < 200 := by
            by_cases c : L.length < 200
            · exact c
            · exfalso
              have h1 : (2 : Int) ^ 200 ≤ 2 ^ L.length := by
                have := Nat.pow_le_pow_right (by decide : 0 < 2) (show 200 ≤ L.length by omega)
                exact_mod_cast this
              have h3 : (2 : Int) ^ 120 < 2 ^ 200 := by decide +kernel
              have h2 : 1 * 2 ^ L.length ≤ m * 2 ^ L.length := Int.mul_le_mul_of_nonneg_right (by omega) (by omega)
              omega
          refine ⟨_, rfl, Or.inl ⟨rfl, _, SqL.of hp⟩, _, rfl, _, rfl, _, rfl, (by show 3 ≤ sizeLine; decide), fun q nq => ?_⟩
          have npq : p ≠ q := ne_of_none hp nq
          refine ⟨p, _, _, rfl, rfl, (by rw [upd_ne npq]; exact hp), (by simp only [addrs, List.length_map]; exact Nat.lt_of_lt_of_le hlen (by rw [size16]; decide)), ?_⟩
          obtain ⟨dn, dl⟩ := d.down hlo c
          refine ⟨_, rfl, _, rfl, _, _, rfl, rfl, hb, _, rfl, _, rfl, _, _, rfl, rfl, _, rfl, _, _, rfl, rfl, hb, _, rfl, _, _, rfl, rfl, _, rfl, _, _, rfl, rfl, hb, (by show 4 ≤ sizeLine; decide), fun r nr => ?_⟩
          refine ⟨r, _, rfl, SqT.of upd_same, rfl, _, _, rfl, _, _, rfl, _, _, rfl, _, _, rfl, rfl, ?_⟩
          have nqp := Ne.symm npq
          have qr : q ≠ r := ne_of_none (o := .tup [.int lo, .int b, .int m]) (by rw [upd_ne nqp, upd_same]) nr
          have pr : p ≠ r := ne_of_none upd_same nr
          refine ⟨⟨m % b, b, (0 - hi) % b, (0 - lo) % b, L ++ [(q, lo, b, m)], rfl, ?_, ?_, ?_, dn, ?_, ?_, by omega⟩, ?_⟩
          · refine Same.upd1 (H' := upd (upd H2 q _) p _) (fun x o e => ?_) nr
            have xp : x ≠ p := ne_of_none e np
            rw [upd_ne xp]
            exact Same.upd1 sm nq x o e
          · rw [upd_ne pr, upd_same]
            simp [addrs]
          · intro e he
            rcases List.mem_append.mp he with he | he
            · have z := ly e he
              have e1 : e.1 ≠ p := ne_of z hp (by intro z; cases z)
              rw [upd_ne (ne_of_none (o := .tup [.int e.2.1, .int e.2.2.1, .int e.2.2.2]) (by rw [upd_ne e1, upd_ne (ne_of_none z nq)]; exact z) nr), upd_ne e1, upd_ne (ne_of_none z nq)]
              exact z
            · rw [List.mem_singleton.mp he]
              rw [upd_ne qr, upd_ne nqp, upd_same]
          · have hst : stk (L ++ [(q, lo, b, m)]) = (lo, b, m) :: stk L := by simp [stk]
            rw [hst]
            exact .push hb hbm mm hlo (by omega) (by omega) (fun y g => Bm.Least.down hb hbm hlo hll hhm c g) st
          · rw [List.length_append]
            show b * 2 ^ (L.length + 1) ≤ m0
            have h5 : b * 2 ^ (L.length + 1) = (2 * b) * 2 ^ L.length := by
              rw [Int.pow_succ, ← Int.mul_assoc, Int.mul_comm (b * 2 ^ L.length) 2, Int.mul_assoc]
            rw [h5]
            exact Int.le_trans (Int.mul_le_mul_of_nonneg_right h2b (Int.pow_nonneg (by decide))) hm
          · show b.toNat < m.toNat
            omega
    · rintro σ H' ⟨b, m, lo, hi, L, rfl, sm, hp, ly, d, st, hm, mm⟩ hlo
      have hlo : ¬ 0 < lo := of_decide_eq_false hlo
      have h0 := d.l0
      have e : lo = 0 := by omega
      subst e
      have := d.b0
      have := d.bm
      exact ⟨_, _, _, _, b, m, 0, hi, 0, L, rfl, sm, hp, ly, st, Bm.Least.zero (by have := d.lh; omega), mm, by omega⟩
  · rintro σ H' ⟨v0, v1, v2, v3, b, m, lo, hi, f, L, rfl, sm, hp, ly, st, le, mm, m1⟩
    refine ⟨_, rfl, p, addrs L, rfl, SqL.of hp, for_rev (K := K) (a := p) (xs := addrs L) (fun i σ H2 => H2 = H' ∧ ∃ (b m lo hi f : Int) (v6 v7 v8 : Option V) (pre suf : List Lev), σ = [v0, v1, v2, v3, some (.ref p), some (.int f), v6, v7, v8] ∧
      L = pre ++ suf ∧ suf.length = i ∧ Bm.Stk m0 b0 m0 lo0 hi0 (stk pre) b m lo hi ∧ Bm.Least b m lo hi f ∧ m ≤ m0 ∧ 0 < m)
      ⟨rfl, b, m, lo, hi, f, none, none, none, L, [], rfl, by simp, rfl, st, le, mm, m1⟩ (fun i σ H2 _ ⟨e, _⟩ => e ▸ SqL.of hp) ?_ ?_⟩
    · rintro i x σ H2 hil hx ⟨rfl, b, m, lo, hi, f, v6, v7, v8, pre, suf, rfl, eL, es, st, le, mm, m1⟩
      rcases snoc_or pre with e | ⟨pre', e, rfl⟩
      · subst e
        rw [eL] at hil
        simp at hil
        omega
      · have ix : (addrs L).length - 1 - i = pre'.length := by
          rw [eL]
          simp
          omega
        rw [ix, eL] at hx
        have hx2 : x = V.ref e.1 := by
          have : (addrs (pre' ++ [e] ++ suf))[pre'.length]? = some (V.ref e.1) := by simp [addrs]
          rw [this] at hx
          exact (Option.some.inj hx).symm
        subst hx2
        have he : e ∈ L := by rw [eL]; simp
        have hst : stk (pre' ++ [e]) = e.2 :: stk pre' := by simp [stk]
        rw [hst] at st
        obtain ⟨a, ww, ss, rr⟩ := e
        cases st with
        | push s0 sr rB w0 wr ms g u =>
          have hf := le.lt m1
          have hf0 := le.nn
          refine ⟨a, _, rfl, SqT.of (ly _ he), rfl, _, _, rfl, _, _, rfl, _, _, rfl, rfl, ?_⟩
          refine ⟨_, rfl, _, rfl, _, rfl, _, _, rfl, rfl, wmul (i := rr) (j := f) (by omega) (by omega) (by omega) (by omega), _, _, rfl, rfl, _, rfl, _, ss, rfl, s0, by omega, ?_⟩
          exact ⟨rfl, ss, rr, ww, _, _, _, _, _, pre', (a, ww, ss, rr) :: suf, rfl, by rw [eL]; simp, by simp [es], u, g _ le, by omega, by omega⟩
    · rintro σ H2 ⟨rfl, b, m, lo, hi, f, v6, v7, v8, pre, suf, rfl, eL, es, st, le, mm, m1⟩
      have hpre : pre = [] := by
        have q := congrArg List.length eL
        rw [List.length_append] at q
        simp at es q
        exact List.eq_nil_of_length_eq_zero (by omega)
      subst hpre
      cases st with
      | base g =>
        refine ⟨_, rfl, ?_⟩
        exact h f H2 sm (g f le)
/-- first_in -/
def spFirstIn : Sp := fun vs H Q _ => ∃ a b m lo hi : Int, vs = [.int a, .int b, .int m, .int lo, .int hi] ∧ 0 < m ∧ m < 2 ^ 120 ∧ 0 ≤ lo ∧ lo ≤ hi ∧ hi < m ∧ (Int.gcd b m : Int) ≤ hi - lo + 1 ∧ ∀ x H', Same H H' → Bm.LeastIn a b m lo hi x → Q (.int x) H'
theorem c_first_in (T : Env K mg) : Cal P w K mg base 3 (He.fAd K D_first_in.at_) ["begin", "by", "many", "low", "high"] spFirstIn := by
  obtain ⟨fd, F⟩ := T.d_first_in
  have sc : FnScope ["begin", "by", "many", "low", "high", "shift"] ["begin", "by", "many", "low", "high"] (defScope S_first_in) := ⟨rfl, rfl, rfl, by decide +kernel, rfl, by decide +kernel, by decide +kernel⟩
  refine mkCal F sc (fun _ _ _ _ _ _ us hl => match us, hl with | [_, _, _, _, _], _ => rfl)
    (fun vs H Q E h => by obtain ⟨a, b, c, d, e, rfl, _⟩ := h; rfl) (fun cdv A outer s H vs Q E hr h => ?_)
  obtain ⟨a, b, m, lo, hi, rfl, m0, mB, l0, lh, hm, hg, h⟩ := h
  refine ⟨_, pss_cons (ps_set (i := 5) sc.nd rfl (Or.inl rfl) (pe_op op_mod (pe_op op_sub (pv 3) (pv 0)) (pv 2)))
    (pss_cons (ps_if (pt_cmpR op_ge (pe_op op_sub (pe_op op_add (pv 5) (pv 4)) (pv 3)) (pv 2) (nomark _)) (pss_one (ps_ret pe_int)) pss_nil)
    (pss_one (ps_ret (pe_c (c_first_hit T) hr T.g_first_hit (pa_cons (pe_op op_mod (pv 1) (pv 2)) (pa_cons (pv 2) (pa_cons (pv 5) (pa_cons (pe_op op_sub (pe_op op_add (pv 5) (pv 4)) (pv 3)) pa_nil)))))))), ?_⟩
  refine ⟨_, rfl, _, rfl, _, _, rfl, rfl, _, rfl, _, _, rfl, rfl, m0, ?_⟩
  refine ⟨_, rfl, _, rfl, _, _, rfl, rfl, _, rfl, _, _, rfl, rfl, _, rfl, _, _, rfl, rfl, _, rfl, ?_⟩
  by_cases c : m ≤ (lo - a) % m + hi - lo
  · refine ite_tt (decide_eq_true c) ?_
    exact h 0 H (Same.refl H) (Bm.LeastIn.at0 m0 l0 hm lh c)
  · refine ite_ff (decide_eq_false c) ?_
    refine ⟨_, rfl, _, rfl, _, _, rfl, rfl, m0, _, rfl, _, rfl, _, rfl, _, rfl, _, _, rfl, rfl, _, rfl, _, _, rfl, rfl, ?_⟩
    exact ⟨_, _, _, _, rfl, Bm.Down.start m0 l0 hm lh (by omega) hg, mB, fun x H' sm le => h x H' sm (Bm.LeastIn.of_hit m0 l0 hm (by omega) le)⟩
end
end Bt
namespace Bt
open PySem PySem.Spec PyProof.Rows L2
/-! ### what stands in the heap: belts, a book, rows -/
structure BookD where
  one : Int
  other : Int
  begin_ : Int
  many : Int
  singles : List Int
structure BookOk (b : BookD) : Prop where
  o1 : 1 ≤ b.one
  o2 : b.one ≤ 10 ^ 30
  t1 : 1 ≤ b.other
  t2 : b.other ≤ 10 ^ 30
  g1 : -(10 ^ 60) ≤ b.begin_
  g2 : b.begin_ ≤ 10 ^ 60
  m1 : 0 ≤ b.many
  m2 : b.many ≤ 10 ^ 31
  sl : b.singles.length ≤ 100
  sb : ∀ s ∈ b.singles, -(10 ^ 60) ≤ s ∧ s ≤ 10 ^ 60
  sn : b.singles.Nodup
noncomputable def BookD.rows (b : BookD) : Bm.RowsD := Bm.rowsOf b.one b.other b.many
theorem BookOk.rows {b : BookD} (o : BookOk b) : Bm.RowsOk b.rows := Bm.rowsOk o.o1 o.o2 o.t1 o.t2 o.m1
def BeltsAt (K : PySem.W.Frag) (H : Hp) (p : Addr) (one other : Int) : Prop := ∃ dx, H p = some (.ins (He.ga K "Belts") dx (F_Belts one other))
def BookAt (K : PySem.W.Frag) (H : Hp) (p : Addr) (b : BookD) : Prop := ∃ dx pb dxb ps, H p = some (.ins (He.ga K "Book") dx (F_Book pb b.begin_ b.many ps)) ∧ H pb = some (.ins (He.ga K "Belts") dxb (F_Belts b.one b.other)) ∧ H ps = some (.tup (b.singles.map V.int))
abbrev F_R (r : Bm.RowsD) : List (Str × V) := F_Rows r.small r.great r.shared r.by' r.bound r.hung
def RowsAt (K : PySem.W.Frag) (H : Hp) (p : Addr) (r : Bm.RowsD) : Prop := ∃ dx, H p = some (.ins (He.ga K "Rows") dx (F_R r))
theorem BookAt.same {K : PySem.W.Frag} {H H' : Hp} {p : Addr} {b : BookD} (s : Same H H') (h : BookAt K H p b) : BookAt K H' p b := by
  obtain ⟨dx, pb, dxb, ps, h1, h2, h3⟩ := h
  exact ⟨dx, pb, dxb, ps, s _ _ h1, s _ _ h2, s _ _ h3⟩
theorem RowsAt.same {K : PySem.W.Frag} {H H' : Hp} {p : Addr} {r : Bm.RowsD} (s : Same H H') (h : RowsAt K H p r) : RowsAt K H' p r := by
  obtain ⟨dx, h⟩ := h
  exact ⟨dx, s _ _ h⟩
/-- all but what stands at p is as it was -/
def SameBut (p : Addr) (H H' : Hp) : Prop := ∀ c o, H c = some o → c ≠ p → H' c = some o
theorem SameBut.of {p : Addr} {H H' : Hp} (s : Same H H') : SameBut p H H' := fun c o e _ => s c o e
theorem SameBut.trans {p : Addr} {H H1 H2 : Hp} (a : SameBut p H H1) (b : SameBut p H1 H2) : SameBut p H H2 := fun c o e h => b c o (a c o e h) h
theorem SameBut.upd {p : Addr} {H H' : Hp} {o : HO} (s : SameBut p H H') : SameBut p H (upd H' p o) := fun c u e h => by
  rw [upd_ne h]
  exact s c u e h
theorem nf {fs : List (Str × V)} {f : Str} {v : V} (l : fs.lookup f = some v) : fs ≠ [] := by
  intro e
  rw [e] at l
  cases l
theorem min_if (i j : Int) : (if j < i then j else i) = min i j := by
  split <;> omega
theorem max_if (i j : Int) : (if j > i then j else i) = max i j := by
  split <;> omega
section
variable {P : Program} {w : World} {K : PySem.W.Frag} {mg : Str → Option Value} {base : Heap}
def spRowsInit (K : PySem.W.Frag) : Sp := fun vs H Q _ => ∃ (p dx b : Addr) (bk : BookD), vs = [.ref p, .ref b] ∧ H p = some (.ins (He.ga K "Rows") dx []) ∧ BookAt K H b bk ∧ BookOk bk ∧
  ∀ H', SameBut p H H' → H' p = some (.ins (He.ga K "Rows") dx (F_R bk.rows)) → Q .non H'
theorem c_Rows_init (T : Env K mg) : Cal P w K mg base 2 (He.fAd K D_Rows_init.at_) ["self", "book"] (spRowsInit K) := by
  obtain ⟨fd, F⟩ := T.d_Rows_init
  have sc : FnScope ["self", "book", "one", "other", "many"] ["self", "book"] (defScope S_Rows_init) := ⟨rfl, rfl, rfl, by decide +kernel, rfl, by decide +kernel, by decide +kernel⟩
  refine mkCal F sc (fun _ _ _ _ _ _ us hl => match us, hl with | [_, _], _ => rfl) (fun vs H Q E h => by obtain ⟨a, b, c, d, rfl, _⟩ := h; rfl) (fun cdv A outer s H vs Q E hr h => ?_)
  obtain ⟨p, dx, b, bk, rfl, hp, hb, ok, h⟩ := h
  refine ⟨_, pss_cons (ps_par (i := 2) (j := 3) rfl sc.nd rfl rfl (by decide) rfl rfl (pa_cons (pe_fld (pe_fld (pv 1) rfl) rfl) (pa_cons (pe_fld (pe_fld (pv 1) rfl) rfl) pa_nil)) (by rfl))
    (pss_cons (ps_fld (pv 0) (pe_callB (call_min2 rfl) rfl T.b_min (by decide +kernel) (pa_cons (pv 2) (pa_cons (pv 3) pa_nil))) rfl)
    (pss_cons (ps_fld (pv 0) (pe_callB (call_max2 rfl) rfl T.b_max (by decide +kernel) (pa_cons (pv 2) (pa_cons (pv 3) pa_nil))) rfl)
    (pss_cons (ps_fld (pv 0) (pe_c (c_common_part T) hr T.g_common_part (pa_cons (pv 2) (pa_cons (pv 3) pa_nil))) rfl)
    (pss_cons (ps_fld (pv 0) (pe_op op_mod (pe_fld (pv 0) rfl) (pe_fld (pv 0) rfl)) rfl)
    (pss_cons (ps_set (i := 4) sc.nd rfl (Or.inl rfl) (pe_callB (call_min2 rfl) rfl T.b_min (by decide +kernel) (pa_cons (pe_fld (pv 1) rfl) (pa_cons (pe_op op_sub (pe_op op_add (pe_fld (pv 0) rfl) (pe_fld (pv 0) rfl)) (pe_fld (pv 0) rfl)) pa_nil))))
    (pss_cons (ps_fld (pv 0) (pe_callB (call_max2 rfl) rfl T.b_max (by decide +kernel) (pa_cons pe_int (pa_cons (pe_op op_sub (pv 4) (pe_fld (pv 0) rfl)) pa_nil))) rfl)
    (pss_one (ps_fld (pv 0) (pe_callB (call_min2 rfl) rfl T.b_min (by decide +kernel) (pa_cons (pv 4) (pa_cons (pe_fld (pv 0) rfl) pa_nil))) rfl)))))))), ?_⟩
  obtain ⟨dxk, pb, dxb, ps, h1, h2, h3⟩ := hb
  have n1 : b ≠ p := ne_of h1 hp (by
    intro z
    injection z with _ _ z
    exact nf lk_Book_begin z)
  have n2 : pb ≠ p := ne_of h2 hp (by
    intro z
    injection z with _ _ z
    exact nf lk_Belts_one z)
  refine ⟨_, rfl, _, _, _, _, _, rfl, h1, T.c_Book, T.n_Book_belts, lk_Book_belts, _, _, _, _, _, rfl, h2, T.c_Belts, T.n_Belts_one, lk_Belts_one, _, rfl, _, _, _, _, _, rfl, h1, T.c_Book, T.n_Book_belts, lk_Book_belts, _, _, _, _, _, rfl, h2, T.c_Belts, T.n_Belts_other, lk_Belts_other, _, _, rfl, ?_⟩
  refine ⟨_, rfl, _, rfl, _, _, rfl, _, rfl, p, _, dx, _, rfl, hp, T.c_Rows, T.n_Rows_small, (few len0 (by decide)), ?_⟩
  refine ⟨_, rfl, _, rfl, _, _, rfl, _, rfl, p, _, dx, _, rfl, upd_same, T.c_Rows, T.n_Rows_great, (few (lenF len0) (by decide)), ?_⟩
  have o1 := ok.o1
  have o2 := ok.t1
  refine ⟨_, rfl, _, rfl, _, _, rfl, by omega, by omega, _, rfl, p, _, dx, _, rfl, upd_same, T.c_Rows, T.n_Rows_shared, (few (lenF (lenF len0)) (by decide)), ?_⟩
  refine ⟨_, rfl, _, _, _, _, _, rfl, upd_same, T.c_Rows, T.n_Rows_great, (by rw [lookup_putF, if_neg (by decide +kernel), lookup_putF, if_pos rfl]), _, rfl, _, _, _, _, _, rfl, upd_same, T.c_Rows, T.n_Rows_small, (by rw [lookup_putF, if_neg (by decide +kernel), lookup_putF, if_neg (by decide +kernel), lookup_putF, if_pos rfl]), _, _, rfl, rfl, ?_, ?_⟩
  · rw [min_if]
    omega
  refine ⟨_, rfl, p, _, dx, _, rfl, upd_same, T.c_Rows, T.n_Rows_by, (few (lenF (lenF (lenF len0))) (by decide)), ?_⟩
  have hb' : ∀ o, upd (upd (upd (upd H p o) p o) p o) p o = upd H p o := fun o => by rw [upd_upd, upd_upd, upd_upd]
  simp only [upd_upd]
  refine ⟨_, rfl, _, _, _, _, _, rfl, (by rw [upd_ne n1]; exact h1), T.c_Book, T.n_Book_many, lk_Book_many, _, rfl, _, _, _, _, _, rfl, upd_same, T.c_Rows, T.n_Rows_small, (by rw [lookup_putF, if_neg (by decide +kernel), lookup_putF, if_neg (by decide +kernel), lookup_putF, if_neg (by decide +kernel), lookup_putF, if_pos rfl]), _, rfl, _, _, _, _, _, rfl, upd_same, T.c_Rows, T.n_Rows_great, (by rw [lookup_putF, if_neg (by decide +kernel), lookup_putF, if_neg (by decide +kernel), lookup_putF, if_pos rfl]), _, _, rfl, rfl, _, rfl, _, _, _, _, _, rfl, upd_same, T.c_Rows, T.n_Rows_shared, (by rw [lookup_putF, if_neg (by decide +kernel), lookup_putF, if_pos rfl]), _, _, rfl, rfl, _, _, rfl, ?_⟩
  refine ⟨_, rfl, _, rfl, _, _, _, _, _, rfl, upd_same, T.c_Rows, T.n_Rows_great, (by rw [lookup_putF, if_neg (by decide +kernel), lookup_putF, if_neg (by decide +kernel), lookup_putF, if_pos rfl]), _, _, rfl, rfl, _, _, rfl, _, rfl, p, _, dx, _, rfl, upd_same, T.c_Rows, T.n_Rows_bound, (few (lenF (lenF (lenF (lenF len0)))) (by decide)), ?_⟩
  refine ⟨_, rfl, _, rfl, _, _, _, _, _, rfl, upd_same, T.c_Rows, T.n_Rows_great, (by rw [lookup_putF, if_neg (by decide +kernel), lookup_putF, if_neg (by decide +kernel), lookup_putF, if_neg (by decide +kernel), lookup_putF, if_pos rfl]), _, _, rfl, _, rfl, p, _, dx, _, rfl, upd_same, T.c_Rows, T.n_Rows_hung, (few (lenF (lenF (lenF (lenF (lenF len0))))) (by decide)), ?_⟩
  refine h _ (SameBut.upd (SameBut.upd (SameBut.upd (SameBut.of (Same.refl H))))) ?_
  rw [upd_same]
  simp only [min_if, max_if]
  rfl
def spSteps (K : PySem.W.Frag) (f : Bm.RowsD → Int → Int) : Sp := fun vs H Q _ => ∃ (p : Addr) (r : Bm.RowsD) (a : Int), vs = [.ref p, .int a] ∧ RowsAt K H p r ∧ Bm.RowsOk r ∧ ∀ H', Same H H' → Q (.int (f r a)) H'
theorem c_steps_on (T : Env K mg) : Cal P w K mg base 4 (He.fAd K D_Rows_steps_on.at_) ["self", "place"] (spSteps K Bm.stepsOn) := by
  obtain ⟨fd, F⟩ := T.d_Rows_steps_on
  have sc : FnScope ["self", "place"] ["self", "place"] (defScope S_Rows_steps_on) := ⟨rfl, rfl, rfl, by decide +kernel, rfl, by decide +kernel, by decide +kernel⟩
  refine mkCal F sc (fun _ _ _ _ _ _ us hl => match us, hl with | [_, _], _ => rfl) (fun vs H Q E h => by obtain ⟨a, b, c, rfl, _⟩ := h; rfl) (fun cdv A outer s H vs Q E hr h => ?_)
  obtain ⟨p, r, a, rfl, ⟨dx, hp⟩, ok, h⟩ := h
  refine ⟨_, pss_cons (ps_if (pt_cmpR op_eq (pe_fld (pv 0) rfl) pe_int (nomark _)) (pss_one (ps_ret pe_int)) pss_nil)
    (pss_one (ps_ret (pe_c (c_first_in T) hr T.g_first_in (pa_cons (pv 1) (pa_cons (pe_fld (pv 0) rfl) (pa_cons (pe_fld (pv 0) rfl) (pa_cons (pe_fld (pv 0) rfl) (pa_cons (pe_op op_sub (pe_fld (pv 0) rfl) pe_int) pa_nil)))))))), ?_⟩
  refine ⟨_, rfl, _, _, _, _, _, rfl, hp, T.c_Rows, T.n_Rows_bound, lk_Rows_bound, rfl, _, rfl, ?_⟩
  have o1 := ok.s0
  have o2 := ok.sg
  have o3 := ok.gB
  have o4 := ok.bs
  have o5 := ok.b0
  have o6 := ok.sh_pos
  by_cases c : r.bound = 0
  · refine ite_tt (decide_eq_true (by rw [c])) ?_
    have := h H (Same.refl H)
    rw [Bm.stepsOn_0 ok c] at this
    exact this
  · refine ite_ff (decide_eq_false (fun z => c (by injection z))) ?_
    refine ⟨_, rfl, _, rfl, _, _, _, _, _, rfl, hp, T.c_Rows, T.n_Rows_by, lk_Rows_by, _, rfl, _, _, _, _, _, rfl, hp, T.c_Rows, T.n_Rows_small, lk_Rows_small, _, rfl, _, _, _, _, _, rfl, hp, T.c_Rows, T.n_Rows_bound, lk_Rows_bound, _, rfl, _, _, _, _, _, rfl, hp, T.c_Rows, T.n_Rows_small, lk_Rows_small, _, _, rfl, rfl, ?_⟩
    refine ⟨a, r.by', r.small, r.bound, r.small - 1, rfl, by omega, by omega, by omega, by omega, by omega, ?_, fun x H' sm le => ?_⟩
    · rw [ok.gcd_by]
      omega
    · have := h H' sm
      rw [Bm.stepsOn_eq le] at this
      exact this
theorem c_steps_back (T : Env K mg) : Cal P w K mg base 4 (He.fAd K D_Rows_steps_back.at_) ["self", "place"] (spSteps K Bm.stepsBack) := by
  obtain ⟨fd, F⟩ := T.d_Rows_steps_back
  have sc : FnScope ["self", "place"] ["self", "place"] (defScope S_Rows_steps_back) := ⟨rfl, rfl, rfl, by decide +kernel, rfl, by decide +kernel, by decide +kernel⟩
  refine mkCal F sc (fun _ _ _ _ _ _ us hl => match us, hl with | [_, _], _ => rfl) (fun vs H Q E h => by obtain ⟨a, b, c, rfl, _⟩ := h; rfl) (fun cdv A outer s H vs Q E hr h => ?_)
  obtain ⟨p, r, a, rfl, ⟨dx, hp⟩, ok, h⟩ := h
  refine ⟨_, pss_cons (ps_if (pt_cmpR op_eq (pe_fld (pv 0) rfl) pe_int (nomark _)) (pss_one (ps_ret pe_int)) pss_nil)
    (pss_one (ps_ret (pe_c (c_first_in T) hr T.g_first_in (pa_cons (pe_op op_sub (pv 1) (pe_fld (pv 0) rfl)) (pa_cons (pe_op op_sub pe_int (pe_fld (pv 0) rfl)) (pa_cons (pe_fld (pv 0) rfl) (pa_cons (pe_fld (pv 0) rfl) (pa_cons (pe_op op_sub (pe_fld (pv 0) rfl) pe_int) pa_nil)))))))), ?_⟩
  refine ⟨_, rfl, _, _, _, _, _, rfl, hp, T.c_Rows, T.n_Rows_bound, lk_Rows_bound, rfl, _, rfl, ?_⟩
  have o1 := ok.s0
  have o2 := ok.sg
  have o3 := ok.gB
  have o4 := ok.bs
  have o5 := ok.b0
  have o6 := ok.sh_pos
  by_cases c : r.bound = 0
  · refine ite_tt (decide_eq_true (by rw [c])) ?_
    have := h H (Same.refl H)
    rw [Bm.stepsBack_0 ok c] at this
    exact this
  · refine ite_ff (decide_eq_false (fun z => c (by injection z))) ?_
    refine ⟨_, rfl, _, rfl, _, _, _, _, _, rfl, hp, T.c_Rows, T.n_Rows_by, lk_Rows_by, _, _, rfl, rfl, _, rfl, _, _, _, _, _, rfl, hp, T.c_Rows, T.n_Rows_by, lk_Rows_by, _, _, rfl, rfl, _, rfl, _, _, _, _, _, rfl, hp, T.c_Rows, T.n_Rows_small, lk_Rows_small, _, rfl, _, _, _, _, _, rfl, hp, T.c_Rows, T.n_Rows_bound, lk_Rows_bound, _, rfl, _, _, _, _, _, rfl, hp, T.c_Rows, T.n_Rows_small, lk_Rows_small, _, _, rfl, rfl, ?_⟩
    refine ⟨a - r.by', 0 - r.by', r.small, r.bound, r.small - 1, rfl, by omega, by omega, by omega, by omega, by omega, ?_, fun x H' sm le => ?_⟩
    · rw [ok.gcd_by']
      omega
    · have := h H' sm
      rw [Bm.stepsBack_eq le] at this
      exact this
theorem c_end_of (T : Env K mg) : Cal P w K mg base 5 (He.fAd K D_Rows_end_of.at_) ["self", "place"] (spSteps K Bm.endOf) := by
  obtain ⟨fd, F⟩ := T.d_Rows_end_of
  have sc : FnScope ["self", "place"] ["self", "place"] (defScope S_Rows_end_of) := ⟨rfl, rfl, rfl, by decide +kernel, rfl, by decide +kernel, by decide +kernel⟩
  refine mkCal F sc (fun _ _ _ _ _ _ us hl => match us, hl with | [_, _], _ => rfl) (fun vs H Q E h => by obtain ⟨a, b, c, rfl, _⟩ := h; rfl) (fun cdv A outer s H vs Q E hr h => ?_)
  obtain ⟨p, r, a, rfl, ⟨dx, hp⟩, ok, h⟩ := h
  refine ⟨_, pss_one (ps_ret (pe_op op_mod (pe_op op_add (pv 1) (pe_op op_mulW (pe_fld (pv 0) rfl) (pe_m (c_steps_on T) T.c_Rows T.m_Rows_steps_on hr (pv 0) (pa_cons (pv 1) pa_nil)))) (pe_fld (pv 0) rfl))), ?_⟩
  refine ⟨_, rfl, _, rfl, _, _, _, _, _, rfl, hp, T.c_Rows, T.n_Rows_by, lk_Rows_by, _, rfl, _, _, _, rfl, hp, lk_Rows_m_steps_on, _, rfl, p, r, a, rfl, ⟨dx, hp⟩, ok, fun H' sm => ?_⟩
  have b := ok.steps_on_b a
  have o1 := ok.by0
  have o2 := ok.byS
  have o3 := ok.sg
  have o4 := ok.gB
  have o5 := ok.s0
  refine ⟨_, _, rfl, rfl, wmul (by omega) (by omega) (by omega) (by omega), _, _, rfl, rfl, _, rfl, _, _, _, _, _, rfl, sm _ _ hp, T.c_Rows, T.n_Rows_small, lk_Rows_small, _, _, rfl, rfl, (by show 0 < r.small; omega), ?_⟩
  exact h H' sm
end
end Bt
namespace Bt
open PySem PySem.Spec PyProof.Rows L2
section
variable {P : Program} {w : World} {K : PySem.W.Frag} {mg : Str → Option Value} {base : Heap}
def spBeltsInit (K : PySem.W.Frag) : Sp := fun vs H Q _ => ∃ (p dx : Addr) (a b : Int), vs = [.ref p, .int a, .int b] ∧ H p = some (.ins (He.ga K "Belts") dx []) ∧ (1 ≤ a ∧ a ≤ 10 ^ 30) ∧ (1 ≤ b ∧ b ≤ 10 ^ 30) ∧
  ∀ H', SameBut p H H' → H' p = some (.ins (He.ga K "Belts") dx (F_Belts a b)) → Q .non H'
theorem c_Belts_init (T : Env K mg) : Cal P w K mg base 3 (He.fAd K D_Belts_init.at_) ["self", "one", "other"] (spBeltsInit K) := by
  obtain ⟨fd, F⟩ := T.d_Belts_init
  have sc : FnScope ["self", "one", "other"] ["self", "one", "other"] (defScope S_Belts_init) := ⟨rfl, rfl, rfl, by decide +kernel, rfl, by decide +kernel, by decide +kernel⟩
  refine mkCal F sc (fun _ _ _ _ _ _ us hl => match us, hl with | [_, _, _], _ => rfl) (fun vs H Q E h => by obtain ⟨a, b, c, d, rfl, _⟩ := h; rfl) (fun cdv A outer s H vs Q E hr h => ?_)
  obtain ⟨p, dx, a, b, rfl, hp, ha, hb, h⟩ := h
  refine ⟨_, pss_cons (ps_if (PW.pt (pw_or (pt_not (pt_val (pe_c (c_is_between T) hr T.g_is_between (pa_cons (pv 1) (pa_cons pe_int (pa_cons (pe_gi T.i_MOST_CUPS) pa_nil))))))
      (pw_or1 (pt_not (pt_val (pe_c (c_is_between T) hr T.g_is_between (pa_cons (pv 2) (pa_cons pe_int (pa_cons (pe_gi T.i_MOST_CUPS) pa_nil))))))))) (pss_one ps_never) pss_nil)
    (pss_cons (ps_fld (pv 0) (pv 1) rfl) (pss_one (ps_fld (pv 0) (pv 2) rfl))), ?_⟩
  refine ⟨_, rfl, _, _, _, true, rfl, decide_eq_true (by omega), _, rfl, ?_⟩
  refine iteF ⟨_, rfl, _, _, _, true, rfl, decide_eq_true (by omega), _, rfl, ?_⟩
  refine iteF ?_
  refine ⟨_, rfl, _, rfl, p, _, dx, _, rfl, hp, T.c_Belts, T.n_Belts_one, (few len0 (by decide)), ?_⟩
  refine ⟨_, rfl, _, rfl, p, _, dx, _, rfl, upd_same, T.c_Belts, T.n_Belts_other, (few (lenF len0) (by decide)), ?_⟩
  exact h _ (SameBut.upd (SameBut.upd (SameBut.of (Same.refl H)))) upd_same
def spIsFar : Sp := fun vs H Q _ => ∃ a : Int, vs = [.int a] ∧ (-(10 ^ 60) ≤ a ∧ a ≤ 10 ^ 60) ∧ Q (.bl true) H
theorem c_is_far (T : Env K mg) : Cal P w K mg base 3 (He.fAd K D_is_far.at_) ["thing"] spIsFar := by
  obtain ⟨fd, F⟩ := T.d_is_far
  have sc : FnScope ["thing"] ["thing"] (defScope S_is_far) := ⟨rfl, rfl, rfl, by decide +kernel, rfl, by decide +kernel, by decide +kernel⟩
  refine mkCal F sc (fun _ _ _ _ _ _ us hl => match us, hl with | [_], _ => rfl) (fun vs H Q E h => by obtain ⟨a, rfl, _⟩ := h; rfl) (fun cdv A outer s H vs Q E hr h => ?_)
  obtain ⟨a, rfl, ha, h⟩ := h
  refine ⟨_, pss_one (ps_ret (pe_c (c_is_between T) hr T.g_is_between (pa_cons (pv 0) (pa_cons (pe_op op_sub pe_int (pe_gi T.i_MOST_BEAT)) (pa_cons (pe_gi T.i_MOST_BEAT) pa_nil))))), ?_⟩
  exact ⟨_, rfl, _, _, rfl, rfl, _, _, _, true, rfl, decide_eq_true (by omega), h⟩
def spAreSingles (K : PySem.W.Frag) : Sp := fun vs H Q _ => ∃ (t : Addr) (ns : List Int), vs = [.ref t] ∧ H t = some (.tup (ns.map V.int)) ∧ ns.length ≤ 100 ∧ (∀ n ∈ ns, -(10 ^ 60) ≤ n ∧ n ≤ 10 ^ 60) ∧ ns.Nodup ∧ ∀ H', Same H H' → Q (.bl true) H'
theorem c_are_singles (T : Env K mg) : Cal P w K mg base 4 (He.fAd K D_are_singles.at_) ["thing"] (spAreSingles K) := by
  obtain ⟨fd, F⟩ := T.d_are_singles
  have sc : FnScope ["thing", "beat"] ["thing"] (defScope S_are_singles) := ⟨rfl, rfl, rfl, by decide +kernel, rfl, by decide +kernel, by decide +kernel⟩
  refine mkCal F sc (fun _ _ _ _ _ _ us hl => match us, hl with | [_], _ => rfl) (fun vs H Q E h => by obtain ⟨a, b, rfl, _⟩ := h; rfl) (fun cdv A outer s H vs Q E hr h => ?_)
  obtain ⟨t, ns, rfl, ht, hl, hb, hn, h⟩ := h
  refine ⟨_, pss_cons (ps_if (PW.pt (pw_or (pt_not (pt_val (pe_callB call_isi rfl T.b_isinstance (by decide +kernel) (pa_cons (pv 0) (pa_cons (pe_ty (n := "tuple") T.b_tuple (by decide +kernel)) pa_nil)))))
      (pw_or (pt_cmpR op_gt (pe_callB call_len rfl T.b_len (by decide +kernel) (pa_cons (pv 0) pa_nil)) (pe_gi T.i_MOST_SINGLES) (nomark _))
      (pw_or1 (pt_not (pt_val (pe_callB (cr_all rfl) rfl T.b_all (by decide +kernel) (pa_cons
        (pe_lc (own := [("beat", 1)]) (g := gName 1) (tt := tYes) rfl sc.nd (pi_tup (pv 0)) (blkOk_by (own := [("beat", 1)]) (N := ["thing", "beat"]) (sc := defScope S_are_singles) (by decide +kernel)) (fun _ _ _ _ _ => pg_name (i := 1) sc.nd rfl (Or.inl rfl)) (fun _ _ _ _ _ => pts_nil)
          (fun _ _ _ _ _ => pe_c (c_is_far T) hr T.g_is_far (pa_cons (pv 1) pa_nil))) pa_nil)))))))) (pss_one (ps_ret pe_bl)) pss_nil)
    (pss_one (ps_ret (pe_cmpR op_eq (pe_lenSetT T.b_len T.b_set (pv 0)) (pe_callB call_len rfl T.b_len (by decide +kernel) (pa_cons (pv 0) pa_nil)) (nomark _)))), ?_⟩
  refine ⟨_, rfl, _, _, _, _, true, rfl, .ty "tuple", .base (.tup ht), kit_ty (by decide +kernel), true, rfl, ?_⟩
  refine iteF ?_
  refine ⟨_, rfl, _, ns.length, rfl, .inr ⟨_, SqT.of ht, by simp⟩, _, _, rfl, rfl, _, rfl, ite_ff (decide_eq_false (by omega)) ?_⟩
  refine ⟨_, rfl, t, rfl, ⟨_, SqT.of ht⟩, fun D nD => ?_⟩
  refine lc_tup (K := K) (a := t) (xs := ns.map V.int) (fun i H' => Same H H' ∧ H' D = some (.lst ((List.replicate i true).map V.bl))) ⟨Same.new nD, upd_same⟩ (fun i H' _ z => Same.seqT z.1 (SqT.of ht)) ?_ ?_
  · rintro i x H' hx ⟨sm, hD⟩
    obtain ⟨n, hn', rfl⟩ : ∃ n, ns[i]? = some n ∧ x = V.int n := by
      rw [List.getElem?_map] at hx
      cases e : ns[i]? with
      | none => rw [e] at hx; cases hx
      | some n => rw [e] at hx; exact ⟨n, rfl, (Option.some.inj hx).symm⟩
    have hi : i < ns.length := (List.getElem?_eq_some_iff.mp hn').1
    refine ⟨rfl, ?_⟩
    unfold tYes
    refine iteT ?_
    refine ⟨_, rfl, n, rfl, hb n (List.mem_of_getElem? hn'), _, hD, ?_, fun x o e => ?_, ?_⟩
    · rw [List.length_map, List.length_replicate, size16]
      omega
    · rw [upd_ne (ne_of_none e nD)]
      exact sm x o e
    · rw [upd_same, List.replicate_succ']
      simp
  · rintro H' ⟨sm, hD⟩
    rw [List.length_map] at hD
    refine ⟨D, List.replicate ns.length true, rfl, SqL.of hD, _, rfl, ?_⟩
    have e : (List.replicate ns.length true).all id = true := by simp
    rw [e]
    refine iteF ?_
    refine ⟨_, rfl, t, ns, rfl, Same.seqT sm (SqT.of ht), hn, by omega, _, rfl, _, ns.length, rfl, .inr ⟨_, Same.seqT sm (SqT.of ht), by simp⟩, rfl, ?_⟩
    rw [decide_eq_true rfl]
    exact h H' sm
def spBookInit (K : PySem.W.Frag) : Sp := fun vs H Q _ => ∃ (p dx pb dxb ps : Addr) (b : BookD), vs = [.ref p, .ref pb, .int b.begin_, .int b.many, .ref ps] ∧ H p = some (.ins (He.ga K "Book") dx []) ∧ H pb = some (.ins (He.ga K "Belts") dxb (F_Belts b.one b.other)) ∧
  H ps = some (.tup (b.singles.map V.int)) ∧ BookOk b ∧ ∀ H', SameBut p H H' → BookAt K H' p b → Q .non H'
theorem c_Book_init (T : Env K mg) : ∃ fd, FnOk P w K mg base CX0 5 (He.fAd K D_Book_init.at_) fd ["self", "belts", "begin", "many", "singles"] (spBookInit K) ∧
    KBn K fd ["self", "belts", "begin", "many", "singles"] 2 ["begin", "many", "singles"] (fun us ws => us ++ ws) (fun vs zs => vs ++ zs) := by
  obtain ⟨fd, F⟩ := T.d_Book_init
  have sc : FnScope ["self", "belts", "begin", "many", "singles"] ["self", "belts", "begin", "many", "singles"] (defScope S_Book_init) := ⟨rfl, rfl, rfl, by decide +kernel, rfl, by decide +kernel, by decide +kernel⟩
  refine ⟨fd, F.ok (k := 4) sc (fun vs H Q E h => by obtain ⟨a, b, c, d, e, f, rfl, _⟩ := h; rfl) (fun cdv A outer s H vs Q E hr h => ?_), ⟨fun s us ws X l1 l2 => ?_, fun r1 r2 => r1.append r2⟩⟩
  · obtain ⟨p, dx, pb, dxb, ps, b, rfl, hp, h1, h2, ok, h⟩ := h
    have hr2 : Room 2 _ := hr.mono (by decide)
    have hr3 : Room 3 _ := hr.mono (by decide)
    refine ⟨_, PSs.nox (pss_cons (ps_if (pt_not (pt_val (pe_callB call_isi rfl T.b_isinstance (by decide +kernel) (pa_cons (pv 1) (pa_cons (pe_glob (v := .ref (He.ga K "Belts")) rfl T.g_Belts rfl) pa_nil))))) (pss_one ps_never) pss_nil)
      (pss_cons (ps_if (pt_not (pt_val (pe_c (c_is_far T) hr3 T.g_is_far (pa_cons (pv 2) pa_nil)))) (pss_one ps_never) pss_nil)
      (pss_cons (ps_if (pt_not (pt_val (pe_c (c_is_between T) hr2 T.g_is_between (pa_cons (pv 3) (pa_cons pe_int (pa_cons (pe_gi T.i_MOST_MANY) pa_nil)))))) (pss_one ps_never) pss_nil)
      (pss_cons (ps_if (pt_not (pt_val (pe_c (c_are_singles T) hr T.g_are_singles (pa_cons (pv 4) pa_nil)))) (pss_one ps_never) pss_nil)
      (pss_cons (ps_fld (pv 0) (pv 1) rfl) (pss_cons (ps_fld (pv 0) (pv 2) rfl) (pss_cons (ps_fld (pv 0) (pv 3) rfl) (pss_one (ps_fld (pv 0) (pv 4) rfl))))))))), ?_⟩
    refine ⟨_, rfl, _, _, _, _, true, rfl, .own _, .base (T.isBelts h1), if_pos (beq_self_eq_true _), true, rfl, iteF ?_⟩
    refine ⟨_, rfl, _, rfl, ⟨ok.g1, ok.g2⟩, true, rfl, iteF ?_⟩
    refine ⟨_, rfl, _, _, _, true, rfl, decide_eq_true ⟨ok.m1, ok.m2⟩, _, rfl, ?_⟩
    refine iteF ?_
    refine ⟨_, rfl, ps, b.singles, rfl, h2, ok.sl, ok.sb, ok.sn, fun H' sm => ⟨true, rfl, iteF ?_⟩⟩
    have hp' := sm _ _ hp
    have n1 : pb ≠ p := ne_of h1 hp (by
      intro z
      injection z with _ _ z
      exact nf lk_Belts_one z)
    have n2 : ps ≠ p := ne_of h2 hp (by intro z; cases z)
    refine ⟨_, rfl, _, rfl, p, _, dx, _, rfl, hp', T.c_Book, T.n_Book_belts, (few len0 (by decide)), ?_⟩
    refine ⟨_, rfl, _, rfl, p, _, dx, _, rfl, upd_same, T.c_Book, T.n_Book_begin, (few (lenF len0) (by decide)), ?_⟩
    refine ⟨_, rfl, _, rfl, p, _, dx, _, rfl, upd_same, T.c_Book, T.n_Book_many, (few (lenF (lenF len0)) (by decide)), ?_⟩
    refine ⟨_, rfl, _, rfl, p, _, dx, _, rfl, upd_same, T.c_Book, T.n_Book_singles, (few (lenF (lenF (lenF len0))) (by decide)), ?_⟩
    simp only [upd_upd]
    exact h _ (SameBut.upd (SameBut.of sm)) ⟨dx, pb, dxb, ps, upd_same, by rw [upd_ne n1]; exact sm _ _ h1, by rw [upd_ne n2]; exact sm _ _ h2⟩
  · obtain ⟨oc, od, dV, kV, doc, pm, an, cdv, ct, osl, rfl, _, _, hD, _⟩ := F.ex
    obtain rfl : dV = .none := by
      rcases hD with ⟨_, e⟩ | ⟨e, _⟩
      · exact e
      · exact absurd rfl e
    match us, ws, l1, l2 with
    | [_, _], [_, _, _], _, _ => exact BindsTo.of_eq (by first | rfl | with_unfolding_all rfl | kernel_rfl)
end
end Bt
namespace Bt
open PySem PySem.Spec PyProof.Rows L2
open Bm (SpotD LinkD WayL smallSpot greatSpot IsLink)
/-! ### spots, links, a net in the heap -/
def leafV : Option Int → V
  | none => .non
  | some c => .int c
def SpotAt (H : Hp) (a : Addr) (s : SpotD) : Prop := H a = some (.tup [.int s.row, .int s.at_, leafV s.leaf])
def LinkAt (H : Hp) (a : Addr) (l : LinkD) : Prop := ∃ p q, H a = some (.tup [.ref p, .int l.beat, .ref q]) ∧ SpotAt H p l.src ∧ SpotAt H q l.dst
/-- all tuples stand -/
def TupKeep (H H' : Hp) : Prop := ∀ b xs, H b = some (.tup xs) → H' b = some (.tup xs)
theorem TupKeep.of {H H' : Hp} (s : Same H H') : TupKeep H H' := fun b xs e => s b _ e
theorem TupKeep.trans {H H1 H2 : Hp} (a : TupKeep H H1) (b : TupKeep H1 H2) : TupKeep H H2 := fun c xs e => b c xs (a c xs e)
theorem TupKeep.upd {H H' : Hp} {p : Addr} {o : HO} (k : TupKeep H H') (hp : ∀ xs, H' p ≠ some (.tup xs)) : TupKeep H (upd H' p o) := fun b xs e => by
  have hb := k b xs e
  have n : b ≠ p := fun z => hp xs (by rw [← z]; exact hb)
  rw [upd_ne n]
  exact hb
theorem SpotAt.keep {H H' : Hp} {a : Addr} {s : SpotD} (k : TupKeep H H') (h : SpotAt H a s) : SpotAt H' a s := k _ _ h
theorem LinkAt.keep {H H' : Hp} {a : Addr} {l : LinkD} (k : TupKeep H H') (h : LinkAt H a l) : LinkAt H' a l := by
  obtain ⟨p, q, h1, h2, h3⟩ := h
  exact ⟨p, q, k _ _ h1, k _ _ h2, k _ _ h3⟩
def NetAt (K : PySem.W.Frag) (H : Hp) (p : Addr) (b : BookD) : Prop := ∃ dx pr ps, H p = some (.ins (He.ga K "Net") dx (F_Net pr b.begin_ ps (decide (b.other < b.one)))) ∧ RowsAt K H pr b.rows ∧ H ps = some (.lst ((b.singles.map fun t => t - b.begin_).map V.int))
abbrev BookD.rel (b : BookD) : List Int := b.singles.map fun t => t - b.begin_
theorem NetAt.same {K : PySem.W.Frag} {H H' : Hp} {p : Addr} {b : BookD} (s : Same H H') (h : NetAt K H p b) : NetAt K H' p b := by
  obtain ⟨dx, pr, ps, h1, h2, h3⟩ := h
  exact ⟨dx, pr, ps, s _ _ h1, h2.same s, s _ _ h3⟩
theorem int_at {ns : List Int} {i : Nat} {x : V} (hx : (ns.map V.int)[i]? = some x) : ∃ n, ns[i]? = some n ∧ x = V.int n := by
  rw [List.getElem?_map] at hx
  cases e : ns[i]? with
  | none => rw [e] at hx; cases hx
  | some n => rw [e] at hx; exact ⟨n, rfl, (Option.some.inj hx).symm⟩
section
variable {P : Program} {w : World} {K : PySem.W.Frag} {mg : Str → Option Value} {base : Heap}
def spNetInit (K : PySem.W.Frag) : Sp := fun vs H Q _ => ∃ (p dx b : Addr) (bk : BookD), vs = [.ref p, .ref b] ∧ H p = some (.ins (He.ga K "Net") dx []) ∧ BookAt K H b bk ∧ BookOk bk ∧ ∀ H', SameBut p H H' → NetAt K H' p bk → Q .non H'
theorem c_Net_init (T : Env K mg) : Cal P w K mg base 4 (He.fAd K D_Net_init.at_) ["self", "book"] (spNetInit K) := by
  obtain ⟨fd, F⟩ := T.d_Net_init
  have sc : FnScope ["self", "book", "beat"] ["self", "book"] (defScope S_Net_init) := ⟨rfl, rfl, rfl, by decide +kernel, rfl, by decide +kernel, by decide +kernel⟩
  refine mkCal F sc (fun _ _ _ _ _ _ us hl => match us, hl with | [_, _], _ => rfl) (fun vs H Q E h => by obtain ⟨a, b, c, d, rfl, _⟩ := h; rfl) (fun cdv A outer s H vs Q E hr h => ?_)
  obtain ⟨p, dx, b, bk, rfl, hp, hb, ok, h⟩ := h
  refine ⟨_, pss_cons (ps_fld (pv 0) (pe_mk (c_Rows_init T) T.k_Rows hr T.g_Rows (pa_cons (pv 1) pa_nil)) rfl)
    (pss_cons (ps_fld (pv 0) (pe_fld (pv 1) rfl) rfl)
    (pss_cons (ps_fld (pv 0) (pe_lc (own := [("beat", 2)]) (g := gName 2) (tt := tYes) (te := tOp (rI0 fun i j => .int (i - j)) (tVar 2) (tFld K (tVar 1) "begin")) rfl sc.nd (pi_tup (pe_fld (pv 1) rfl)) (blkOk_by (own := [("beat", 2)]) (N := ["self", "book", "beat"]) (sc := defScope S_Net_init) (by decide +kernel)) (fun _ _ _ _ _ => pg_name (i := 2) sc.nd rfl (Or.inl rfl)) (fun _ _ _ _ _ => pts_nil)
          (fun _ _ _ _ _ => by exact (pe_op op_sub (pv 2) (pe_fld (pv 1) rfl)))) rfl)
    (pss_one (ps_fld (pv 0) (by exact (pe_cmpR op_gt (pe_fld (pe_fld (pv 1) rfl) rfl) (pe_fld (pe_fld (pv 1) rfl) rfl) (nomark _))) rfl)))), ?_⟩
  obtain ⟨dxk, pb, dxb, ps, h1, h2, h3⟩ := id hb
  have n1 : b ≠ p := ne_of h1 hp (by
    intro z
    injection z with _ _ z
    exact nf lk_Book_begin z)
  have n2 : pb ≠ p := ne_of h2 hp (by
    intro z
    injection z with _ _ z
    exact nf lk_Belts_one z)
  have n3 : ps ≠ p := ne_of h3 hp (by intro z; cases z)
  refine ⟨_, rfl, fun x dxr nx ndx nxx => ?_⟩
  have s0 : Same H (upd (upd H dxr (.own x)) x (.ins (He.ga K "Rows") dxr [])) := Same.upd1 (Same.upd1 (Same.refl H) ndx) (by rw [upd_ne (Ne.symm nxx)]; exact nx)
  refine ⟨x, dxr, b, bk, rfl, upd_same, hb.same s0, ok, fun H1 sb hx => ⟨rfl, ?_⟩⟩
  have s1 : Same H H1 := fun c o e => sb c o (s0 c o e) (ne_of_none e nx)
  have px : p ≠ x := ne_of_none hp nx
  refine ⟨_, rfl, p, _, dx, _, rfl, s1 _ _ hp, T.c_Net, T.n_Net_rows, (few len0 (by decide)), ?_⟩
  refine ⟨_, rfl, _, _, _, _, _, rfl, (by rw [upd_ne n1]; exact s1 _ _ h1), T.c_Book, T.n_Book_begin, lk_Book_begin, _, rfl, p, _, dx, _, rfl, upd_same, T.c_Net, T.n_Net_begin, (few (lenF len0) (by decide)), ?_⟩
  simp only [upd_upd]
  refine ⟨_, rfl, _, _, _, _, _, rfl, (by rw [upd_ne n1]; exact s1 _ _ h1), T.c_Book, T.n_Book_singles, lk_Book_singles, ps, rfl, ⟨_, SqT.of (by rw [upd_ne n3]; exact s1 _ _ h3)⟩, fun D nD => ?_⟩
  have pD : p ≠ D := ne_of_none upd_same nD
  have sD : ∀ o, Same (upd H1 p o) (upd (upd H1 p o) D (.lst [])) → True := fun _ _ => trivial
  generalize hH2 : upd H1 p _ = H2 at nD ⊢
  have k1 : H2 b = some (.ins (He.ga K "Book") dxk (F_Book pb bk.begin_ bk.many ps)) := by rw [← hH2, upd_ne n1]; exact s1 _ _ h1
  have k2 : H2 pb = some (.ins (He.ga K "Belts") dxb (F_Belts bk.one bk.other)) := by rw [← hH2, upd_ne n2]; exact s1 _ _ h2
  have k3 : H2 ps = some (.tup (bk.singles.map V.int)) := by rw [← hH2, upd_ne n3]; exact s1 _ _ h3
  have k4 : H2 x = some (.ins (He.ga K "Rows") dxr (F_R bk.rows)) := by rw [← hH2, upd_ne (Ne.symm px)]; exact hx
  have k5 : SameBut p H H2 := by rw [← hH2]; exact SameBut.upd (SameBut.of s1)
  refine lc_tup (K := K) (a := ps) (xs := bk.singles.map V.int) (fun i H' => Same H2 H' ∧ H' D = some (.lst ((bk.singles.take i).map fun t => V.int (t - bk.begin_)))) ⟨Same.new nD, upd_same⟩ (fun i H' _ z => Same.seqT z.1 (SqT.of k3)) ?_ ?_
  · rintro i y H' hy ⟨sm, hD⟩
    obtain ⟨n, hn', rfl⟩ := int_at hy
    have hi : i < bk.singles.length := (List.getElem?_eq_some_iff.mp hn').1
    refine ⟨rfl, ?_⟩
    unfold tYes
    refine iteT ?_
    refine ⟨_, rfl, _, rfl, _, _, _, _, _, rfl, sm _ _ k1, T.c_Book, T.n_Book_begin, lk_Book_begin, _, _, rfl, rfl, _, hD, ?_, fun z o e => ?_, ?_⟩
    · rw [List.length_map, List.length_take, size16]
      have := ok.sl
      omega
    · rw [upd_ne (ne_of_none e nD)]
      exact sm z o e
    · rw [upd_same, List.take_add_one, hn']
      simp
  · rintro H' ⟨sm, hD⟩
    rw [List.length_map, List.take_length] at hD
    have kp : H' p = some (.ins (He.ga K "Net") dx (putF "begin" (.int bk.begin_) (putF "rows" (.ref x) []))) := sm _ _ (by rw [← hH2, upd_same])
    refine ⟨_, rfl, p, _, dx, _, rfl, kp, T.c_Net, T.n_Net_singles, (few (lenF (lenF len0)) (by decide)), ?_⟩
    refine ⟨_, rfl, _, _, _, _, _, rfl, (by rw [upd_ne n1]; exact sm _ _ k1), T.c_Book, T.n_Book_belts, lk_Book_belts, _, _, _, _, _, rfl, (by rw [upd_ne n2]; exact sm _ _ k2), T.c_Belts, T.n_Belts_one, lk_Belts_one,
      _, rfl, _, _, _, _, _, rfl, (by rw [upd_ne n1]; exact sm _ _ k1), T.c_Book, T.n_Book_belts, lk_Book_belts, _, _, _, _, _, rfl, (by rw [upd_ne n2]; exact sm _ _ k2), T.c_Belts, T.n_Belts_other, lk_Belts_other, _, _, rfl, rfl, ?_⟩
    refine ⟨_, rfl, p, _, dx, _, rfl, upd_same, T.c_Net, T.n_Net_is_turned, (few (lenF (lenF (lenF len0))) (by decide)), ?_⟩
    simp only [upd_upd]
    refine h _ (SameBut.upd (k5.trans (SameBut.of sm))) ⟨dx, x, D, upd_same, ⟨dxr, ?_⟩, ?_⟩
    · rw [upd_ne (Ne.symm px)]
      exact sm _ _ k4
    · rw [upd_ne (Ne.symm pD), hD, List.map_map]
      rfl
def spSpot (K : PySem.W.Frag) (f : Bm.RowsD → Int → SpotD) : Sp := fun vs H Q _ => ∃ (p : Addr) (b : BookD) (t : Int), vs = [.ref p, .int t] ∧ NetAt K H p b ∧ BookOk b ∧ ∀ a H', Same H H' → H a = none → SpotAt H' a (f b.rows t) → Q (.ref a) H'
theorem c_small_spot (T : Env K mg) : Cal P w K mg base 6 (He.fAd K D_Net_small_spot.at_) ["self", "beat"] (spSpot K smallSpot) := by
  obtain ⟨fd, F⟩ := T.d_Net_small_spot
  have sc : FnScope ["self", "beat", "place"] ["self", "beat"] (defScope S_Net_small_spot) := ⟨rfl, rfl, rfl, by decide +kernel, rfl, by decide +kernel, by decide +kernel⟩
  refine mkCal F sc (fun _ _ _ _ _ _ us hl => match us, hl with | [_, _], _ => rfl) (fun vs H Q E h => by obtain ⟨a, b, c, rfl, _⟩ := h; rfl) (fun cdv A outer s H vs Q E hr h => ?_)
  obtain ⟨p, b, t, rfl, ⟨dx, pr, ps, h1, ⟨dxr, h2⟩, h3⟩, ok, h⟩ := h
  have hr4 : Room 4 _ := hr.mono (by decide)
  refine ⟨_, pss_cons (ps_set (i := 2) sc.nd rfl (Or.inl rfl) (pe_op op_mod (pv 1) (pe_fld (pe_fld (pv 0) rfl) rfl)))
    (pss_one (ps_ret (pe_tup (pa_cons (pe_m (c_end_of T) T.c_Rows T.m_Rows_end_of hr (pe_fld (pv 0) rfl) (pa_cons (pv 2) pa_nil))
      (pa_cons (pe_op op_mul pe_int (pe_m (c_steps_back T) T.c_Rows T.m_Rows_steps_back hr4 (pe_fld (pv 0) rfl) (pa_cons (pv 2) pa_nil))) (pa_cons pe_non pa_nil)))))), ?_⟩
  have o := ok.rows
  have s0 := o.s0
  refine ⟨_, rfl, _, rfl, _, _, _, _, _, rfl, h1, T.c_Net, T.n_Net_rows, lk_Net_rows, _, _, _, _, _, rfl, h2, T.c_Rows, T.n_Rows_small, lk_Rows_small, _, _, rfl, rfl, (by omega), ?_⟩
  refine ⟨_, rfl, _, _, _, _, _, rfl, h1, T.c_Net, T.n_Net_rows, lk_Net_rows, _, _, _, rfl, h2, lk_Rows_m_end_of, _, rfl, pr, b.rows, _, rfl, ⟨dxr, h2⟩, o, fun H1 s1 => ?_⟩
  refine ⟨_, rfl, _, _, _, _, _, rfl, s1 _ _ h1, T.c_Net, T.n_Net_rows, lk_Net_rows, _, _, _, rfl, s1 _ _ h2, lk_Rows_m_steps_back, _, rfl, pr, b.rows, _, rfl, ⟨dxr, s1 _ _ h2⟩, o, fun H2 s2 => ?_⟩
  refine ⟨_, _, rfl, rfl, Or.inl (by decide), (by show 3 ≤ sizeLine; decide), fun a na => ?_⟩
  have s12 : Same H H2 := s1.trans s2
  exact h a _ (Same.upd1 s12 na) (s12.free na) upd_same
theorem c_great_spot (T : Env K mg) : Cal P w K mg base 7 (He.fAd K D_Net_great_spot.at_) ["self", "beat"] (spSpot K greatSpot) := by
  obtain ⟨fd, F⟩ := T.d_Net_great_spot
  have sc : FnScope ["self", "beat", "cup", "row", "at", "leaf"] ["self", "beat"] (defScope S_Net_great_spot) := ⟨rfl, rfl, rfl, by decide +kernel, rfl, by decide +kernel, by decide +kernel⟩
  refine mkCal F sc (fun _ _ _ _ _ _ us hl => match us, hl with | [_, _], _ => rfl) (fun vs H Q E h => by obtain ⟨a, b, c, rfl, _⟩ := h; rfl) (fun cdv A outer s H vs Q E hr h => ?_)
  obtain ⟨p, b, t, rfl, ⟨dx, pr, ps, h1, ⟨dxr, h2⟩, h3⟩, ok, h⟩ := h
  refine ⟨_, pss_cons (ps_set (i := 2) sc.nd rfl (Or.inl rfl) (pe_op op_mod (pv 1) (pe_fld (pe_fld (pv 0) rfl) rfl)))
    (pss_cons (ps_if (pt_cmpR op_ge (pv 2) (pe_fld (pe_fld (pv 0) rfl) rfl) (nomark _)) (pss_one (ps_ret (pe_tup (pa_cons (pe_op op_sub (pe_un un_neg pe_int) (pv 2)) (pa_cons pe_int (pa_cons pe_non pa_nil)))))) pss_nil)
    (pss_cons (ps_asg (pe_m (c_small_spot T) T.c_Net T.m_Net_small_spot hr (pv 0) (pa_cons (pv 2) pa_nil)) (pg_tup rfl (pgs_cons (pg_name (i := 3) sc.nd rfl (Or.inl rfl)) (pgs_cons (pg_name (i := 4) sc.nd rfl (Or.inl rfl)) (pgs_cons (pg_name (i := 5) sc.nd rfl (Or.inl rfl)) pgs_nil)))))
    (pss_one (ps_ret (pe_ifExp (pt_cmpR op_lt (pv 2) (pe_fld (pe_fld (pv 0) rfl) rfl) (nomark _)) (pe_tup (pa_cons (pv 3) (pa_cons (pe_op op_add (pv 4) pe_int) (pa_cons pe_non pa_nil)))) (pe_tup (pa_cons (pv 3) (pa_cons (pv 4) (pa_cons (pv 2) pa_nil))))))))), ?_⟩
  have o := ok.rows
  have s0 := o.s0
  have s1 := o.sg
  refine ⟨_, rfl, _, rfl, _, _, _, _, _, rfl, h1, T.c_Net, T.n_Net_rows, lk_Net_rows, _, _, _, _, _, rfl, h2, T.c_Rows, T.n_Rows_great, lk_Rows_great, _, _, rfl, rfl, (by omega), ?_⟩
  refine ⟨_, rfl, _, rfl, _, _, _, _, _, rfl, h1, T.c_Net, T.n_Net_rows, lk_Net_rows, _, _, _, _, _, rfl, h2, T.c_Rows, T.n_Rows_hung, lk_Rows_hung, _, _, rfl, rfl, _, rfl, ?_⟩
  by_cases c : b.rows.hung ≤ t % b.rows.great
  · refine ite_tt (decide_eq_true c) ?_
    refine ⟨_, rfl, _, rfl, _, _, rfl, rfl, (by show 3 ≤ sizeLine; decide), fun a na => ?_⟩
    refine h a _ (Same.new na) na ?_
    unfold SpotAt greatSpot
    rw [if_pos c, upd_same]
    rfl
  · refine ite_ff (decide_eq_false c) ?_
    refine ⟨_, rfl, _, _, _, rfl, h1, lk_Net_m_small_spot, _, rfl, p, b, _, rfl, ⟨dx, pr, ps, h1, ⟨dxr, h2⟩, h3⟩, ok, fun a1 H1 s1 _ sp => ?_⟩
    refine ⟨a1, _, rfl, SqT.of sp, rfl, _, _, rfl, _, _, rfl, _, _, rfl, rfl, ?_⟩
    refine ⟨_, rfl, _, rfl, _, _, _, _, _, rfl, s1 _ _ h1, T.c_Net, T.n_Net_rows, lk_Net_rows, _, _, _, _, _, rfl, s1 _ _ h2, T.c_Rows, T.n_Rows_bound, lk_Rows_bound, _, _, rfl, rfl, _, rfl, ?_⟩
    by_cases c2 : t % b.rows.great < b.rows.bound
    · refine ite_tt (decide_eq_true c2) ?_
      refine ⟨_, rfl, _, rfl, _, _, rfl, rfl, (by show 3 ≤ sizeLine; decide), fun a na => ?_⟩
      refine h a _ (Same.upd1 s1 na) (s1.free na) ?_
      unfold SpotAt greatSpot
      rw [if_neg c, if_pos c2, upd_same]
      rfl
    · refine ite_ff (decide_eq_false c2) ?_
      refine ⟨_, rfl, _, rfl, _, rfl, (by show 3 ≤ sizeLine; decide), fun a na => ?_⟩
      refine h a _ (Same.upd1 s1 na) (s1.free na) ?_
      unfold SpotAt greatSpot
      rw [if_neg c, if_neg c2, upd_same]
      rfl
end
end Bt
namespace Bt
open PySem PySem.Spec PyProof.Rows L2
open Bm (SpotD LinkD WayL smallSpot greatSpot IsLink ofRow ofRow_snoc linksL linksL_mem linksL_snoc)
/-! ### links: a dict of lists of links, by rows -/
structure Grp where
  row : Int
  addr : Addr
  ls : List (Addr × LinkD)
def grpKvs (G : List Grp) : List (Key × V) := G.map fun g => (Sum.inl g.row, V.ref g.addr)
def InG (G : List Grp) (row : Int) (l : LinkD) : Prop := ∃ g ∈ G, g.row = row ∧ ∃ e ∈ g.ls, e.2 = l
structure GrpsAt (H : Hp) (d : Addr) (G : List Grp) : Prop where
  dk : H d = some (.dK (grpKvs G))
  gl : ∀ g ∈ G, H g.addr = some (.lst (g.ls.map fun e => V.ref e.1))
  tl : ∀ g ∈ G, ∀ e ∈ g.ls, LinkAt H e.1 e.2
  an : (G.map (·.addr)).Nodup
  rn : (G.map (·.row)).Nodup
theorem valG {G : List Grp} {row : Int} {v : V} (h : valV (grpKvs G) (Sum.inl row) = some v) : ∃ g ∈ G, g.row = row ∧ v = .ref g.addr := by
  induction G with
  | nil => cases h
  | cons g G ih =>
    by_cases c : g.row = row
    · have : valV (grpKvs (g :: G)) (Sum.inl row) = some (.ref g.addr) := valV_pos (congrArg Sum.inl c)
      rw [this] at h
      exact ⟨g, List.mem_cons_self, c, (Option.some.inj h).symm⟩
    · have : valV (grpKvs (g :: G)) (Sum.inl row) = valV (grpKvs G) (Sum.inl row) := valV_neg (fun z => c (Sum.inl.inj z))
      rw [this] at h
      obtain ⟨g', h1, h2⟩ := ih h
      exact ⟨g', List.mem_cons_of_mem _ h1, h2⟩
theorem valG_none {G : List Grp} {row : Int} (h : valV (grpKvs G) (Sum.inl row) = none) : ∀ g ∈ G, g.row ≠ row := by
  induction G with
  | nil => intro g hg; cases hg
  | cons g G ih =>
    intro g' hg'
    by_cases c : g.row = row
    · have : valV (grpKvs (g :: G)) (Sum.inl row) = some (.ref g.addr) := valV_pos (congrArg Sum.inl c)
      rw [this] at h
      cases h
    · have : valV (grpKvs (g :: G)) (Sum.inl row) = valV (grpKvs G) (Sum.inl row) := valV_neg (fun z => c (Sum.inl.inj z))
      rw [this] at h
      rcases List.mem_cons.mp hg' with e | e
      · rw [e]
        exact c
      · exact ih h g' e
theorem nodup_of_map {α β : Type} {f : α → β} : ∀ {l : List α} {a b : α}, (l.map f).Nodup → a ∈ l → b ∈ l → f a = f b → a = b
  | [], _, _, _, h, _, _ => by cases h
  | x :: l, a, b, hn, ha, hb, e => by
    have h1 := List.nodup_cons.mp hn
    rcases List.mem_cons.mp ha with ea | ha
    · rcases List.mem_cons.mp hb with eb | hb
      · rw [ea, eb]
      · exact absurd (List.mem_map.mpr ⟨b, hb, by rw [← e, ea]⟩) h1.1
    · rcases List.mem_cons.mp hb with eb | hb
      · exact absurd (List.mem_map.mpr ⟨a, ha, by rw [e, eb]⟩) h1.1
      · exact nodup_of_map h1.2 ha hb e
def appG (a : Addr) (t : Addr) (l : LinkD) (G : List Grp) : List Grp := G.map fun g => if g.addr = a then { g with ls := g.ls ++ [(t, l)] } else g
theorem appG_row {a t : Addr} {l : LinkD} {G : List Grp} : (appG a t l G).map (·.row) = G.map (·.row) := by
  unfold appG
  rw [List.map_map]
  refine List.map_congr_left fun g _ => ?_
  show (if g.addr = a then { g with ls := g.ls ++ [(t, l)] } else g).row = g.row
  split <;> rfl
theorem appG_addr {a t : Addr} {l : LinkD} {G : List Grp} : (appG a t l G).map (·.addr) = G.map (·.addr) := by
  unfold appG
  rw [List.map_map]
  refine List.map_congr_left fun g _ => ?_
  show (if g.addr = a then { g with ls := g.ls ++ [(t, l)] } else g).addr = g.addr
  split <;> rfl
theorem appG_kvs {a t : Addr} {l : LinkD} {G : List Grp} : grpKvs (appG a t l G) = grpKvs G := by
  unfold grpKvs appG
  rw [List.map_map]
  refine List.map_congr_left fun g _ => ?_
  show ((Sum.inl (if g.addr = a then { g with ls := g.ls ++ [(t, l)] } else g).row : Key), V.ref (if g.addr = a then { g with ls := g.ls ++ [(t, l)] } else g).addr) = _
  split <;> rfl
theorem GrpsAt.app {H : Hp} {d t : Addr} {G : List Grp} {g : Grp} {l : LinkD} (h : GrpsAt H d G) (hg : g ∈ G) (ht : LinkAt H t l) :
    GrpsAt (upd H g.addr (.lst ((g.ls.map fun e => V.ref e.1) ++ [.ref t]))) d (appG g.addr t l G) ∧ ∀ row l', InG (appG g.addr t l G) row l' ↔ InG G row l' ∨ (row = g.row ∧ l' = l) := by
  have hga := h.gl g hg
  have kp : TupKeep H (upd H g.addr (.lst ((g.ls.map fun e => V.ref e.1) ++ [.ref t]))) := TupKeep.upd (fun _ _ e => e) (fun xs z => by rw [hga] at z; cases z)
  refine ⟨⟨?_, fun x hx => ?_, fun x hx e he => ?_, by rw [appG_addr]; exact h.an, by rw [appG_row]; exact h.rn⟩, fun row l' => ?_⟩
  · rw [appG_kvs, upd_ne (ne_of h.dk hga (by intro z; cases z))]
    exact h.dk
  · obtain ⟨y, hy, rfl⟩ := List.mem_map.mp hx
    by_cases c : y.addr = g.addr
    · rw [if_pos c]
      have e := nodup_of_map h.an hy hg c
      subst e
      show upd H y.addr _ y.addr = _
      rw [upd_same, List.map_append]
      rfl
    · rw [if_neg c, upd_ne c]
      exact h.gl y hy
  · obtain ⟨y, hy, rfl⟩ := List.mem_map.mp hx
    by_cases c : y.addr = g.addr
    · rw [if_pos c] at he
      rcases List.mem_append.mp he with he | he
      · exact (h.tl y hy e he).keep kp
      · rw [List.mem_singleton.mp he]
        exact ht.keep kp
    · rw [if_neg c] at he
      exact (h.tl y hy e he).keep kp
  · constructor
    · rintro ⟨x, hx, hr, e, he, hel⟩
      obtain ⟨y, hy, rfl⟩ := List.mem_map.mp hx
      by_cases c : y.addr = g.addr
      · have ey := nodup_of_map h.an hy hg c
        rw [if_pos c] at he hr
        rcases List.mem_append.mp he with he | he
        · exact .inl ⟨y, hy, hr, e, he, hel⟩
        · rw [List.mem_singleton.mp he] at hel
          refine .inr ⟨?_, hel.symm⟩
          rw [← hr, ← ey]
      · rw [if_neg c] at he hr
        exact .inl ⟨y, hy, hr, e, he, hel⟩
    · rintro (⟨y, hy, hr, e, he, hel⟩ | ⟨rfl, rfl⟩)
      · refine ⟨_, List.mem_map.mpr ⟨y, hy, rfl⟩, ?_, e, ?_, hel⟩
        · split <;> exact hr
        · split
          · exact List.mem_append_left _ he
          · exact he
      · refine ⟨_, List.mem_map.mpr ⟨g, hg, rfl⟩, ?_, (t, l'), ?_, rfl⟩
        · split <;> rfl
        · rw [if_pos rfl]
          exact List.mem_append_right _ (List.mem_singleton.mpr rfl)
theorem GrpsAt.new {H : Hp} {d q : Addr} {G : List Grp} {row : Int} (h : GrpsAt H d G) (hq : H q = some (.lst [])) (nq : ∀ g ∈ G, g.addr ≠ q) (hr : valV (grpKvs G) (Sum.inl row) = none) :
    GrpsAt (upd H d (.dK (putK (grpKvs G) (Sum.inl row) (.ref q)))) d (G ++ [⟨row, q, []⟩]) ∧ ∀ r l, InG (G ++ [⟨row, q, []⟩]) r l ↔ InG G r l := by
  have kp : TupKeep H (upd H d (.dK (putK (grpKvs G) (Sum.inl row) (.ref q)))) := TupKeep.upd (fun _ _ e => e) (fun xs z => by rw [h.dk] at z; cases z)
  have nr := valG_none hr
  refine ⟨⟨?_, fun x hx => ?_, fun x hx e he => ?_, ?_, ?_⟩, fun r l => ⟨?_, ?_⟩⟩
  · rw [upd_same, putK_new _ hr]
    simp [grpKvs]
  · rcases List.mem_append.mp hx with hx | hx
    · rw [upd_ne (ne_of (h.gl x hx) h.dk (by intro z; cases z))]
      exact h.gl x hx
    · rw [List.mem_singleton.mp hx]
      rw [upd_ne (ne_of hq h.dk (by intro z; cases z))]
      exact hq
  · rcases List.mem_append.mp hx with hx | hx
    · exact (h.tl x hx e he).keep kp
    · rw [List.mem_singleton.mp hx] at he
      cases he
  · rw [List.map_append, List.nodup_append]
    refine ⟨h.an, by simp, fun a ha b hb => ?_⟩
    obtain ⟨g, hg, rfl⟩ := List.mem_map.mp ha
    obtain ⟨g', hg', rfl⟩ := List.mem_map.mp hb
    rw [List.mem_singleton.mp hg']
    exact nq g hg
  · rw [List.map_append, List.nodup_append]
    refine ⟨h.rn, by simp, fun a ha b hb => ?_⟩
    obtain ⟨g, hg, rfl⟩ := List.mem_map.mp ha
    obtain ⟨g', hg', rfl⟩ := List.mem_map.mp hb
    rw [List.mem_singleton.mp hg']
    exact nr g hg
  · rintro ⟨g, hg, h1, e, he, h2⟩
    rcases List.mem_append.mp hg with hg | hg
    · exact ⟨g, hg, h1, e, he, h2⟩
    · rw [List.mem_singleton.mp hg] at he
      cases he
  · rintro ⟨g, hg, h1⟩
    exact ⟨g, List.mem_append_left _ hg, h1⟩
theorem GrpsAt.keep {H H' : Hp} {d : Addr} {G : List Grp} (s : Same H H') (h : GrpsAt H d G) : GrpsAt H' d G :=
  ⟨s _ _ h.dk, fun g hg => s _ _ (h.gl g hg), fun g hg e he => (h.tl g hg e he).keep (TupKeep.of s), h.an, h.rn⟩
/-- the state while the links are gathered -/
structure LSt (H H' : Hp) (d : Addr) (G : List Grp) (R : List LinkD) (n : Nat) : Prop where
  same : Same H H'
  gr : GrpsAt H' d G
  nd : H d = none
  na : ∀ g ∈ G, H g.addr = none
  iff : ∀ row l, InG G row l ↔ l ∈ R ∧ l.src.row = row
  ord : ∀ g ∈ G, g.ls.map (·.2) = ofRow R g.row
  len : G.length ≤ n
theorem LSt.keep {H H' H2 : Hp} {d : Addr} {G : List Grp} {R : List LinkD} {n : Nat} (h : LSt H H' d G R n) (s : Same H' H2) : LSt H H2 d G R n :=
  ⟨h.same.trans s, h.gr.keep s, h.nd, h.na, h.iff, h.ord, h.len⟩
/-- found.setdefault(small[0], []).append((small, beat, great)) -/
theorem add_ok {K : PySem.W.Frag} {σ : L2.St} {H H' : Hp} {d a1 a2 : Addr} {G : List Grp} {R : List LinkD} {n i j : Nat} {t : Int} {s1 s2 : SpotD} {D : Ends} {apos : Pos}
    (e1 : σ[1]? = some (some (.ref d))) (e2 : σ[2]? = some (some (.int t))) (ei : σ[i]? = some (some (.ref a1))) (ej : σ[j]? = some (some (.ref a2))) (h1 : SpotAt H' a1 s1) (h2 : SpotAt H' a2 s2) (L : LSt H H' d G R n) (hn : n ≤ 1000)
    (hl : ∀ g ∈ G, g.ls.length ≤ 1000)
    (k : ∀ H'' G', LSt H H'' d G' (R ++ [⟨s1, t, s2⟩]) (n + 1) → TupKeep H' H'' → (∀ m, (∀ g ∈ G, g.ls.length ≤ m) → ∀ g ∈ G', g.ls.length ≤ m + 1) → D.nx σ H'') :
    tDrop (tBM K "list" rAppend (tCutE (tDSetd (tVar 1) (tOp (rIxT K) (tVar i) (tC (.int 0))) (tLst tNil))) (tCons (tTup (tCons (tVar i) (tCons (tVar 2) (tCons (tVar j) tNil)))) tNil)) D σ H' := by
  -- behind setdefault: the group of the row
  refine ⟨fun v H3 => ∃ (G3 : List Grp) (g : Grp), v = .ref g.addr ∧ g ∈ G3 ∧ g.row = s1.row ∧ LSt H H3 d G3 R (n + 1) ∧ TupKeep H' H3 ∧ ∀ m, (∀ g ∈ G, g.ls.length ≤ m) → ∀ g ∈ G3, g.ls.length ≤ m, ?_, ?_⟩
  · refine ⟨_, e1, d, rfl, .inl ⟨_, .inl L.gr.dk⟩, _, ei, a1, _, _, _, rfl, rfl, SqT.of h1, atI_nat (j := 0) rfl, (by show 0 ≤ sizeLine; decide), fun q nq => ?_⟩
    have sm : Same H' (upd H' q (.lst [])) := Same.new nq
    have L' := L.keep sm
    refine ⟨grpKvs G, Sum.inl s1.row, L'.gr.dk, rfl, ?_, fun v hv => ?_, fun hv => ?_⟩
    · simp only [grpKvs, List.length_map]
      have := L.len
      rw [size16]
      omega
    · obtain ⟨g, hg, hr, rfl⟩ := valG hv
      exact ⟨G, g, rfl, hg, hr, ⟨L'.same, L'.gr, L'.nd, L'.na, L'.iff, L'.ord, Nat.le_succ_of_le L'.len⟩, TupKeep.of sm, fun m hm => hm⟩
    · have nq' : ∀ g ∈ G, g.addr ≠ q := fun g hg => ne_of_none (L.gr.gl g hg) nq
      obtain ⟨g1, g2⟩ := L'.gr.new (row := s1.row) upd_same nq' hv
      have nd' : d ≠ q := ne_of_none L.gr.dk nq
      refine ⟨G ++ [⟨s1.row, q, []⟩], ⟨s1.row, q, []⟩, rfl, List.mem_append_right _ (List.mem_singleton.mpr rfl), rfl, ⟨fun b o e => ?_, g1, L.nd, fun g hg => ?_, fun row l => (g2 row l).trans (L.iff row l), fun g hg => ?_, ?_⟩, ?_, fun m hm g hg => ?_⟩
      · rw [upd_ne (ne_of_none e L.nd)]
        exact L'.same b o e
      · rcases List.mem_append.mp hg with hg | hg
        · exact L.na g hg
        · rw [List.mem_singleton.mp hg]
          exact L.same.free nq
      · rcases List.mem_append.mp hg with hg | hg
        · exact L.ord g hg
        · rw [List.mem_singleton.mp hg]
          show [] = ofRow R s1.row
          unfold Bm.ofRow
          refine (List.filter_eq_nil_iff.mpr fun l hl => ?_).symm
          intro z
          obtain ⟨g, hg, hgr, _⟩ := (L.iff s1.row l).mpr ⟨hl, by simpa using z⟩
          exact valG_none hv g hg hgr
      · rw [List.length_append]
        have := L.len
        simp
        omega
      · exact TupKeep.upd (TupKeep.of sm) (fun xs z => by rw [upd_ne nd', L.gr.dk] at z; cases z)
      · rcases List.mem_append.mp hg with hg | hg
        · exact hm g hg
        · rw [List.mem_singleton.mp hg]
          exact Nat.zero_le _
  · rintro v H3 ⟨G3, g, rfl, hg, hr, L3, kp, hlen⟩
    have hga := L3.gr.gl g hg
    refine ⟨.inl ⟨rfl, _, SqL.of hga⟩, _, ei, _, e2, _, ej, (by show 3 ≤ sizeLine; decide), fun q nq => ?_⟩
    have sm : Same H3 (upd H3 q (.tup [.ref a1, .int t, .ref a2])) := Same.new nq
    have L4 := L3.keep sm
    have hga4 := L4.gr.gl g hg
    have lk : LinkAt (upd H3 q (.tup [.ref a1, .int t, .ref a2])) q ⟨s1, t, s2⟩ := ⟨a1, a2, upd_same, (h1.keep kp).keep (TupKeep.of sm), (h2.keep kp).keep (TupKeep.of sm)⟩
    obtain ⟨g1, g2⟩ := L4.gr.app hg lk
    refine ⟨g.addr, _, _, rfl, rfl, hga4, ?_, ?_⟩
    · rw [List.length_map, size16]
      have := hlen 1000 hl g hg
      omega
    · refine k _ (appG g.addr q ⟨s1, t, s2⟩ G3) ⟨fun b o e => ?_, g1, L.nd, fun x hx => ?_, fun row l => ?_, fun x hx => ?_, ?_⟩ ?_ ?_
      · rw [upd_ne (ne_of_none e (L3.na g hg))]
        exact L4.same b o e
      · obtain ⟨y, hy, rfl⟩ := List.mem_map.mp hx
        have := L3.na y hy
        split <;> exact this
      · rw [g2 row l, L3.iff row l, List.mem_append, List.mem_singleton]
        constructor
        · rintro (⟨z1, z2⟩ | ⟨z1, z2⟩)
          · exact ⟨.inl z1, z2⟩
          · refine ⟨.inr z2, ?_⟩
            rw [z2, z1, hr]
        · rintro ⟨z1 | z1, z2⟩
          · exact .inl ⟨z1, z2⟩
          · refine .inr ⟨?_, z1⟩
            rw [← z2, z1, hr]
      · obtain ⟨y, hy, rfl⟩ := List.mem_map.mp hx
        by_cases c : y.addr = g.addr
        · have e := nodup_of_map L3.gr.an hy hg c
          subst e
          rw [if_pos rfl]
          show (y.ls ++ [(q, (⟨s1, t, s2⟩ : LinkD))]).map (fun e : Addr × LinkD => e.2) = ofRow _ y.row
          rw [ofRow_snoc, if_pos hr.symm, List.map_append, L3.ord y hy]
          rfl
        · rw [if_neg c, ofRow_snoc, if_neg]
          · exact L3.ord y hy
          · intro z
            have := nodup_of_map L3.gr.rn hy hg (by rw [hr]; exact z.symm)
            rw [this] at c
            exact c rfl
      · show (appG g.addr q ⟨s1, t, s2⟩ G3).length ≤ n + 1
        unfold appG
        rw [List.length_map]
        exact L3.len
      · exact TupKeep.upd (kp.trans (TupKeep.of sm)) (fun xs z => by rw [hga4] at z; cases z)
      · intro m hm x hx
        obtain ⟨y, hy, rfl⟩ := List.mem_map.mp hx
        have := hlen m hm y hy
        split
        · show (y.ls ++ [(q, _)]).length ≤ m + 1
          rw [List.length_append]
          simpa using this
        · omega
section
variable {P : Program} {w : World} {K : PySem.W.Frag} {mg : Str → Option Value} {base : Heap}
def LinksAt (H : Hp) (d : Addr) (r : Bm.RowsD) (ss : List Int) : Prop := ∃ G, GrpsAt H d G ∧ G.length ≤ 1000 ∧ (∀ row l, InG G row l ↔ IsLink r ss l ∧ l.src.row = row) ∧ ∀ g ∈ G, g.ls.map (·.2) = ofRow (linksL r ss) g.row
def spLinks (K : PySem.W.Frag) : Sp := fun vs H Q _ => ∃ (p : Addr) (b : BookD), vs = [.ref p] ∧ NetAt K H p b ∧ BookOk b ∧ ∀ d H', Same H H' → LinksAt H' d b.rows b.rel → Q (.ref d) H'
theorem c_links (T : Env K mg) : Cal P w K mg base 8 (He.fAd K D_Net_links.at_) ["self"] (spLinks K) := by
  obtain ⟨fd, F⟩ := T.d_Net_links
  have sc : FnScope ["self", "found", "beat", "small", "great"] ["self"] (defScope S_Net_links) := ⟨rfl, rfl, rfl, by decide +kernel, rfl, by decide +kernel, by decide +kernel⟩
  refine mkCal F sc (fun _ _ _ _ _ _ us hl => match us, hl with | [_], _ => rfl) (fun vs H Q E h => by obtain ⟨a, b, rfl, _⟩ := h; rfl) (fun cdv A outer s H vs Q E hr h => ?_)
  obtain ⟨p, b, rfl, hnet, ok, h⟩ := h
  have hr6 : Room 6 _ := hr.mono (by decide)
  refine ⟨_, pss_cons (ps_set (i := 1) sc.nd rfl (Or.inl rfl) pe_dnewK)
    (pss_cons (ps_for PassesOwn.never rfl (pi_list (pe_fld (pv 0) rfl)) (pg_name (i := 2) sc.nd rfl (Or.inl rfl))
      (pss_cons (ps_par (i := 3) (j := 4) rfl sc.nd rfl rfl (by decide) rfl rfl (pa_cons (pe_m (c_small_spot T) T.c_Net T.m_Net_small_spot hr6 (pv 0) (pa_cons (pv 2) pa_nil)) (pa_cons (pe_m (c_great_spot T) T.c_Net T.m_Net_great_spot hr (pv 0) (pa_cons (pv 2) pa_nil)) pa_nil)) (by rfl))
      (pss_cons (ps_expr (pe_bm PySem.F.plainAttrs_list PySem.F.slot_list_append PySem.F.type_list_append mt_append (pe_cut (pe_dsetd (pv 1) (pe_ix ix_tup (pv 3) pe_int (fun _ _ => rfl)) (pe_lst pa_nil) ⟨rfl, rfl, rfl, rfl⟩)) (pa_cons (pe_tup (pa_cons (pv 3) (pa_cons (pv 2) (pa_cons (pv 4) pa_nil)))) pa_nil)))
      (pss_one (ps_expr (pe_bm PySem.F.plainAttrs_list PySem.F.slot_list_append PySem.F.type_list_append mt_append (pe_cut (pe_dsetd (pv 1) (pe_ix ix_tup (pv 4) pe_int (fun _ _ => rfl)) (pe_lst pa_nil) ⟨rfl, rfl, rfl, rfl⟩)) (pa_cons (pe_tup (pa_cons (pv 4) (pa_cons (pv 2) (pa_cons (pv 3) pa_nil)))) pa_nil)))))))
    (pss_one (ps_ret (pv 1)))), ?_⟩
  intro d nd
  obtain ⟨dx, pr, ps, h1, h2, h3⟩ := id hnet
  have s0 : Same H (upd H d (.dK [])) := Same.new nd
  have hlen : b.rel.length ≤ 100 := by
    simp only [BookD.rel, List.length_map]
    exact ok.sl
  refine ⟨_, rfl, _, _, _, _, _, rfl, s0 _ _ h1, T.c_Net, T.n_Net_singles, lk_Net_singles, ps, rfl, ⟨_, SqL.of (s0 _ _ h3)⟩, for_list (K := K) (a := ps) (xs := b.rel.map V.int) (fun i σ H' => ∃ (G : List Grp) (v2 v3 v4 : Option V), σ = [some (.ref p), some (.ref d), v2, v3, v4] ∧ LSt H H' d G (linksL b.rows (b.rel.take i)) (2 * i) ∧ ∀ g ∈ G, g.ls.length ≤ 2 * i)
    ⟨[], none, none, none, rfl, ⟨s0, ⟨upd_same, fun g hg => (by cases hg), fun g hg => (by cases hg), List.nodup_nil, List.nodup_nil⟩, nd, fun g hg => (by cases hg), fun row l => ⟨fun ⟨g, hg, _⟩ => (by cases hg), fun ⟨z, _⟩ => (by cases z)⟩, fun g hg => (by cases hg), Nat.le_refl _⟩, fun g hg => (by cases hg)⟩
    (fun i σ H' _ ⟨G, _, _, _, _, L, _⟩ => SqL.of (L.same _ _ h3)) ?_ ?_⟩
  · rintro i x σ H' hx ⟨G, v2, v3, v4, rfl, L, hl⟩
    obtain ⟨t, ht, rfl⟩ := int_at hx
    have hi : i < b.rel.length := (List.getElem?_eq_some_iff.mp ht).1
    have hn' := hnet.same L.same
    refine ⟨_, rfl, _, _, _, rfl, L.same _ _ h1, lk_Net_m_small_spot, _, rfl, p, b, t, rfl, hn', ok, fun a1 H1 s1 _ sp1 => ?_⟩
    have L1 := L.keep s1
    refine ⟨_, rfl, _, _, _, rfl, L1.same _ _ h1, lk_Net_m_great_spot, _, rfl, p, b, t, rfl, hn'.same s1, ok, fun a2 H2 s2 _ sp2 => ?_⟩
    have L2 := L1.keep s2
    refine ⟨_, _, rfl, ?_⟩
    refine add_ok (H := H) (d := d) (a1 := a1) (a2 := a2) (G := G) (t := t) rfl rfl rfl rfl (sp1.keep (TupKeep.of s2)) sp2 L2 (by omega) (fun g hg => by have := hl g hg; omega) (apos := default) fun H3 G3 L3 k3 m3 => ?_
    refine add_ok (H := H) (d := d) (a1 := a2) (a2 := a1) (G := G3) (t := t) rfl rfl rfl rfl (sp2.keep k3) ((sp1.keep (TupKeep.of s2)).keep k3) L3 (by omega) (fun g hg => by have := m3 _ hl g hg; omega) (apos := default) fun H4 G4 L4 k4 m4 => ?_
    have et : linksL b.rows (b.rel.take (i + 1)) = (linksL b.rows (b.rel.take i) ++ [⟨smallSpot b.rows t, t, greatSpot b.rows t⟩]) ++ [⟨greatSpot b.rows t, t, smallSpot b.rows t⟩] := by
      rw [← linksL_snoc, List.take_add_one, ht]
      rfl
    refine ⟨G4, _, _, _, rfl, ⟨L4.same, L4.gr, L4.nd, L4.na, fun row l => ?_, fun g hg => ?_, L4.len⟩, fun g hg => ?_⟩
    · rw [L4.iff row l, et]
    · rw [L4.ord g hg, et]
    · have := m4 _ (m3 _ hl) g hg
      omega
  · rintro σ H' ⟨G, v2, v3, v4, rfl, L, hl⟩
    rw [List.length_map] at L hl
    rw [List.take_length] at L
    exact ⟨_, rfl, h d H' L.same ⟨G, L.gr, by have := L.len; omega, fun row l => (L.iff row l).trans (by rw [linksL_mem]), L.ord⟩⟩
end
end Bt
namespace Bt
open PySem PySem.Spec PyProof.Rows L2
open Bm (SpotD LinkD WayL smallSpot greatSpot IsLink Ways Closed keys ofRow linksL linksL_mem stepL rowF lineF bfs Ended)
/-! ### the ways from a row -/
abbrev WayA := List (Int × Option (Addr × LinkD))
def wayV : Option (Addr × LinkD) → V
  | none => .non
  | some (a, _) => .ref a
def wayKvs (W : WayA) : List (Key × V) := W.map fun e => (Sum.inl e.1, wayV e.2)
def wayL (W : WayA) : WayL := W.map fun e => (e.1, e.2.map (·.2))
structure WaysAt (H : Hp) (f : Addr) (W : WayA) : Prop where
  dk : H f = some (.dK (wayKvs W))
  lk : ∀ k a l, (k, some (a, l)) ∈ W → LinkAt H a l
theorem WaysAt.same {H H' : Hp} {f : Addr} {W : WayA} (s : Same H H') (h : WaysAt H f W) : WaysAt H' f W := ⟨s _ _ h.dk, fun k a l e => (h.lk k a l e).keep (TupKeep.of s)⟩
theorem valW_none {W : WayA} {k : Int} : valV (wayKvs W) (Sum.inl k) = none ↔ k ∉ keys (wayL W) := by
  induction W with
  | nil => exact ⟨fun _ h => (by cases h), fun _ => rfl⟩
  | cons e W ih =>
    by_cases c : e.1 = k
    · have : valV (wayKvs (e :: W)) (Sum.inl k) = some (wayV e.2) := valV_pos (congrArg Sum.inl c)
      rw [this]
      refine ⟨fun z => (by cases z), fun z => absurd ?_ z⟩
      rw [← c]
      exact List.mem_cons_self
    · have : valV (wayKvs (e :: W)) (Sum.inl k) = valV (wayKvs W) (Sum.inl k) := valV_neg (fun z => c (Sum.inl.inj z))
      rw [this, ih]
      show _ ↔ k ∉ e.1 :: keys (wayL W)
      rw [List.mem_cons]
      constructor
      · rintro h (h2 | h2)
        · exact c h2.symm
        · exact h h2
      · intro h h2
        exact h (.inr h2)
theorem WaysAt.put {H : Hp} {f a : Addr} {W : WayA} {l : LinkD} {k : Int} (h : WaysAt H f W) (hl : LinkAt H a l) (hk : k ∉ keys (wayL W)) :
    WaysAt (upd H f (.dK (putK (wayKvs W) (Sum.inl k) (.ref a)))) f (W ++ [(k, some (a, l))]) := by
  have kp : TupKeep H (upd H f (.dK (putK (wayKvs W) (Sum.inl k) (.ref a)))) := TupKeep.upd (fun _ _ e => e) (fun xs z => by rw [h.dk] at z; cases z)
  refine ⟨?_, fun k' a' l' e => ?_⟩
  · rw [upd_same, putK_new _ (valW_none.mpr hk)]
    simp [wayKvs, wayV]
  · rcases List.mem_append.mp e with e | e
    · exact (h.lk k' a' l' e).keep kp
    · have e2 := List.mem_singleton.mp e
      injection e2 with _ e2
      injection e2 with e2
      injection e2 with e2 e3
      subst e2 e3
      exact hl.keep kp
theorem wayL_snoc (W : WayA) (k : Int) (a : Addr) (l : LinkD) : wayL (W ++ [(k, some (a, l))]) = wayL W ++ [(k, some l)] := by simp [wayL]
theorem ints_inj {xs ys : List Int} (h : xs.map V.int = ys.map V.int) : xs = ys := by
  have := congrArg (List.map fun v => match v with | V.int i => i | _ => 0) h
  simpa [List.map_map, Function.comp_def] using this
section
variable {P : Program} {w : World} {K : PySem.W.Frag} {mg : Str → Option Value} {base : Heap}
def spWaysFrom (K : PySem.W.Frag) : Sp := fun vs H Q _ => ∃ (p : Addr) (b : BookD) (row : Int), vs = [.ref p, .int row] ∧ NetAt K H p b ∧ BookOk b ∧
  ∀ f H' W, Same H H' → WaysAt H' f W → Ways (IsLink b.rows b.rel) row (wayL W) → Closed (IsLink b.rows b.rel) (wayL W) → Ended (linksL b.rows b.rel) row (wayL W) → Q (.ref f) H'
/-- how long a list, a dict at an address is -/
def lenAt (H : Hp) (a : Addr) : Nat := match H a with
  | some (.dK kvs) => kvs.length
  | some (.lst xs) => xs.length
  | _ => 0
/-- the state in the loops: the dict of ways at f, the list of the next rows at q -/
structure BSt (H H' : Hp) (d f q ln : Addr) (G : List Grp) (L : LinkD → Prop) (row : Int) (W : WayA) (W0 : Nat) (ns later : List Int) : Prop where
  same : Same H H'
  gr : GrpsAt H' d G
  wa : WaysAt H' f W
  nf : H f = none
  df : d ≠ f
  nq : H q = none
  hln : H' ln = some (.lst (ns.map V.int))
  hlq : H' q = some (.lst (later.map V.int))
  lnq : ln ≠ q
  gq : ∀ g ∈ G, g.addr ≠ q
  wy : Ways L row (wayL W)
  nk : ∀ n ∈ ns, n ∈ keys (wayL W)
  lk : ∀ n ∈ later, n ∈ keys (wayL W)
  le : later.length ≤ W.length
  w0 : W0 ≤ W.length
  w1 : later ≠ [] → W0 < W.length
theorem BSt.keep {H H' H2 : Hp} {d f q ln : Addr} {G : List Grp} {L : LinkD → Prop} {row : Int} {W : WayA} {W0 : Nat} {ns later : List Int} (B : BSt H H' d f q ln G L row W W0 ns later) (s : Same H' H2) : BSt H H2 d f q ln G L row W W0 ns later :=
  ⟨B.same.trans s, B.gr.keep s, B.wa.same s, B.nf, B.df, B.nq, s _ _ B.hln, s _ _ B.hlq, B.lnq, B.gq, B.wy, B.nk, B.lk, B.le, B.w0, B.w1⟩
theorem wayL_len (W : WayA) : (wayL W).length = W.length := by simp [wayL]
/-- a way more -/
theorem BSt.add {H H' : Hp} {d f q ln a : Addr} {G : List Grp} {L : LinkD → Prop} {row : Int} {W : WayA} {W0 : Nat} {ns later : List Int} {l : LinkD} (B : BSt H H' d f q ln G L row W W0 ns later) (hl : LinkAt H' a l) (hL : L l) (hs : l.src.row ∈ keys (wayL W)) (hd : l.dst.row ∉ keys (wayL W)) :
    BSt H (upd (upd H' f (.dK (putK (wayKvs W) (Sum.inl l.dst.row) (.ref a)))) q (.lst (later.map V.int ++ [.int l.dst.row]))) d f q ln G L row (W ++ [(l.dst.row, some (a, l))]) W0 ns (later ++ [l.dst.row]) := by
  have fq : f ≠ q := ne_of B.wa.dk B.hlq (by intro z; cases z)
  have h1 := B.wa.put hl hd
  have kp : TupKeep (upd H' f (.dK (putK (wayKvs W) (Sum.inl l.dst.row) (.ref a)))) (upd (upd H' f (.dK (putK (wayKvs W) (Sum.inl l.dst.row) (.ref a)))) q (.lst (later.map V.int ++ [.int l.dst.row]))) :=
    TupKeep.upd (fun _ _ e => e) (fun xs z => by rw [upd_ne (Ne.symm fq), B.hlq] at z; cases z)
  have hk : ∀ n ∈ keys (wayL W), n ∈ keys (wayL (W ++ [(l.dst.row, some (a, l))])) := fun n hn => by
    rw [wayL_snoc, Bm.keys_snoc]
    exact List.mem_append_left _ hn
  have nl : ∀ b o, H' b = some o → (∀ kvs, o ≠ .dK kvs) → b ≠ q → upd (upd H' f (.dK (putK (wayKvs W) (Sum.inl l.dst.row) (.ref a)))) q (.lst (later.map V.int ++ [.int l.dst.row])) b = some o := fun b o e ne nq => by
    rw [upd_ne nq, upd_ne (fun z => ne (wayKvs W) (by rw [z, B.wa.dk] at e; exact (Option.some.inj e).symm))]
    exact e
  refine ⟨fun b o e => ?_, ⟨?_, fun g hg => ?_, fun g hg e he => ?_, B.gr.an, B.gr.rn⟩, ⟨?_, fun k' a' l' e => (h1.lk k' a' l' e).keep kp⟩, B.nf, B.df, B.nq, ?_, ?_, B.lnq, B.gq, ?_, fun n hn => hk n (B.nk n hn), fun n hn => ?_, ?_, ?_, fun _ => ?_⟩
  · rw [upd_ne (ne_of_none e B.nq), upd_ne (ne_of_none e B.nf)]
    exact B.same b o e
  · rw [upd_ne (ne_of B.gr.dk B.hlq (by intro z; cases z)), upd_ne B.df]
    exact B.gr.dk
  · exact nl _ _ (B.gr.gl g hg) (by intro _ z; cases z) (B.gq g hg)
  · refine ((B.gr.tl g hg e he).keep (H' := upd H' f (.dK (putK (wayKvs W) (Sum.inl l.dst.row) (.ref a)))) ?_).keep kp
    exact TupKeep.upd (fun _ _ e => e) (fun xs z => by rw [B.wa.dk] at z; cases z)
  · rw [upd_ne fq]
    exact h1.dk
  · exact nl _ _ B.hln (by intro _ z; cases z) B.lnq
  · rw [upd_same, List.map_append]
    rfl
  · rw [wayL_snoc]
    exact .add B.wy hL hs hd
  · rcases List.mem_append.mp hn with hn | hn
    · exact hk n (B.lk n hn)
    · rw [List.mem_singleton.mp hn, wayL_snoc, Bm.keys_snoc]
      exact List.mem_append_right _ (List.mem_singleton.mpr rfl)
  · simp only [List.length_append, List.length_cons, List.length_nil]
    have := B.le
    omega
  · rw [List.length_append]
    have := B.w0
    omega
  · rw [List.length_append]
    have := B.w0
    simp
    omega
theorem c_ways_from (T : Env K mg) : Cal P w K mg base 9 (He.fAd K D_Net_ways_from.at_) ["self", "row"] (spWaysFrom K) := by
  obtain ⟨fd, F⟩ := T.d_Net_ways_from
  have sc : FnScope ["self", "row", "links", "found", "line", "later", "here", "link"] ["self", "row"] (defScope S_Net_ways_from) := ⟨rfl, rfl, rfl, by decide +kernel, rfl, by decide +kernel, by decide +kernel⟩
  refine mkCal F sc (fun _ _ _ _ _ _ us hl => match us, hl with | [_, _], _ => rfl) (fun vs H Q E h => by obtain ⟨a, b, c, rfl, _⟩ := h; rfl) (fun cdv A outer s H vs Q E hr h => ?_)
  obtain ⟨p, b, row, rfl, hnet, ok, h⟩ := h
  have hu := hu_of hr
  refine ⟨_, pss_cons (ps_set (i := 2) sc.nd rfl (Or.inl rfl) (pe_m0 (c_links T) T.c_Net T.m_Net_links hr (pv 0)))
    (pss_cons (ps_par (i := 3) (j := 4) rfl sc.nd rfl rfl (by decide) rfl rfl (pa_cons (pe_disp (pps_cons (pv 1) pe_non pps_nil) (by rfl) (by rfl) (fun z => by cases z) (by decide)) (pa_cons (pe_lst (pa_cons (pv 1) pa_nil)) pa_nil)) (by rfl))
    (pss_cons (ps_while PassesOwn.never (pt_cmpR (op_neInts hr.units) (pv 4) (pe_lst pa_nil) (nomark _))
      (pss_cons (ps_set (i := 5) sc.nd rfl (Or.inl rfl) (pe_lst pa_nil))
      (pss_cons (ps_for PassesOwn.never rfl (pi_list (pv 4)) (pg_name (i := 6) sc.nd rfl (Or.inl rfl))
        (pss_one (ps_for PassesOwn.never rfl (pi_list (pe_cut (pe_dget2 hu (pv 2) (pv 6) (pe_lst pa_nil) ⟨rfl, rfl, rfl, rfl⟩))) (pg_name (i := 7) sc.nd rfl (Or.inl rfl))
          (pss_one (ps_if (pt_cmp (pc_dnotin hu (pe_ix ix_tup (pe_ix ix_tup (pv 7) pe_int (fun _ _ => rfl)) pe_int (fun _ _ => rfl)) (pv 3)))
            (pss_cons (ps_dput hu (pv 3) (pe_ix ix_tup (pe_ix ix_tup (pv 7) pe_int (fun _ _ => rfl)) pe_int (fun _ _ => rfl)) (pv 7) rfl)
            (pss_one (ps_expr (pe_bm PySem.F.plainAttrs_list PySem.F.slot_list_append PySem.F.type_list_append mt_append (pv 5) (pa_cons (pe_ix ix_tup (pe_ix ix_tup (pv 7) pe_int (fun _ _ => rfl)) pe_int (fun _ _ => rfl)) pa_nil))))) pss_nil)))))
      (pss_one (ps_set (i := 4) sc.nd rfl (Or.inl rfl) (pv 5))))))
    (pss_one (ps_ret (pv 3))))), ?_⟩
  obtain ⟨dx, pr, ps, h1, h2, h3⟩ := id hnet
  refine ⟨_, rfl, _, _, _, rfl, h1, lk_Net_m_links, p, b, rfl, hnet, ok, fun d H1 s1 ⟨G, gr, gl, gi, go⟩ => ?_⟩
  intro f nf
  have s2 : Same H1 (upd H1 f (.dK [])) := Same.new nf
  refine ⟨_, rfl, upd_same, [(Sum.inl row, V.non)], rfl, (by show 1 ≤ 15; decide), ?_⟩
  rw [upd_upd]
  refine ⟨_, rfl, (by show 1 ≤ sizeLine; decide), fun ln0 nln0 => ?_⟩
  refine ⟨_, _, rfl, ?_⟩
  have e0 : mergeK [] [((Sum.inl row : Key), V.non)] = wayKvs [(row, none)] := rfl
  rw [e0] at nln0 ⊢
  have nfH : H f = none := s1.free nf
  have df : d ≠ f := ne_of_none gr.dk nf
  have s3 : Same H1 (upd (upd H1 f (.dK (wayKvs [(row, none)]))) ln0 (.lst [.int row])) := Same.upd1 (Same.new nf) nln0
  have fln : f ≠ ln0 := ne_of_none upd_same nln0
  have W1 : WaysAt (upd (upd H1 f (.dK (wayKvs [(row, none)]))) ln0 (.lst [.int row])) f [(row, none)] := ⟨by rw [upd_ne fln, upd_same], fun k a l e => by cases List.mem_singleton.mp e⟩
  -- the loop
  refine while_byR (fun σ H' => ∃ (ln : Addr) (W : WayA) (ns : List Int) (v5 v6 v7 : Option V), σ = [some (.ref p), some (.int row), some (.ref d), some (.ref f), some (.ref ln), v5, v6, v7] ∧ Same H1 H' ∧ GrpsAt H' d G ∧ WaysAt H' f W ∧ H' ln = some (.lst (ns.map V.int)) ∧
      Ways (IsLink b.rows b.rel) row (wayL W) ∧ (∀ n ∈ ns, n ∈ keys (wayL W)) ∧ (∀ l, IsLink b.rows b.rel l → l.src.row ∈ keys (wayL W) → l.src.row ∈ ns ∨ l.dst.row ∈ keys (wayL W)) ∧ ∃ k, bfs (linksL b.rows b.rel) row k = (wayL W, ns))
    (fun σ H' bb H2 => ∃ (ln : Addr) (ns : List Int), σ[4]? = some (some (.ref ln)) ∧ H' ln = some (.lst (ns.map V.int)) ∧ Same H' H2 ∧ bb = !decide (ns = []))
    (fun σ H' => 2 * (2 * b.rel.length + 1 - lenAt H' f) + (match σ with | [_, _, _, _, some (.ref ln), _, _, _] => min 1 (lenAt H' ln) | _ => 0)) ⟨ln0, [(row, none)], [row], none, none, none, rfl, s3, gr.keep s3, W1, upd_same, .start, fun n hn => (by simpa [wayL, keys] using hn), fun l _ hs => .inl (by simpa [wayL, keys] using hs), 0, rfl⟩ ?_ ?_ ?_
  · rintro σ H' R ⟨ln, W, ns, v5, v6, v7, rfl, sm, g1, w1, hln, wy, nk, cl, kn, hkn⟩ q
    refine ⟨_, rfl, (by show 0 ≤ sizeLine; decide), fun z nz => ?_⟩
    refine ⟨ln, z, ns, [], rfl, rfl, SqL.of (Same.new nz _ _ hln), SqL.of upd_same, _, rfl, q _ _ ⟨ln, ns, rfl, hln, Same.new nz, rfl⟩⟩
  · rintro σ H' H2 ⟨ln, W, ns, v5, v6, v7, rfl, sm, g1, w1, hln, wy, nk, cl, kn, hkn⟩ ⟨ln', ns', e1, e2, s4, e3⟩
    injection e1 with e1
    injection e1 with e1
    injection e1 with e1
    subst e1
    rw [hln] at e2
    injection e2 with e2
    injection e2 with e2
    have e5 := ints_inj e2
    subst e5
    have hne : ns ≠ [] := by simpa using e3.symm
    refine ⟨(by show 0 ≤ sizeLine; decide), fun q nq => ?_⟩
    have s5 : Same H' (upd H2 q (.lst [])) := Same.upd1 s4 nq
    have hq1 : H1 q = none := (sm.trans s4).free nq
    have B0 : BSt H1 (upd H2 q (.lst [])) d f q ln G (IsLink b.rows b.rel) row W W.length ns [] := ⟨sm.trans s5, g1.keep s5, w1.same s5, nf, df, hq1, s5 _ _ hln, upd_same, ne_of_none (s4 _ _ hln) nq, fun g hg => ne_of_none ((g1.keep s4).gl g hg) nq, wy, nk, fun n hn => (by cases hn), Nat.zero_le _, Nat.le_refl _, fun z => absurd rfl z⟩
    refine ⟨_, rfl, ln, rfl, ⟨_, SqL.of B0.hln⟩, for_list (K := K) (a := ln) (xs := ns.map V.int) (fun i σ H' => ∃ (Wi : WayA) (later : List Int) (v6 v7 : Option V), σ = [some (.ref p), some (.int row), some (.ref d), some (.ref f), some (.ref ln), some (.ref q), v6, v7] ∧
      BSt H1 H' d f q ln G (IsLink b.rows b.rel) row Wi W.length ns later ∧ (∀ l, IsLink b.rows b.rel l → l.src.row ∈ keys (wayL Wi) → l.src.row ∈ later ∨ l.src.row ∈ ns.drop i ∨ l.dst.row ∈ keys (wayL Wi)) ∧ (ns.take i).foldl (rowF (linksL b.rows b.rel)) (wayL W, []) = (wayL Wi, later))
      ⟨W, [], v6, v7, rfl, B0, fun l hl hs => .inr (cl l hl hs), rfl⟩ (fun i σ H' _ ⟨_, _, _, _, _, B, _⟩ => SqL.of B.hln) ?_ ?_⟩
    · rintro i x σ Hi hx ⟨Wi, later, u6, u7, rfl, B, ci, fi⟩
      obtain ⟨n, hn, rfl⟩ := int_at hx
      have hdrop : ns.drop i = n :: ns.drop (i + 1) := by
        obtain ⟨hlt, e⟩ := List.getElem?_eq_some_iff.mp hn
        rw [List.drop_eq_getElem_cons hlt, e]
      -- the links of the row
      refine ⟨fun v H3 => ∃ (la : Addr) (es : List (Addr × LinkD)), v = .ref la ∧ Same Hi H3 ∧ H3 la = some (.lst (es.map fun e => V.ref e.1)) ∧ la ≠ q ∧ (∀ e ∈ es, LinkAt H3 e.1 e.2 ∧ IsLink b.rows b.rel e.2 ∧ e.2.src.row = n) ∧ (∀ l, IsLink b.rows b.rel l → l.src.row = n → ∃ e ∈ es, e.2 = l) ∧ es.map (·.2) = ofRow (linksL b.rows b.rel) n, ?_, ?_⟩
      · refine ⟨_, rfl, d, rfl, .inl ⟨_, .inl B.gr.dk⟩, _, rfl, (by show 0 ≤ sizeLine; decide), fun z nz => ?_⟩
        have s6 : Same Hi (upd Hi z (.lst [])) := Same.new nz
        refine ⟨_, DGet.k (k := Sum.inl n) (s6 _ _ B.gr.dk), ?_⟩
        cases hv : valV (grpKvs G) (Sum.inl n : Key) with
        | none =>
          refine ⟨z, [], rfl, s6, upd_same, Ne.symm (ne_of_none B.hlq nz), fun e he => (by cases he), fun l hl hs => ?_, ?_⟩
          · obtain ⟨g, hg, hgr, _⟩ := (gi n l).mpr ⟨hl, hs⟩
            exact absurd hgr (valG_none hv g hg)
          · unfold Bm.ofRow
            refine (List.filter_eq_nil_iff.mpr fun l hl z => ?_).symm
            obtain ⟨g, hg, hgr, _⟩ := (gi n l).mpr ⟨linksL_mem.mp hl, by simpa using z⟩
            exact valG_none hv g hg hgr
        | some v =>
          obtain ⟨g, hg, hgr, rfl⟩ := valG hv
          have gs := B.gr.keep s6
          refine ⟨g.addr, g.ls, rfl, s6, gs.gl g hg, B.gq g hg, fun e he => ?_, fun l hl hs => ?_, by rw [← hgr]; exact go g hg⟩
          · have z := (gi n e.2).mp ⟨g, hg, hgr, e, he, rfl⟩
            exact ⟨gs.tl g hg e he, z.1, z.2⟩
          · obtain ⟨g', hg', hgr', e, he, hel⟩ := (gi n l).mpr ⟨hl, hs⟩
            have : g' = g := nodup_of_map gs.rn hg' hg (by rw [hgr', hgr])
            subst this
            exact ⟨e, he, hel⟩
      · have ⟨later0, hl0⟩ : ∃ l0, l0 = later := ⟨_, rfl⟩
        rintro v H3 ⟨la, es, rfl, s6, hla, lq, hes, hall, heo⟩
        refine ⟨la, rfl, ⟨_, SqL.of hla⟩, for_list (K := K) (a := la) (xs := es.map fun e => V.ref e.1) (fun j σ H' => ∃ (Wj : WayA) (later : List Int) (v7 : Option V), σ = [some (.ref p), some (.int row), some (.ref d), some (.ref f), some (.ref ln), some (.ref q), some (.int n), v7] ∧
          BSt H1 H' d f q ln G (IsLink b.rows b.rel) row Wj W.length ns later ∧ H' la = some (.lst (es.map fun e => V.ref e.1)) ∧ (∀ e ∈ es, LinkAt H' e.1 e.2) ∧
          (∀ l, IsLink b.rows b.rel l → l.src.row ∈ keys (wayL Wj) → l.src.row ∈ later ∨ l.src.row ∈ ns.drop (i + 1) ∨ l.dst.row ∈ keys (wayL Wj) ∨ (l.src.row = n ∧ ∃ e ∈ es.drop j, e.2 = l)) ∧
          ((es.take j).map (·.2)).foldl stepL (wayL Wi, later0) = (wayL Wj, later))
          ⟨Wi, later, u7, rfl, B.keep s6, hla, fun e he => (hes e he).1, fun l hl hs => ?_, by rw [hl0]; rfl⟩ (fun j σ H' _ ⟨_, _, _, _, _, h, _⟩ => SqL.of h) ?_ ?_⟩
        · rcases ci l hl hs with z | z | z
          · exact .inl z
          · rw [hdrop] at z
            rcases List.mem_cons.mp z with z | z
            · exact .inr (.inr (.inr ⟨z, hall l hl z⟩))
            · exact .inr (.inl z)
          · exact .inr (.inr (.inl z))
        · rintro j y σ Hj hy ⟨Wj, lat, u8, rfl, Bj, hlj, tj, cj, fj⟩
          obtain ⟨e, he, rfl⟩ : ∃ e, es[j]? = some e ∧ y = V.ref e.1 := by
            rw [List.getElem?_map] at hy
            cases e : es[j]? with
            | none => rw [e] at hy; cases hy
            | some n => rw [e] at hy; exact ⟨n, rfl, (Option.some.inj hy).symm⟩
          have hem := List.mem_of_getElem? he
          obtain ⟨a, l⟩ := e
          obtain ⟨pa, qa, k1, k2, k3⟩ := tj _ hem
          have hdj : es.drop j = (a, l) :: es.drop (j + 1) := by
            obtain ⟨hlt, e⟩ := List.getElem?_eq_some_iff.mp he
            rw [List.drop_eq_getElem_cons hlt, e]
          have etk : ((es.take (j + 1)).map (·.2)).foldl stepL (wayL Wi, later0) = stepL (wayL Wj, lat) l := by
            have e1 : es.take (j + 1) = es.take j ++ [(a, l)] := by rw [List.take_add_one, he]; rfl
            rw [e1, List.map_append, List.foldl_append, fj]
            rfl
          have hLl := (hes _ hem).2.1
          have hLs := (hes _ hem).2.2
          refine ⟨_, rfl, a, _, _, _, rfl, rfl, SqT.of k1, atI_nat (j := 2) rfl, qa, _, _, _, rfl, rfl, SqT.of k3, atI_nat (j := 0) rfl, _, rfl, f, _, rfl, DGet.k (k := Sum.inl l.dst.row) Bj.wa.dk, _, rfl, ?_⟩
          cases hv : valV (wayKvs Wj) (Sum.inl l.dst.row : Key) with
          | some v =>
            refine iteF ?_
            have hin : l.dst.row ∈ keys (wayL Wj) := by
              by_cases c : l.dst.row ∈ keys (wayL Wj)
              · exact c
              · rw [valW_none.mpr c] at hv
                cases hv
            refine ⟨Wj, lat, _, rfl, Bj, hlj, tj, fun l' hl' hs' => ?_, by rw [etk]; exact if_pos hin⟩
            rcases cj l' hl' hs' with z | z | z | ⟨z1, e, z2, z3⟩
            · exact .inl z
            · exact .inr (.inl z)
            · exact .inr (.inr (.inl z))
            · rw [hdj] at z2
              rcases List.mem_cons.mp z2 with z2 | z2
              · rw [z2] at z3
                have z3 : l = l' := z3
                rw [← z3]
                exact .inr (.inr (.inl hin))
              · exact .inr (.inr (.inr ⟨z1, e, z2, z3⟩))
          | none =>
            refine iteT ?_
            have hnin := valW_none.mp hv
            have hsrc : l.src.row ∈ keys (wayL Wj) := by
              rw [hLs]
              exact Bj.nk n (List.mem_of_getElem? hn)
            have Bn := Bj.add (tj _ hem) hLl hsrc hnin
            have hWlen := Bj.wy.length
            rw [wayL_len] at hWlen
            have fq : f ≠ q := ne_of Bj.wa.dk Bj.hlq (by intro z; cases z)
            have kt : TupKeep Hj (upd Hj f (.dK (putK (wayKvs Wj) (Sum.inl l.dst.row) (.ref a)))) := TupKeep.upd (fun _ _ e => e) (fun xs z => by rw [Bj.wa.dk] at z; cases z)
            have hrl : b.rel.length ≤ 100 := by
              simp only [BookD.rel, List.length_map]
              exact ok.sl
            refine ⟨_, rfl, _, rfl, _, rfl, a, _, _, _, rfl, rfl, SqT.of k1, atI_nat (j := 2) rfl, qa, _, _, _, rfl, rfl, SqT.of k3, atI_nat (j := 0) rfl, f, _, rfl, DPut.k (k := Sum.inl l.dst.row) Bj.wa.dk ?_, ?_⟩
            · simp only [wayKvs, List.length_map]
              rw [size16]
              omega
            refine ⟨_, rfl, .inl ⟨rfl, _, SqL.of (by rw [upd_ne (Ne.symm fq)]; exact Bj.hlq)⟩, _, rfl, a, _, _, _, rfl, rfl, SqT.of (kt _ _ k1), atI_nat (j := 2) rfl, qa, _, _, _, rfl, rfl, SqT.of (kt _ _ k3), atI_nat (j := 0) rfl, ?_⟩
            refine ⟨q, _, _, rfl, rfl, (by rw [upd_ne (Ne.symm fq)]; exact Bj.hlq), ?_, ?_⟩
            · rw [List.length_map, size16]
              have := Bj.le
              omega
            have kq : TupKeep Hj (upd (upd Hj f (.dK (putK (wayKvs Wj) (Sum.inl l.dst.row) (.ref a)))) q (.lst (lat.map V.int ++ [.int l.dst.row]))) := TupKeep.upd kt (fun xs z => by rw [upd_ne (Ne.symm fq), Bj.hlq] at z; cases z)
            refine ⟨Wj ++ [(l.dst.row, some (a, l))], lat ++ [l.dst.row], _, rfl, Bn, ?_, fun e he => (tj e he).keep kq, fun l' hl' hs' => ?_, by rw [etk, wayL_snoc]; exact if_neg hnin⟩
            · rw [upd_ne lq, upd_ne (ne_of hlj Bj.wa.dk (by intro z; cases z))]
              exact hlj
            · rw [wayL_snoc, Bm.keys_snoc] at hs' ⊢
              rcases List.mem_append.mp hs' with hs' | hs'
              · rcases cj l' hl' hs' with z | z | z | ⟨z1, e, z2, z3⟩
                · exact .inl (List.mem_append_left _ z)
                · exact .inr (.inl z)
                · exact .inr (.inr (.inl (List.mem_append_left _ z)))
                · rw [hdj] at z2
                  rcases List.mem_cons.mp z2 with z2 | z2
                  · rw [z2] at z3
                    have z3 : l = l' := z3
                    rw [← z3]
                    exact .inr (.inr (.inl (List.mem_append_right _ (List.mem_singleton.mpr rfl))))
                  · exact .inr (.inr (.inr ⟨z1, e, z2, z3⟩))
              · exact .inl (List.mem_append_right _ hs')
        · rintro σ Hj ⟨Wj, lat, u8, rfl, Bj, hlj, tj, cj, fj⟩
          rw [List.length_map] at cj fj
          refine ⟨Wj, lat, _, _, rfl, Bj, fun l hl hs => ?_, ?_⟩
          rcases cj l hl hs with z | z | z | ⟨z1, e, z2, z3⟩
          · exact .inl z
          · exact .inr (.inl z)
          · exact .inr (.inr z)
          · rw [List.drop_length] at z2
            cases z2
          have e1 : ns.take (i + 1) = ns.take i ++ [n] := by rw [List.take_add_one, hn]; rfl
          rw [e1, List.foldl_append, fi]
          rw [List.take_length, heo, hl0] at fj
          exact fj
    · rintro σ Hi ⟨Wi, later, u6, u7, rfl, B, ci, fi⟩
      rw [List.length_map] at fi ci
      rw [List.drop_length] at ci
      rw [List.take_length] at fi
      refine ⟨_, rfl, ⟨q, Wi, later, _, _, _, rfl, B.same, B.gr, B.wa, B.hlq, B.wy, B.lk, fun l hl hs => ?_, kn + 1, ?_⟩, ?_⟩
      · rcases ci l hl hs with z | z | z
        · exact .inl z
        · cases z
        · exact .inr z
      · show lineF _ (bfs _ row kn) = _
        rw [hkn]
        exact fi
      · have e1 : lenAt Hi f = Wi.length := by unfold lenAt; rw [B.wa.dk]; simp [wayKvs]
        have e2 : lenAt Hi q = later.length := by unfold lenAt; rw [B.hlq]; simp
        have e3 : lenAt H' f = W.length := by unfold lenAt; rw [w1.dk]; simp [wayKvs]
        have e4 : lenAt H' ln = ns.length := by unfold lenAt; rw [hln]; simp
        show 2 * (2 * b.rel.length + 1 - lenAt Hi f) + min 1 (lenAt Hi q) < 2 * (2 * b.rel.length + 1 - lenAt H' f) + min 1 (lenAt H' ln)
        rw [e1, e2, e3, e4]
        have h1 := B.wy.length
        rw [wayL_len] at h1
        have h2 := B.w0
        have h3 := B.w1
        have h4 : 0 < ns.length := List.length_pos_iff.mpr hne
        by_cases c : later = []
        · subst c
          simp
          omega
        · have h5 := h3 c
          have h6 : 0 < later.length := List.length_pos_iff.mpr c
          omega
  · rintro σ H' H2 ⟨ln, W, ns, v5, v6, v7, rfl, sm, g1, w1, hln, wy, nk, cl, kn, hkn⟩ ⟨ln', ns', e1, e2, s4, e3⟩
    injection e1 with e1
    injection e1 with e1
    injection e1 with e1
    subst e1
    rw [hln] at e2
    injection e2 with e2
    injection e2 with e2
    have e5 := ints_inj e2
    subst e5
    have e4 : ns = [] := by simpa using e3
    subst e4
    refine ⟨_, rfl, h f H2 W ((s1.trans sm).trans s4) (w1.same s4) wy (fun l hl hs => ?_) ⟨kn, hkn⟩⟩
    rcases cl l hl hs with z | z
    · cases z
    · exact z
end
end Bt
namespace Bt
open PySem PySem.Spec PyProof.Rows L2
open Bm (SpotD LinkD WayL smallSpot greatSpot IsLink Ways Closed keys Conn)
/-- whether a beat is sure -/
def Sure (b : BookD) (t : Int) : Prop := Conn (IsLink b.rows b.rel) (smallSpot b.rows (t - b.begin_)).row (greatSpot b.rows (t - b.begin_)).row
section
variable {P : Program} {w : World} {K : PySem.W.Frag} {mg : Str → Option Value} {base : Heap}
def spCheckBeat : Sp := fun vs H Q _ => ∃ a : Int, vs = [.int a] ∧ Q .non H
theorem c_check_beat_chains (T : Env K mg) : Cal P w K mg base 2 (He.fAd K D_check_beat_chains.at_) ["beat"] spCheckBeat := by
  obtain ⟨fd, F⟩ := T.d_check_beat_chains
  have sc : FnScope ["beat"] ["beat"] (defScope S_check_beat_chains) := ⟨rfl, rfl, rfl, by decide +kernel, rfl, by decide +kernel, by decide +kernel⟩
  refine mkCal F sc (fun _ _ _ _ _ _ us hl => match us, hl with | [_], _ => rfl) (fun vs H Q E h => by obtain ⟨a, rfl, _⟩ := h; rfl) (fun cdv A outer s H vs Q E hr h => ?_)
  obtain ⟨a, rfl, h⟩ := h
  refine ⟨_, pss_one (ps_if (pt_not (pt_val (pe_c (c_is_whole T) hr T.g_is_whole (pa_cons (pv 0) pa_nil)))) (pss_one ps_never) pss_nil), ?_⟩
  exact ⟨_, rfl, a, rfl, true, rfl, iteF h⟩
def spSure (K : PySem.W.Frag) : Sp := fun vs H Q _ => ∃ (p : Addr) (b : BookD) (t : Int), vs = [.ref p, .int t] ∧ BookAt K H p b ∧ BookOk b ∧ ∀ H' k, Same H H' → (k = true ↔ Sure b t) → Q (.bl k) H'
theorem c_sure (T : Env K mg) : Cal P w K mg base 11 (He.fAd K D_sure.at_) ["book", "beat"] (spSure K) := by
  obtain ⟨fd, F⟩ := T.d_sure
  have sc : FnScope ["book", "beat", "net"] ["book", "beat"] (defScope S_sure) := ⟨rfl, rfl, rfl, by decide +kernel, rfl, by decide +kernel, by decide +kernel⟩
  refine mkCal F sc (fun _ _ _ _ _ _ us hl => match us, hl with | [_, _], _ => rfl) (fun vs H Q E h => by obtain ⟨a, b, c, rfl, _⟩ := h; rfl) (fun cdv A outer s H vs Q E hr h => ?_)
  obtain ⟨p, b, t, rfl, hb, ok, h⟩ := h
  have hu := hu_of hr
  have hr2 : Room 2 _ := hr.mono (by decide)
  have hr5 : Room 5 _ := hr.mono (by decide)
  have hr6 : Room 6 _ := hr.mono (by decide)
  have hr7 : Room 7 _ := hr.mono (by decide)
  have hr9 : Room 9 _ := hr.mono (by decide)
  refine ⟨_, pss_cons (ps_expr (pe_c (c_check_beat_chains T) hr2 T.g_check_beat_chains (pa_cons (pv 1) pa_nil)))
    (pss_cons (ps_set (i := 2) sc.nd rfl (Or.inl rfl) (pe_mk (c_Net_init T) T.k_Net hr5 T.g_Net (pa_cons (pv 0) pa_nil)))
    (pss_one (ps_ret (pe_cmp (pc_din hu (pe_ix ix_tup (pe_m (c_great_spot T) T.c_Net T.m_Net_great_spot hr7 (pv 2) (pa_cons (pe_op op_sub (pv 1) (pe_fld (pv 0) rfl)) pa_nil)) pe_int (fun _ _ => rfl))
      (pe_m (c_ways_from T) T.c_Net T.m_Net_ways_from hr9 (pv 2) (pa_cons (pe_ix ix_tup (pe_m (c_small_spot T) T.c_Net T.m_Net_small_spot hr6 (pv 2) (pa_cons (pe_op op_sub (pv 1) (pe_fld (pv 0) rfl)) pa_nil)) pe_int (fun _ _ => rfl)) pa_nil))) rfl)))), ?_⟩
  refine ⟨_, rfl, t, rfl, ?_⟩
  refine ⟨_, rfl, fun x dx nx ndx nxx => ?_⟩
  have s0 : Same H (upd (upd H dx (.own x)) x (.ins (He.ga K "Net") dx [])) := Same.upd1 (Same.upd1 (Same.refl H) ndx) (by rw [upd_ne (Ne.symm nxx)]; exact nx)
  refine ⟨x, dx, p, b, rfl, upd_same, hb.same s0, ok, fun H1 sb hN => ⟨rfl, ?_⟩⟩
  have s1 : Same H H1 := fun c o e => sb c o (s0 c o e) (ne_of_none e nx)
  obtain ⟨dxk, pb, dxb, ps, k1, k2, k3⟩ := hb
  obtain ⟨dxn, pr, pl, n1, n2, n3⟩ := id hN
  refine ⟨_, rfl, _, _, _, rfl, n1, lk_Net_m_great_spot, _, rfl, _, rfl, _, _, _, _, _, rfl, s1 _ _ k1, T.c_Book, T.n_Book_begin, lk_Book_begin, _, _, rfl, rfl, x, b, _, rfl, hN, ok, fun a1 H2 s2 _ sp1 => ?_⟩
  refine ⟨a1, _, _, _, rfl, rfl, SqT.of sp1, atI_nat (j := 0) rfl, ?_⟩
  refine ⟨_, rfl, _, _, _, rfl, s2 _ _ n1, lk_Net_m_ways_from, _, rfl, _, _, _, rfl, s2 _ _ n1, lk_Net_m_small_spot, _, rfl, _, rfl, _, _, _, _, _, rfl, s2 _ _ (s1 _ _ k1), T.c_Book, T.n_Book_begin, lk_Book_begin, _, _, rfl, rfl, x, b, _, rfl, hN.same s2, ok, fun a2 H3 s3 _ sp2 => ?_⟩
  refine ⟨a2, _, _, _, rfl, rfl, SqT.of sp2, atI_nat (j := 0) rfl, ?_⟩
  refine ⟨x, b, _, rfl, (hN.same s2).same s3, ok, fun f H4 W s4 wa wy cl _ => ?_⟩
  refine ⟨f, _, rfl, DGet.k (k := Sum.inl _) wa.dk, ?_⟩
  refine h H4 _ (((s1.trans s2).trans s3).trans s4) ?_
  unfold Sure
  rw [← wy.conn_iff cl]
  cases hv : valV (wayKvs W) (Sum.inl (greatSpot b.rows (t - b.begin_)).row : Key) with
  | none =>
    have := valW_none.mp hv
    simp [this]
  | some v =>
    have : (greatSpot b.rows (t - b.begin_)).row ∈ keys (wayL W) := by
      by_cases c : (greatSpot b.rows (t - b.begin_)).row ∈ keys (wayL W)
      · exact c
      · rw [valW_none.mpr c] at hv
        cases hv
    simp [this]
end
end Bt
namespace Bt
open PySem PySem.Spec PyProof.Rows L2
theorem inV_ints {t : Int} {ns : List Int} : inV (.int t) (ns.map V.int) = decide (t ∈ ns) := by
  unfold inV
  rw [List.any_map]
  induction ns with
  | nil => rfl
  | cons n ns ih =>
    rw [List.any_cons, ih]
    show ((n == t) || decide (t ∈ ns)) = decide (t ∈ n :: ns)
    by_cases c : n = t
    · subst c
      simp
    · have : ¬ t = n := fun z => c z.symm
      simp [c, this]
theorem flat_ints (ns : List Int) : (ns.map V.int).all flatV = true := by
  rw [List.all_map]
  exact List.all_eq_true.mpr fun _ _ => rfl
def BookD.put (b : BookD) (ns : List Int) : BookD := { b with singles := ns }
section
variable {P : Program} {w : World} {K : PySem.W.Frag} {mg : Str → Option Value} {base : Heap}
/-- Book(belts, begin = .., many = .., singles = ..) -/
theorem mkBook {X : Cx} {f : Addr} {fd : FuncData} {e : Expr} {kws : List Keyword} {t tk : TA} {p pos : Pos} (c : FnOk X.prog X.w X.K X.mg X.base CX0 5 f fd ["self", "belts", "begin", "many", "singles"] (spBookInit X.K) ∧
    KBn X.K fd ["self", "belts", "begin", "many", "singles"] 2 ["begin", "many", "singles"] (fun us ws => us ++ ws) (fun vs zs => vs ++ zs))
    (M : Mk X.K (He.ga X.K "Book") f) (hr : Room 6 X.A) (hm : X.mg "Book" = some (.ref (He.ga X.K "Book"))) (ha : PA X [e] t) (hkw : PK X kws tk) (hg : Gl X "Book" := by rfl)
    (hall : (backToKw pos (keywordEach kws X.env)).all (·.1.isSome) = true := by rfl) (hks : (backToKw pos (keywordEach kws X.env)).filterMap (·.1) = ([("begin" : Str), "many", "singles"] : List Str) := by rfl)
    (he : starEach [e] X.env = (false, eval e X.env) :: starEach [] X.env := by rfl)
    (hpl : ((backTo pos (starEach [e] X.env)).any (·.1) || (backToKw pos (keywordEach kws X.env)).any (·.1.isNone)) = false := by rfl) :
    PE X (.Call (.Name "Book" p) [e] kws pos) (tMakeN (He.ga X.K "Book") 1 3 (spBookInit X.K) (fun vs zs => vs ++ zs) E0 t tk) :=
  pe_makeN (n := 1) (ks := ["begin", "many", "singles"]) M c.1 hr hg hm c.2 pass0 ha hkw hall hks (by decide) he hpl
end
end Bt
namespace Bt
open PySem PySem.Spec PyProof.Rows L2
section
variable {P : Program} {w : World} {K : PySem.W.Frag} {mg : Str → Option Value} {base : Heap}
def spWithSingles (K : PySem.W.Frag) : Sp := fun vs H Q _ => ∃ (p ps : Addr) (b : BookD) (ns : List Int), vs = [.ref p, .ref ps] ∧ BookAt K H p b ∧ H ps = some (.tup (ns.map V.int)) ∧ BookOk (b.put ns) ∧ ∀ x H', Same H H' → BookAt K H' x (b.put ns) → Q (.ref x) H'
theorem c_with_singles (T : Env K mg) : Cal P w K mg base 7 (He.fAd K D_with_singles.at_) ["book", "singles"] (spWithSingles K) := by
  obtain ⟨fd, F⟩ := T.d_with_singles
  obtain ⟨fdB, cB⟩ := c_Book_init (P := P) (w := w) (base := base) T
  have sc : FnScope ["book", "singles"] ["book", "singles"] (defScope S_with_singles) := ⟨rfl, rfl, rfl, by decide +kernel, rfl, by decide +kernel, by decide +kernel⟩
  refine mkCal F sc (fun _ _ _ _ _ _ us hl => match us, hl with | [_, _], _ => rfl) (fun vs H Q E h => by obtain ⟨a, b, c, d, rfl, _⟩ := h; rfl) (fun cdv A outer s H vs Q E hr h => ?_)
  obtain ⟨p, ps, b, ns, rfl, hb, hp, ok, h⟩ := h
  refine ⟨_, pss_one (ps_ret (mkBook cB T.k_Book hr T.g_Book (pa_cons (pe_fld (pv 0) rfl) pa_nil) (pk_cons (pe_fld (pv 0) rfl) (pk_cons (pe_fld (pv 0) rfl) (pk_cons (pv 1) pk_nil))))), ?_⟩
  obtain ⟨dx, pb, dxb, qs, h1, h2, h3⟩ := hb
  refine ⟨_, rfl, _, _, _, _, _, rfl, h1, T.c_Book, T.n_Book_belts, lk_Book_belts, _, rfl, _, _, _, _, _, rfl, h1, T.c_Book, T.n_Book_begin, lk_Book_begin, _, rfl, _, _, _, _, _, rfl, h1, T.c_Book, T.n_Book_many, lk_Book_many, _, rfl, rfl, rfl, fun x dxx nx ndx nxx => ?_⟩
  have s0 : Same H (upd (upd H dxx (.own x)) x (.ins (He.ga K "Book") dxx [])) := Same.upd1 (Same.upd1 (Same.refl H) ndx) (by rw [upd_ne (Ne.symm nxx)]; exact nx)
  refine ⟨x, dxx, pb, dxb, ps, b.put ns, rfl, upd_same, s0 _ _ h2, s0 _ _ hp, ok, fun H1 sb hN => ⟨rfl, ?_⟩⟩
  exact h x H1 (fun c o e => sb c o (s0 c o e) (ne_of_none e nx)) hN
theorem c_check_beat_books (T : Env K mg) : Cal P w K mg base 2 (He.fAd K D_check_beat_books.at_) ["beat"] spCheckBeat := by
  obtain ⟨fd, F⟩ := T.d_check_beat_books
  have sc : FnScope ["beat"] ["beat"] (defScope S_check_beat_books) := ⟨rfl, rfl, rfl, by decide +kernel, rfl, by decide +kernel, by decide +kernel⟩
  refine mkCal F sc (fun _ _ _ _ _ _ us hl => match us, hl with | [_], _ => rfl) (fun vs H Q E h => by obtain ⟨a, rfl, _⟩ := h; rfl) (fun cdv A outer s H vs Q E hr h => ?_)
  obtain ⟨a, rfl, h⟩ := h
  refine ⟨_, pss_one (ps_if (pt_not (pt_val (pe_c (c_is_whole T) hr T.g_is_whole (pa_cons (pv 0) pa_nil)))) (pss_one ps_never) pss_nil), ?_⟩
  exact ⟨_, rfl, a, rfl, true, rfl, iteF h⟩
def spWithoutSingle (K : PySem.W.Frag) : Sp := fun vs H Q _ => ∃ (p : Addr) (b : BookD) (t : Int), vs = [.ref p, .int t] ∧ BookAt K H p b ∧ BookOk b ∧ t ∈ b.singles ∧ ∀ x H', Same H H' → BookAt K H' x (b.put (b.singles.filter fun s => decide (s ≠ t))) → Q (.ref x) H'
theorem BookOk.filter {b : BookD} (ok : BookOk b) (f : Int → Bool) : BookOk (b.put (b.singles.filter f)) :=
  ⟨ok.o1, ok.o2, ok.t1, ok.t2, ok.g1, ok.g2, ok.m1, ok.m2, Nat.le_trans (List.length_filter_le _ _) ok.sl, fun s hs => ok.sb s ((List.mem_filter.mp hs).1), ok.sn.filter _⟩
theorem c_without_single (T : Env K mg) : Cal P w K mg base 8 (He.fAd K D_without_single.at_) ["book", "beat"] (spWithoutSingle K) := by
  obtain ⟨fd, F⟩ := T.d_without_single
  have sc : FnScope ["book", "beat", "one"] ["book", "beat"] (defScope S_without_single) := ⟨rfl, rfl, rfl, by decide +kernel, rfl, by decide +kernel, by decide +kernel⟩
  refine mkCal F sc (fun _ _ _ _ _ _ us hl => match us, hl with | [_, _], _ => rfl) (fun vs H Q E h => by obtain ⟨a, b, c, rfl, _⟩ := h; rfl) (fun cdv A outer s H vs Q E hr h => ?_)
  obtain ⟨p, b, t, rfl, hb, ok, ht, h⟩ := h
  have hr2 : Room 2 _ := hr.mono (by decide)
  refine ⟨_, pss_cons (ps_expr (pe_c (c_check_beat_books T) hr2 T.g_check_beat_books (pa_cons (pv 1) pa_nil)))
    (pss_cons (ps_if (pt_cmpR op_notIn_seq (pv 1) (pe_fld (pv 0) rfl) rfl) (pss_one ps_never) pss_nil)
    (pss_one (ps_ret (pe_c (c_with_singles T) hr T.g_with_singles (pa_cons (pv 0) (pa_cons (pe_callTy call_tuple_of rfl T.b_tuple (by decide +kernel) (pa_cons
      (pe_lc (own := [("one", 2)]) (g := gName 2) (tt := tTest (tOp rNe (tVar 2) (tVar 1))) (te := tVar 2) rfl sc.nd (pi_tup (pe_fld (pv 0) rfl)) (blkOk_by (own := [("one", 2)]) (N := ["book", "beat", "one"]) (sc := defScope S_without_single) (by decide +kernel)) (fun _ _ _ _ _ => pg_name (i := 2) sc.nd rfl (Or.inl rfl))
        (fun _ _ _ _ _ => by exact (pts_one (pt_cmpR op_ne (pv 2) (pv 1) (nomark _)))) (fun _ _ _ _ _ => pv 2)) pa_nil)) pa_nil)))))), ?_⟩
  refine ⟨_, rfl, t, rfl, ?_⟩
  obtain ⟨dx, pb, dxb, qs, h1, h2, h3⟩ := id hb
  refine ⟨_, rfl, _, rfl, _, _, _, _, _, rfl, h1, T.c_Book, T.n_Book_singles, lk_Book_singles, qs, _, rfl, .inr (SqT.of h3), rfl, flat_ints _, _, rfl, ?_⟩
  rw [if_pos rfl, inV_ints]
  refine ite_ff (by rw [decide_eq_true ht]; rfl) ?_
  refine ⟨_, rfl, _, rfl, _, _, _, _, _, rfl, h1, T.c_Book, T.n_Book_singles, lk_Book_singles, qs, rfl, ⟨_, SqT.of h3⟩, fun D nD => ?_⟩
  refine lc_tup (K := K) (a := qs) (xs := b.singles.map V.int) (fun i H' => Same H H' ∧ H' D = some (.lst (((b.singles.take i).filter fun s => decide (s ≠ t)).map V.int))) ⟨Same.new nD, upd_same⟩ (fun i H' _ z => Same.seqT z.1 (SqT.of h3)) ?_ ?_
  · rintro i x H' hx ⟨sm, hD⟩
    obtain ⟨n, hn', rfl⟩ := int_at hx
    have hi : i < b.singles.length := (List.getElem?_eq_some_iff.mp hn').1
    have et : b.singles.take (i + 1) = b.singles.take i ++ [n] := by rw [List.take_add_one, hn']; rfl
    refine ⟨rfl, _, rfl, _, rfl, rfl, _, rfl, ?_⟩
    by_cases c : n = t
    · subst c
      refine ite_ff (by simp) ⟨sm, ?_⟩
      rw [et, List.filter_append, hD]
      simp
    · have e1 : (!decide (V.int n = V.int t)) = true := by
        have : ¬ V.int n = V.int t := fun z => c (by injection z)
        simp [this]
      refine ite_tt e1 ?_
      refine ⟨_, rfl, _, hD, ?_, fun x o e => ?_, ?_⟩
      · rw [List.length_map, size16]
        have h1 := List.length_filter_le (fun s => decide (s ≠ t)) (b.singles.take i)
        have h2 := List.length_take_le i b.singles
        have := ok.sl
        omega
      · rw [upd_ne (ne_of_none e nD)]
        exact sm x o e
      · rw [upd_same, et, List.filter_append]
        simp [c]
  · rintro H' ⟨sm, hD⟩
    rw [List.length_map, List.take_length] at hD
    refine ⟨D, _, rfl, .inl ⟨SqL.of hD, fun l nl => ?_⟩⟩
    have s2 : Same H (upd H' l (.tup ((b.singles.filter fun s => decide (s ≠ t)).map V.int))) := Same.upd1 sm nl
    exact ⟨p, l, b, _, rfl, hb.same s2, upd_same, ok.filter _, fun x H2 sm2 hx => h x H2 (s2.trans sm2) hx⟩
end
end Bt
namespace Bt
open PySem PySem.Spec PyProof.Rows L2
section
variable {P : Program} {w : World} {K : PySem.W.Frag} {mg : Str → Option Value} {base : Heap}
/-- a single put behind, where it doesn't stand there -/
def spWithSingle (K : PySem.W.Frag) : Sp := fun vs H Q _ => ∃ (p : Addr) (b : BookD) (t : Int), vs = [.ref p, .int t] ∧ BookAt K H p b ∧ t ∉ b.singles ∧ BookOk (b.put (b.singles ++ [t])) ∧ ∀ x H', Same H H' → BookAt K H' x (b.put (b.singles ++ [t])) → Q (.ref x) H'
theorem c_with_single (T : Env K mg) : Cal P w K mg base 8 (He.fAd K D_with_single.at_) ["book", "beat"] (spWithSingle K) := by
  obtain ⟨fd, F⟩ := T.d_with_single
  have sc : FnScope ["book", "beat"] ["book", "beat"] (defScope S_with_single) := ⟨rfl, rfl, rfl, by decide +kernel, rfl, by decide +kernel, by decide +kernel⟩
  refine mkCal F sc (fun _ _ _ _ _ _ us hl => match us, hl with | [_, _], _ => rfl) (fun vs H Q E h => by obtain ⟨a, b, c, rfl, _⟩ := h; rfl) (fun cdv A outer s H vs Q E hr h => ?_)
  obtain ⟨p, b, t, rfl, hb, ht, ok, h⟩ := h
  have hr2 : Room 2 _ := hr.mono (by decide)
  refine ⟨_, pss_cons (ps_expr (pe_c (c_check_beat_books T) hr2 T.g_check_beat_books (pa_cons (pv 1) pa_nil)))
    (pss_cons (ps_if (pt_cmpR op_in_seq (pv 1) (pe_fld (pv 0) rfl) rfl) (pss_one (ps_ret (pe_c (c_with_singles T) hr T.g_with_singles (pa_cons (pv 0) (pa_cons (pe_fld (pv 0) rfl) pa_nil))))) pss_nil)
    (pss_one (ps_ret (pe_c (c_with_singles T) hr T.g_with_singles (pa_cons (pv 0) (pa_cons (pe_op op_catA (pe_fld (pv 0) rfl) (pe_tup (pa_cons (pv 1) pa_nil))) pa_nil)))))), ?_⟩
  refine ⟨_, rfl, t, rfl, ?_⟩
  obtain ⟨dx, pb, dxb, qs, h1, h2, h3⟩ := id hb
  refine ⟨_, rfl, _, rfl, _, _, _, _, _, rfl, h1, T.c_Book, T.n_Book_singles, lk_Book_singles, qs, _, rfl, .inr (SqT.of h3), rfl, flat_ints _, _, rfl, ?_⟩
  rw [if_neg Bool.false_ne_true, inV_ints]
  refine ite_ff (decide_eq_false ht) ?_
  refine ⟨_, rfl, _, rfl, _, _, _, _, _, rfl, h1, T.c_Book, T.n_Book_singles, lk_Book_singles, _, rfl, (by show 1 ≤ sizeLine; decide), fun q nq => ?_⟩
  have s1 : Same H (upd H q (.tup [.int t])) := Same.new nq
  refine ⟨qs, q, _, _, rfl, rfl, SqT.of (s1 _ _ h3), SqT.of upd_same, ?_, fun e => ?_, fun _ e => (by cases e), fun _ _ z nz => ?_⟩
  · have := ok.sl
    simp only [BookD.put, List.length_append, List.length_cons, List.length_nil] at this
    rw [List.length_map, size16]
    show b.singles.length + 1 ≤ _
    omega
  · have e2 : b.singles = [] := by simpa using e
    have e3 : b.singles ++ [t] = [t] := by rw [e2]; rfl
    rw [e3] at ok h
    exact ⟨p, q, b, [t], rfl, hb.same s1, upd_same, ok, fun x H' sm hx => h x H' (s1.trans sm) hx⟩
  · have s2 : Same H (upd (upd H q (.tup [.int t])) z (.tup (b.singles.map V.int ++ [.int t]))) := Same.upd1 s1 nz
    refine ⟨p, z, b, b.singles ++ [t], rfl, hb.same s2, ?_, ok, fun x H' sm hx => h x H' (s2.trans sm) hx⟩
    rw [upd_same, List.map_append]
    rfl
end
end Bt
namespace Bt
open PySem PySem.Spec PyProof.Rows L2
open Bm (endOf headOf GoodE Eld eks tieE tiesE rowS rowG)
/-! ### names of rows and cups; elders -/
noncomputable def greatName (r : Bm.RowsD) (c : Int) : Int := if r.hung ≤ c then -1 - c else endOf r (c % r.small)
theorem rowG_name (r : Bm.RowsD) (t : Int) : rowG r t = greatName r (t % r.great) := by
  unfold rowG Bm.greatSpot greatName
  split
  · rfl
  · split <;> rfl
theorem endOf_nn {r : Bm.RowsD} (o : Bm.RowsOk r) (p : Int) : 0 ≤ endOf r p := Int.emod_nonneg _ (by have := o.s0; omega)
def nameK (n : Int) : List Key := if 0 ≤ n then [.inl 0, .inl n] else [.inl 1, .inl (-1 - n)]
theorem nameK_inj {a b : Int} (h : nameK a = nameK b) : a = b := by
  unfold nameK at h
  split at h <;> split at h
  all_goals
    simp at h
    try omega
def NameAt (H : Hp) (a : Addr) (n : Int) : Prop := H a = some (.tup ((nameK n).map kV))
theorem nameAt_pos {H : Hp} {a : Addr} {n : Int} (h : 0 ≤ n) (e : H a = some (.tup [.int 0, .int n])) : NameAt H a n := by
  unfold NameAt nameK
  rw [if_pos h]
  exact e
theorem nameAt_neg {H : Hp} {a : Addr} {c : Int} (h : 0 ≤ c) (e : H a = some (.tup [.int 1, .int c])) : NameAt H a (-1 - c) := by
  unfold NameAt nameK
  rw [if_neg (by omega)]
  have : -1 - (-1 - c) = c := by omega
  rw [this]
  exact e
abbrev ElderA := List (Int × Int × Addr)
def elderKvs (E : ElderA) : List (List Key × V) := E.map fun e => (nameK e.1, V.ref e.2.2)
def eldL (E : ElderA) : Eld := E.map fun e => (e.1, e.2.1)
structure ElderAt (H : Hp) (e : Addr) (E : ElderA) : Prop where
  dt : H e = some (.dT (elderKvs E))
  nm : ∀ x ∈ E, NameAt H x.2.2 x.2.1
theorem ElderAt.same {H H' : Hp} {e : Addr} {E : ElderA} (s : Same H H') (h : ElderAt H e E) : ElderAt H' e E := ⟨s _ _ h.dt, fun x hx => s _ _ (h.nm x hx)⟩
theorem valE_some {E : ElderA} {n : Int} {v : V} (h : valV (elderKvs E) (nameK n) = some v) : ∃ x ∈ E, x.1 = n ∧ v = .ref x.2.2 := by
  induction E with
  | nil => cases h
  | cons e E ih =>
    by_cases c : e.1 = n
    · have : valV (elderKvs (e :: E)) (nameK n) = some (.ref e.2.2) := valV_pos (congrArg nameK c)
      rw [this] at h
      exact ⟨e, List.mem_cons_self, c, (Option.some.inj h).symm⟩
    · have : valV (elderKvs (e :: E)) (nameK n) = valV (elderKvs E) (nameK n) := valV_neg (fun z => c (nameK_inj z))
      rw [this] at h
      obtain ⟨x, hx, h2⟩ := ih h
      exact ⟨x, List.mem_cons_of_mem _ hx, h2⟩
theorem valE_none {E : ElderA} {n : Int} : valV (elderKvs E) (nameK n) = none ↔ n ∉ eks (eldL E) := by
  induction E with
  | nil => exact ⟨fun _ h => (by cases h), fun _ => rfl⟩
  | cons e E ih =>
    by_cases c : e.1 = n
    · have : valV (elderKvs (e :: E)) (nameK n) = some (.ref e.2.2) := valV_pos (congrArg nameK c)
      rw [this]
      refine ⟨fun z => (by cases z), fun z => absurd ?_ z⟩
      rw [← c]
      exact List.mem_cons_self
    · have : valV (elderKvs (e :: E)) (nameK n) = valV (elderKvs E) (nameK n) := valV_neg (fun z => c (nameK_inj z))
      rw [this, ih]
      show _ ↔ n ∉ e.1 :: eks (eldL E)
      rw [List.mem_cons]
      constructor
      · rintro h (h2 | h2)
        · exact c h2.symm
        · exact h h2
      · intro h h2
        exact h (.inr h2)
/-- ties at p: its dict at dx, its rows at pr, its elders at pe -/
structure TiesAt (K : PySem.W.Frag) (H : Hp) (p dx pr pe : Addr) (b : BookD) (E : ElderA) : Prop where
  ob : H p = some (.ins (He.ga K "Ties") dx (F_Ties pr b.begin_ pe))
  rw_ : RowsAt K H pr b.rows
  el : ElderAt H pe E
theorem TiesAt.same {K : PySem.W.Frag} {H H' : Hp} {p dx pr pe : Addr} {b : BookD} {E : ElderA} (s : Same H H') (h : TiesAt K H p dx pr pe b E) : TiesAt K H' p dx pr pe b E := ⟨s _ _ h.ob, h.rw_.same s, h.el.same s⟩
section
variable {P : Program} {w : World} {K : PySem.W.Frag} {mg : Str → Option Value} {base : Heap}
def spPlaceAt (K : PySem.W.Frag) : Sp := fun vs H Q _ => ∃ (p dx pr pe : Addr) (b : BookD) (E : ElderA) (t : Int), vs = [.ref p, .int t] ∧ TiesAt K H p dx pr pe b E ∧ BookOk b ∧
  ∀ a, H a = none → Q (.ref a) (upd H a (.tup [.int ((t - b.begin_) % b.rows.small), .int ((t - b.begin_) % b.rows.great)]))
theorem c_place_at (T : Env K mg) : Cal P w K mg base 1 (He.fAd K D_Ties_place_at.at_) ["self", "beat"] (spPlaceAt K) := by
  obtain ⟨fd, F⟩ := T.d_Ties_place_at
  have sc : FnScope ["self", "beat"] ["self", "beat"] (defScope S_Ties_place_at) := ⟨rfl, rfl, rfl, by decide +kernel, rfl, by decide +kernel, by decide +kernel⟩
  refine mkCal F sc (fun _ _ _ _ _ _ us hl => match us, hl with | [_, _], _ => rfl) (fun vs H Q E h => by obtain ⟨a, b, c, d, e, f, g, rfl, _⟩ := h; rfl) (fun cdv A outer s H vs Q E hr h => ?_)
  obtain ⟨p, dx, pr, pe, b, El, t, rfl, ⟨h1, ⟨dxr, h2⟩, h3⟩, ok, h⟩ := h
  refine ⟨_, pss_one (ps_ret (pe_tup (pa_cons (pe_op op_mod (pe_op op_sub (pv 1) (pe_fld (pv 0) rfl)) (pe_fld (pe_fld (pv 0) rfl) rfl)) (pa_cons (pe_op op_mod (pe_op op_sub (pv 1) (pe_fld (pv 0) rfl)) (pe_fld (pe_fld (pv 0) rfl) rfl)) pa_nil)))), ?_⟩
  have o1 := ok.rows.s0
  have o2 := ok.rows.sg
  refine ⟨_, rfl, _, rfl, _, _, _, _, _, rfl, h1, T.c_Ties, T.n_Ties_begin, lk_Ties_begin, _, _, rfl, rfl, _, rfl, _, _, _, _, _, rfl, h1, T.c_Ties, T.n_Ties_rows, lk_Ties_rows, _, _, _, _, _, rfl, h2, T.c_Rows, T.n_Rows_small, lk_Rows_small, _, _, rfl, rfl, (by omega),
    _, rfl, _, rfl, _, _, _, _, _, rfl, h1, T.c_Ties, T.n_Ties_begin, lk_Ties_begin, _, _, rfl, rfl, _, rfl, _, _, _, _, _, rfl, h1, T.c_Ties, T.n_Ties_rows, lk_Ties_rows, _, _, _, _, _, rfl, h2, T.c_Rows, T.n_Rows_great, lk_Rows_great, _, _, rfl, rfl, (by omega), (by show 2 ≤ sizeLine; decide), fun a na => h a na⟩
def spNameOf (K : PySem.W.Frag) : Sp := fun vs H Q _ => ∃ (p dx pr pe : Addr) (b : BookD) (E : ElderA) (side number n : Int), vs = [.ref p, .int side, .int number] ∧ TiesAt K H p dx pr pe b E ∧ BookOk b ∧
  ((side = 0 ∧ n = endOf b.rows number) ∨ (side = 1 ∧ 0 ≤ number ∧ n = greatName b.rows number)) ∧ ∀ a H', Same H H' → H a = none → NameAt H' a n → Q (.ref a) H'
theorem c_name_of (T : Env K mg) : Cal P w K mg base 6 (He.fAd K D_Ties_name_of.at_) ["self", "side", "number"] (spNameOf K) := by
  obtain ⟨fd, F⟩ := T.d_Ties_name_of
  have sc : FnScope ["self", "side", "number"] ["self", "side", "number"] (defScope S_Ties_name_of) := ⟨rfl, rfl, rfl, by decide +kernel, rfl, by decide +kernel, by decide +kernel⟩
  refine mkCal F sc (fun _ _ _ _ _ _ us hl => match us, hl with | [_, _, _], _ => rfl) (fun vs H Q E h => by obtain ⟨a, b, c, d, e, f, g, i, j, rfl, _⟩ := h; rfl) (fun cdv A outer s H vs Q E hr h => ?_)
  obtain ⟨p, dx, pr, pe, b, El, side, number, n, rfl, ⟨h1, ⟨dxr, h2⟩, h3⟩, ok, hn, h⟩ := h
  refine ⟨_, pss_cons (ps_if (pt_cmpR op_eq (pv 1) (pe_gi T.i_SMALL) (nomark _)) (pss_one (ps_ret (pe_tup (pa_cons (pe_gi T.i_SMALL) (pa_cons (pe_m (c_end_of T) T.c_Rows T.m_Rows_end_of hr (pe_fld (pv 0) rfl) (pa_cons (pv 2) pa_nil)) pa_nil))))) pss_nil)
    (pss_cons (ps_if (pt_cmpR op_ge (pv 2) (pe_fld (pe_fld (pv 0) rfl) rfl) (nomark _)) (pss_one (ps_ret (pe_tup (pa_cons (pe_gi T.i_GREAT) (pa_cons (pv 2) pa_nil))))) pss_nil)
    (pss_one (ps_ret (pe_tup (pa_cons (pe_gi T.i_SMALL) (pa_cons (pe_m (c_end_of T) T.c_Rows T.m_Rows_end_of hr (pe_fld (pv 0) rfl) (pa_cons (pe_op op_mod (pv 2) (pe_fld (pe_fld (pv 0) rfl) rfl)) pa_nil)) pa_nil)))))), ?_⟩
  have o := ok.rows
  have o1 := ok.rows.s0
  have o2 := ok.rows.sg
  refine ⟨_, rfl, rfl, _, rfl, ?_⟩
  rcases hn with ⟨rfl, rfl⟩ | ⟨rfl, hnn, rfl⟩
  · refine ite_tt (decide_eq_true rfl) ?_
    refine ⟨_, rfl, _, _, _, _, _, rfl, h1, T.c_Ties, T.n_Ties_rows, lk_Ties_rows, _, _, _, rfl, h2, lk_Rows_m_end_of, _, rfl, pr, b.rows, _, rfl, ⟨dxr, h2⟩, o, fun H1 s1 => ⟨(by show 2 ≤ sizeLine; decide), fun a na => ?_⟩⟩
    exact h a _ (Same.upd1 s1 na) (s1.free na) (nameAt_pos (endOf_nn o _) upd_same)
  · refine ite_ff (decide_eq_false (by intro z; injection z with z; omega)) ?_
    refine ⟨_, rfl, _, rfl, _, _, _, _, _, rfl, h1, T.c_Ties, T.n_Ties_rows, lk_Ties_rows, _, _, _, _, _, rfl, h2, T.c_Rows, T.n_Rows_hung, lk_Rows_hung, _, _, rfl, rfl, _, rfl, ?_⟩
    unfold greatName at h
    by_cases c : b.rows.hung ≤ number
    · refine ite_tt (decide_eq_true c) ?_
      rw [if_pos c] at h
      refine ⟨_, rfl, (by show 2 ≤ sizeLine; decide), fun a na => ?_⟩
      exact h a _ (Same.new na) na (nameAt_neg hnn upd_same)
    · refine ite_ff (decide_eq_false c) ?_
      rw [if_neg c] at h
      refine ⟨_, rfl, _, _, _, _, _, rfl, h1, T.c_Ties, T.n_Ties_rows, lk_Ties_rows, _, _, _, rfl, h2, lk_Rows_m_end_of, _, rfl, _, rfl, _, _, _, _, _, rfl, h1, T.c_Ties, T.n_Ties_rows, lk_Ties_rows, _, _, _, _, _, rfl, h2, T.c_Rows, T.n_Rows_small, lk_Rows_small, _, _, rfl, rfl, (by omega), pr, b.rows, _, rfl, ⟨dxr, h2⟩, o, fun H1 s1 => ⟨(by show 2 ≤ sizeLine; decide), fun a na => ?_⟩⟩
      exact h a _ (Same.upd1 s1 na) (s1.free na) (nameAt_pos (endOf_nn o _) upd_same)
def spNamesAt (K : PySem.W.Frag) : Sp := fun vs H Q _ => ∃ (p dx pr pe : Addr) (b : BookD) (E : ElderA) (t : Int), vs = [.ref p, .int t] ∧ TiesAt K H p dx pr pe b E ∧ BookOk b ∧
  ∀ a a1 a2 H', Same H H' → H' a = some (.tup [.ref a1, .ref a2]) → NameAt H' a1 (rowS b.rows (t - b.begin_)) → NameAt H' a2 (rowG b.rows (t - b.begin_)) → Q (.ref a) H'
theorem c_names_at (T : Env K mg) : Cal P w K mg base 7 (He.fAd K D_Ties_names_at.at_) ["self", "beat"] (spNamesAt K) := by
  obtain ⟨fd, F⟩ := T.d_Ties_names_at
  have sc : FnScope ["self", "beat", "place", "cup"] ["self", "beat"] (defScope S_Ties_names_at) := ⟨rfl, rfl, rfl, by decide +kernel, rfl, by decide +kernel, by decide +kernel⟩
  refine mkCal F sc (fun _ _ _ _ _ _ us hl => match us, hl with | [_, _], _ => rfl) (fun vs H Q E h => by obtain ⟨a, b, c, d, e, f, g, rfl, _⟩ := h; rfl) (fun cdv A outer s H vs Q E hr h => ?_)
  obtain ⟨p, dx, pr, pe, b, El, t, rfl, ht, ok, h⟩ := h
  have hr1 : Room 1 _ := hr.mono (by decide)
  refine ⟨_, pss_cons (ps_asg (pe_m (c_place_at T) T.c_Ties T.m_Ties_place_at hr1 (pv 0) (pa_cons (pv 1) pa_nil)) (pg_tup rfl (pgs_cons (pg_name (i := 2) sc.nd rfl (Or.inl rfl)) (pgs_cons (pg_name (i := 3) sc.nd rfl (Or.inl rfl)) pgs_nil))))
    (pss_one (ps_ret (pe_tup (pa_cons (pe_m (c_name_of T) T.c_Ties T.m_Ties_name_of hr (pv 0) (pa_cons (pe_gi T.i_SMALL) (pa_cons (pv 2) pa_nil))) (pa_cons (pe_m (c_name_of T) T.c_Ties T.m_Ties_name_of hr (pv 0) (pa_cons (pe_gi T.i_GREAT) (pa_cons (pv 3) pa_nil))) pa_nil))))), ?_⟩
  have o1 := ok.rows.s0
  have o2 := ok.rows.sg
  refine ⟨_, rfl, _, _, _, rfl, ht.ob, lk_Ties_m_place_at, _, rfl, p, dx, pr, pe, b, El, t, rfl, ht, ok, fun a na => ?_⟩
  have s1 : Same H (upd H a (.tup [.int ((t - b.begin_) % b.rows.small), .int ((t - b.begin_) % b.rows.great)])) := Same.new na
  refine ⟨a, _, rfl, SqT.of upd_same, rfl, _, _, rfl, _, _, rfl, rfl, ?_⟩
  have ht1 := ht.same s1
  refine ⟨_, rfl, _, _, _, rfl, ht1.ob, lk_Ties_m_name_of, _, rfl, p, dx, pr, pe, b, El, 0, _, _, rfl, ht1, ok, .inl ⟨rfl, rfl⟩, fun a1 H2 s2 _ n1 => ?_⟩
  have ht2 := ht1.same s2
  refine ⟨_, rfl, _, _, _, rfl, ht2.ob, lk_Ties_m_name_of, _, rfl, p, dx, pr, pe, b, El, 1, _, _, rfl, ht2, ok, .inr ⟨rfl, Int.emod_nonneg _ (by omega), rfl⟩, fun a2 H3 s3 _ n2 => ?_⟩
  refine ⟨(by show 2 ≤ sizeLine; decide), fun a3 na3 => ?_⟩
  have s4 : Same H3 (upd H3 a3 (.tup [.ref a1, .ref a2])) := Same.new na3
  refine h a3 a1 a2 _ (((s1.trans s2).trans s3).trans s4) upd_same (s4 _ _ (s3 _ _ n1)) ?_
  rw [rowG_name]
  exact s4 _ _ n2
def spHead (K : PySem.W.Frag) : Sp := fun vs H Q _ => ∃ (p dx pr pe a : Addr) (b : BookD) (E : ElderA) (n : Int), vs = [.ref p, .ref a] ∧ TiesAt K H p dx pr pe b E ∧ GoodE (eldL E) ∧ NameAt H a n ∧
  ∀ a', NameAt H a' (headOf (eldL E) n) → Q (.ref a') H
theorem c_head (T : Env K mg) : Cal P w K mg base 1 (He.fAd K D_Ties_head.at_) ["self", "name"] (spHead K) := by
  obtain ⟨fd, F⟩ := T.d_Ties_head
  have sc : FnScope ["self", "name"] ["self", "name"] (defScope S_Ties_head) := ⟨rfl, rfl, rfl, by decide +kernel, rfl, by decide +kernel, by decide +kernel⟩
  refine mkCal F sc (fun _ _ _ _ _ _ us hl => match us, hl with | [_, _], _ => rfl) (fun vs H Q E h => by obtain ⟨a, b, c, d, e, f, g, i, rfl, _⟩ := h; rfl) (fun cdv A outer s H vs Q E hr h => ?_)
  obtain ⟨p, dx, pr, pe, a, b, El, n, rfl, ht, hg, hn, h⟩ := h
  have hu := hu_of hr
  refine ⟨_, pss_cons (ps_while PassesOwn.never (pt_cmp (pc_din hu (pv 1) (pe_fld (pv 0) rfl)))
      (pss_one (ps_set (i := 1) sc.nd rfl (Or.inl rfl) (pe_dget hu (pe_fld (pv 0) rfl) (pv 1) (fun _ _ => rfl)))))
    (pss_one (ps_ret (pv 1))), ?_⟩
  have nm : ∀ {a : Addr} {m m' : Int}, NameAt H a m → NameAt H a m' → m = m' := fun {a m m'} x y => by
    unfold NameAt at x y
    rw [x] at y
    injection y with y
    injection y with y
    exact nameK_inj (kVs_inj y)
  refine while_byR (fun σ H' => H' = H ∧ ∃ (a : Addr) (m : Int), σ = [some (.ref p), some (.ref a)] ∧ NameAt H a m ∧ headOf (eldL El) m = headOf (eldL El) n)
    (fun σ H' bb H2 => H2 = H' ∧ ∃ (a : Addr) (m : Int), σ[1]? = some (some (.ref a)) ∧ NameAt H a m ∧ bb = (valV (elderKvs El) (nameK m)).isSome)
    (fun σ _ => match σ with | [_, some (.ref a)] => (match H a with | some (.tup [.int 0, .int m]) => El.length + 1 - Bm.posE (eldL El) m | some (.tup [.int 1, .int m]) => El.length + 1 - Bm.posE (eldL El) (-1 - m) | _ => 0) | _ => 0)
    ⟨rfl, a, n, rfl, hn, rfl⟩ ?_ ?_ ?_
  · rintro σ H' R ⟨rfl, a, m, rfl, hm, he⟩ q
    refine ⟨_, rfl, _, rfl, _, _, _, _, _, rfl, ht.ob, T.c_Ties, T.n_Ties_elder, lk_Ties_elder, pe, _, rfl, DGet.t (k := nameK m) ht.el.dt hm, _, rfl, q _ _ ⟨rfl, a, m, rfl, hm, rfl⟩⟩
  · rintro σ H' H2 ⟨rfl, a, m, rfl, hm, he⟩ ⟨rfl, a', m', e1, hm', e2⟩
    injection e1 with e1
    injection e1 with e1
    injection e1 with e1
    subst e1
    have em := nm hm hm'
    subst em
    cases hv : valV (elderKvs El) (nameK m) with
    | none => rw [hv] at e2; cases e2
    | some v =>
      obtain ⟨x, hx, hx1, rfl⟩ := valE_some hv
      have hmem : (m, x.2.1) ∈ eldL El := List.mem_map.mpr ⟨x, hx, by rw [← hx1]⟩
      obtain ⟨u1, u2, u3⟩ := Bm.up_step hg hmem
      have hxn := ht.el.nm x hx
      refine ⟨_, rfl, _, _, _, _, _, rfl, ht.ob, T.c_Ties, T.n_Ties_elder, lk_Ties_elder, _, rfl, pe, .ref x.2.2, rfl, ?_, ?_⟩
      · have z := DGet.t (k := nameK m) ht.el.dt hm
        rw [hv] at z
        exact z
      · refine ⟨⟨rfl, x.2.2, x.2.1, rfl, hxn, by rw [u1, he]⟩, ?_⟩
        have mu : ∀ {a : Addr} {k : Int}, NameAt H2 a k → (match H2 a with | some (.tup [.int 0, .int m]) => El.length + 1 - Bm.posE (eldL El) m | some (.tup [.int 1, .int m]) => El.length + 1 - Bm.posE (eldL El) (-1 - m) | _ => 0) = El.length + 1 - Bm.posE (eldL El) k := by
          intro a k hk
          unfold NameAt nameK at hk
          split at hk
          · rw [hk]
            rfl
          · rw [hk]
            show El.length + 1 - Bm.posE (eldL El) (-1 - (-1 - k)) = _
            have : -1 - (-1 - k) = k := by omega
            rw [this]
        show (match H2 x.2.2 with | some (.tup [.int 0, .int m]) => _ | some (.tup [.int 1, .int m]) => _ | _ => 0) < (match H2 a with | some (.tup [.int 0, .int m]) => _ | some (.tup [.int 1, .int m]) => _ | _ => 0)
        rw [mu hxn, mu hm]
        have h1 := Bm.posE_le (eldL El) x.2.1
        have h2 : (eldL El).length = El.length := by simp [eldL]
        omega
  · rintro σ H' H2 ⟨rfl, a, m, rfl, hm, he⟩ ⟨rfl, a', m', e1, hm', e2⟩
    injection e1 with e1
    injection e1 with e1
    injection e1 with e1
    subst e1
    have em := nm hm hm'
    subst em
    refine ⟨_, rfl, h a ?_⟩
    have hno : m ∉ eks (eldL El) := valE_none.mp (by
      cases hv : valV (elderKvs El) (nameK m) with
      | none => rfl
      | some v => rw [hv] at e2; cases e2)
    rw [← he, Bm.headOf_self hg hno]
    exact hm
end
end Bt
namespace Bt
open PySem PySem.Spec PyProof.Rows L2
open Bm (endOf headOf GoodE Eld eks tieE tiesE rowS rowG)
/-! ### != of two names -/
theorem name_dp {K : PySem.W.Frag} {H : Hp} {a : Addr} {n : Int} (h : NameAt H a n) : ∃ i j : Int, nameK n = [.inl i, .inl j] ∧ Dp K H (.ref a) (.tuple [.int i, .int j]) := by
  unfold NameAt at h
  unfold nameK at h ⊢
  split at h
  · rename_i c
    rw [if_pos c]
    exact ⟨0, n, rfl, .tup (SqT.of h) (.cons (.int _) (.cons (.int _) .nil))⟩
  · rename_i c
    rw [if_neg c]
    exact ⟨1, -1 - n, rfl, .tup (SqT.of h) (.cons (.int _) (.cons (.int _) .nil))⟩
theorem name_eqv {n m i j i' j' : Int} (h1 : nameK n = [.inl i, .inl j]) (h2 : nameK m = [.inl i', .inl j']) : PyData.eqv (.tuple [.int i, .int j]) (.tuple [.int i', .int j']) = decide (n = m) := by
  have e : PyData.eqv (.tuple [.int i, .int j]) (.tuple [.int i', .int j']) = ((i == i') && (j == j')) := by
    simp [PyData.eqv, PyData.eqvAll]
  rw [e]
  by_cases c : n = m
  · subst c
    rw [h1] at h2
    simp at h2
    obtain ⟨rfl, rfl⟩ := h2
    simp
  · rw [decide_eq_false c]
    cases hq : ((i == i') && (j == j')) with
    | false => rfl
    | true =>
      simp at hq
      obtain ⟨rfl, rfl⟩ := hq
      exact absurd (nameK_inj (h1.trans h2.symm)) c
theorem pair_shaped (i j : Int) : SeqAt.shaped (.tuple [.int i, .int j]) = true := by
  simp [SeqAt.shaped, PyData.canLay0, PyData.canLayAll0, PyData.depth, PyData.depthAll]
section
variable {P : Program} {w : World} {K : PySem.W.Frag} {mg : Str → Option Value} {base : Heap}
def spTie (K : PySem.W.Frag) : Sp := fun vs H Q _ => ∃ (p dx pr pe a1 a2 : Addr) (b : BookD) (E : ElderA) (u v : Int), vs = [.ref p, .ref a1, .ref a2] ∧ TiesAt K H p dx pr pe b E ∧ GoodE (eldL E) ∧ E.length ≤ 1000 ∧ NameAt H a1 u ∧ NameAt H a2 v ∧
  ∀ H' E', SameBut pe H H' → TupKeep H H' → TiesAt K H' p dx pr pe b E' → eldL E' = tieE (eldL E) u v → Q .non H'
theorem c_tie (T : Env K mg) : Cal P w K mg base 2 (He.fAd K D_Ties_tie.at_) ["self", "one", "other"] (spTie K) := by
  obtain ⟨fd, F⟩ := T.d_Ties_tie
  have sc : FnScope ["self", "one", "other", "first", "second"] ["self", "one", "other"] (defScope S_Ties_tie) := ⟨rfl, rfl, rfl, by decide +kernel, rfl, by decide +kernel, by decide +kernel⟩
  refine mkCal F sc (fun _ _ _ _ _ _ us hl => match us, hl with | [_, _, _], _ => rfl) (fun vs H Q E h => by obtain ⟨a, b, c, d, e, f, g, i, j, k, rfl, _⟩ := h; rfl) (fun cdv A outer s H vs Q E hr h => ?_)
  obtain ⟨p, dx, pr, pe, a1, a2, b, El, u, v, rfl, ht, hg, hl, n1, n2, h⟩ := h
  have hu := hu_of hr
  refine ⟨_, pss_cons (ps_par (i := 3) (j := 4) rfl sc.nd rfl rfl (by decide) rfl rfl (pa_cons (pe_m (c_head T) T.c_Ties T.m_Ties_head hr (pv 0) (pa_cons (pv 1) pa_nil)) (pa_cons (pe_m (c_head T) T.c_Ties T.m_Ties_head hr (pv 0) (pa_cons (pv 2) pa_nil)) pa_nil)) (by rfl))
    (pss_one (ps_if (pt_cmpR (op_neD hr.units) (pv 3) (pv 4) (nomark _)) (pss_one (ps_dput hu (pe_fld (pv 0) rfl) (pv 3) (pv 4) rfl)) pss_nil)), ?_⟩
  refine ⟨_, rfl, _, _, _, rfl, ht.ob, lk_Ties_m_head, _, rfl, p, dx, pr, pe, a1, b, El, u, rfl, ht, hg, n1, fun b1 m1 => ?_⟩
  refine ⟨_, rfl, _, _, _, rfl, ht.ob, lk_Ties_m_head, _, rfl, p, dx, pr, pe, a2, b, El, v, rfl, ht, hg, n2, fun b2 m2 => ?_⟩
  refine ⟨_, _, rfl, ?_⟩
  obtain ⟨i, j, k1, k2⟩ := name_dp (K := K) m1
  obtain ⟨i', j', k3, k4⟩ := name_dp (K := K) m2
  refine ⟨_, rfl, _, rfl, _, _, k2, k4, pair_shaped _ _, pair_shaped _ _, _, rfl, ?_⟩
  rw [name_eqv k1 k3]
  by_cases c : headOf (eldL El) u = headOf (eldL El) v
  · refine ite_ff (by rw [decide_eq_true c]; rfl) ?_
    refine h H El (SameBut.of (Same.refl H)) (fun _ _ e => e) ht ?_
    unfold Bm.tieE
    rw [if_pos c]
  · refine ite_tt (by rw [decide_eq_false c]; rfl) ?_
    refine ⟨_, rfl, _, rfl, _, _, _, _, _, rfl, ht.ob, T.c_Ties, T.n_Ties_elder, lk_Ties_elder, _, rfl, pe, _, rfl, DPut.t (k := nameK (headOf (eldL El) u)) ht.el.dt m1 ?_, ?_⟩
    · simp only [elderKvs, List.length_map]
      rw [size16]
      omega
    have hno := valE_none.mpr (Bm.headOf_not hg u)
    have kp : TupKeep H (upd H pe (.dT (putK (elderKvs El) (nameK (headOf (eldL El) u)) (.ref b2)))) := TupKeep.upd (fun _ _ e => e) (fun xs z => by rw [ht.el.dt] at z; cases z)
    obtain ⟨dxr, hrw⟩ := ht.rw_
    refine h _ (El ++ [(headOf (eldL El) u, headOf (eldL El) v, b2)]) (SameBut.upd (SameBut.of (Same.refl H))) kp ⟨?_, ⟨dxr, ?_⟩, ⟨?_, fun x hx => ?_⟩⟩ ?_
    · rw [upd_ne (ne_of ht.ob ht.el.dt (by intro z; cases z))]
      exact ht.ob
    · rw [upd_ne (ne_of hrw ht.el.dt (by intro z; cases z))]
      exact hrw
    · rw [upd_same, putK_new _ hno]
      simp [elderKvs]
    · rcases List.mem_append.mp hx with hx | hx
      · exact kp _ _ (ht.el.nm x hx)
      · rw [List.mem_singleton.mp hx]
        exact kp _ _ m2
    · unfold Bm.tieE
      rw [if_neg c]
      simp [eldL]
def spTiesInit (K : PySem.W.Frag) : Sp := fun vs H Q _ => ∃ (p dx b : Addr) (bk : BookD), vs = [.ref p, .ref b] ∧ H p = some (.ins (He.ga K "Ties") dx []) ∧ BookAt K H b bk ∧ BookOk bk ∧
  ∀ H' pr pe E, SameBut p H H' → TiesAt K H' p dx pr pe bk E → eldL E = tiesE bk.rows bk.rel → H pe = none → Q .non H'
theorem c_Ties_init (T : Env K mg) : Cal P w K mg base 8 (He.fAd K D_Ties_init.at_) ["self", "book"] (spTiesInit K) := by
  obtain ⟨fd, F⟩ := T.d_Ties_init
  have sc : FnScope ["self", "book", "beat", "small", "great"] ["self", "book"] (defScope S_Ties_init) := ⟨rfl, rfl, rfl, by decide +kernel, rfl, by decide +kernel, by decide +kernel⟩
  refine mkCal F sc (fun _ _ _ _ _ _ us hl => match us, hl with | [_, _], _ => rfl) (fun vs H Q E h => by obtain ⟨a, b, c, d, rfl, _⟩ := h; rfl) (fun cdv A outer s H vs Q E hr h => ?_)
  obtain ⟨p, dx, b, bk, rfl, hp, hb, ok, h⟩ := h
  have hr2 : Room 2 _ := hr.mono (by decide)
  have hr3 : Room 3 _ := hr.mono (by decide)
  refine ⟨_, pss_cons (ps_fld (pv 0) (pe_mk (c_Rows_init T) T.k_Rows hr3 T.g_Rows (pa_cons (pv 1) pa_nil)) rfl)
    (pss_cons (ps_fld (pv 0) (pe_fld (pv 1) rfl) rfl)
    (pss_cons (ps_fld (pv 0) pe_dnewT rfl)
    (pss_one (ps_for PassesOwn.never rfl (pi_tup (pe_fld (pv 1) rfl)) (pg_name (i := 2) sc.nd rfl (Or.inl rfl))
      (pss_cons (ps_asg (pe_m (c_names_at T) T.c_Ties T.m_Ties_names_at hr (pv 0) (pa_cons (pv 2) pa_nil)) (pg_tup rfl (pgs_cons (pg_name (i := 3) sc.nd rfl (Or.inl rfl)) (pgs_cons (pg_name (i := 4) sc.nd rfl (Or.inl rfl)) pgs_nil))))
      (pss_one (ps_expr (pe_m (c_tie T) T.c_Ties T.m_Ties_tie hr2 (pv 0) (pa_cons (pv 3) (pa_cons (pv 4) pa_nil)))))))))), ?_⟩
  obtain ⟨dxk, pb, dxb, ps, h1, h2, h3⟩ := id hb
  have n1 : b ≠ p := ne_of h1 hp (by
    intro z
    injection z with _ _ z
    exact nf lk_Book_begin z)
  have n3 : ps ≠ p := ne_of h3 hp (by intro z; cases z)
  refine ⟨_, rfl, fun x dxr nx ndx nxx => ?_⟩
  have s0 : Same H (upd (upd H dxr (.own x)) x (.ins (He.ga K "Rows") dxr [])) := Same.upd1 (Same.upd1 (Same.refl H) ndx) (by rw [upd_ne (Ne.symm nxx)]; exact nx)
  refine ⟨x, dxr, b, bk, rfl, upd_same, hb.same s0, ok, fun H1 sb hx => ⟨rfl, ?_⟩⟩
  have s1 : Same H H1 := fun c o e => sb c o (s0 c o e) (ne_of_none e nx)
  have px : p ≠ x := ne_of_none hp nx
  refine ⟨_, rfl, p, _, dx, _, rfl, s1 _ _ hp, T.c_Ties, T.n_Ties_rows, (few len0 (by decide)), ?_⟩
  refine ⟨_, rfl, _, _, _, _, _, rfl, (by rw [upd_ne n1]; exact s1 _ _ h1), T.c_Book, T.n_Book_begin, lk_Book_begin, _, rfl, p, _, dx, _, rfl, upd_same, T.c_Ties, T.n_Ties_begin, (few (lenF len0) (by decide)), ?_⟩
  simp only [upd_upd]
  intro pe npe
  have ppe : p ≠ pe := ne_of_none upd_same npe
  have npeH : H pe = none := by
    cases e : H pe with
    | none => rfl
    | some o =>
      rw [upd_ne (Ne.symm ppe), s1 _ _ e] at npe
      cases npe
  refine ⟨_, rfl, p, _, dx, _, rfl, (by rw [upd_ne ppe]; exact upd_same), T.c_Ties, T.n_Ties_elder, (few (lenF (lenF len0)) (by decide)), ?_⟩
  generalize hH2 : upd (upd (upd H1 p _) pe _) p _ = H2
  have k5 : SameBut p H H2 := by
    rw [← hH2]
    refine SameBut.upd (fun c o e hc => ?_)
    rw [upd_ne (ne_of_none e npeH), upd_ne hc]
    exact s1 _ _ e
  have k1 : H2 b = some (.ins (He.ga K "Book") dxk (F_Book pb bk.begin_ bk.many ps)) := k5 _ _ h1 n1
  have k3 : H2 ps = some (.tup (bk.singles.map V.int)) := k5 _ _ h3 n3
  have xpe : x ≠ pe := fun z => by
    rw [← z, upd_ne (Ne.symm px), hx] at npe
    cases npe
  have t2 : TiesAt K H2 p dx x pe bk [] := by
    refine ⟨by rw [← hH2, upd_same]; rfl, ⟨dxr, ?_⟩, ⟨?_, fun x hx => (by cases hx)⟩⟩
    · rw [← hH2, upd_ne (Ne.symm px), upd_ne xpe, upd_ne (Ne.symm px)]
      exact hx
    · rw [← hH2, upd_ne (Ne.symm ppe), upd_same]
      rfl
  refine ⟨_, rfl, _, _, _, _, _, rfl, k1, T.c_Book, T.n_Book_singles, lk_Book_singles, ps, rfl, ⟨_, SqT.of k3⟩, for_tup (K := K) (a := ps) (xs := bk.singles.map V.int) (fun i σ H' => ∃ (v2 v3 v4 : Option V) (El : ElderA), σ = [some (.ref p), some (.ref b), v2, v3, v4] ∧ SameBut p H H' ∧ TiesAt K H' p dx x pe bk El ∧ eldL El = tiesE bk.rows (bk.rel.take i))
    ⟨none, none, none, [], rfl, k5, t2, rfl⟩ (fun i σ H' _ ⟨_, _, _, _, _, sb, _⟩ => SqT.of (sb _ _ h3 n3)) ?_ ?_⟩
  · rintro i y σ H' hy ⟨v2, v3, v4, El, rfl, sb, ht, he⟩
    obtain ⟨t, ht', rfl⟩ := int_at hy
    refine ⟨_, rfl, _, _, _, rfl, ht.ob, lk_Ties_m_names_at, _, rfl, p, dx, x, pe, bk, El, t, rfl, ht, ok, fun a a1 a2 H3 s3 ha n1' n2' => ?_⟩
    have ht3 := ht.same s3
    refine ⟨a, _, rfl, SqT.of ha, rfl, _, _, rfl, _, _, rfl, rfl, ?_⟩
    have hg : GoodE (eldL El) := by
      rw [he]
      exact Bm.tiesE_good _ _
    have hlen : El.length ≤ 1000 := by
      have e1 : (eldL El).length = El.length := by simp [eldL]
      rw [← e1, he]
      have := Bm.tiesE_len bk.rows (bk.rel.take i)
      have h5 := List.length_take_le' i bk.rel
      have h6 := ok.sl
      have h7 : bk.rel.length = bk.singles.length := by simp [BookD.rel]
      omega
    refine ⟨_, rfl, _, _, _, rfl, ht3.ob, lk_Ties_m_tie, _, rfl, _, rfl, p, dx, x, pe, a1, a2, bk, El, _, _, rfl, ht3, hg, hlen, n1', n2', fun H4 E4 sb4 _ t4 e4 => ?_⟩
    refine ⟨_, _, _, E4, rfl, fun c o e hc => sb4 _ _ (s3 _ _ (sb c o e hc)) (ne_of_none e npeH), t4, ?_⟩
    have hrel : bk.rel[i]? = some (t - bk.begin_) := by
      simp only [BookD.rel]
      rw [List.getElem?_map, ht']
      rfl
    have et : bk.rel.take (i + 1) = bk.rel.take i ++ [t - bk.begin_] := by rw [List.take_add_one, hrel]; rfl
    rw [e4, he, et, Bm.tiesE_snoc]
  · rintro σ H' ⟨v2, v3, v4, El, rfl, sb, ht, he⟩
    rw [List.length_map] at he
    have e2 : bk.rel.take bk.singles.length = bk.rel := List.take_of_length_le (by simp [BookD.rel])
    rw [e2] at he
    exact h H' x pe El sb ht he npeH
end
end Bt
/-! ### set(l) of a list of ints, its members in a set that can be sorted -/
namespace Bt
open PySem PySem.Spec PyProof.Rows L2
abbrev bareSet (w : World) : Obj := { cls := .type "set", dict := none, data := .set #[] 0 (.fresh 0 0 (!w.params.followText "set-order")) }
section
variable {P : Program} {w : World} {A : Around} {E : Value → Shared → Prop} {s : Shared}
theorem ints_at {its : Array Value} {ns : List Int} (hi : IntsAre its.toList ns) (i : Nat) (v : Value) (hv : its[i]? = some v) : ∃ k t, ns[i]? = some k ∧ v = .int k t := by
  have hl := IntsAre.length hi
  rw [Array.length_toList] at hl
  have hb := (Array.getElem?_eq_some_iff.mp hv).1
  have hb2 : i < ns.length := by omega
  obtain ⟨t, e⟩ := IntsAre.int_at hi i v (by rw [Array.getElem?_toList]; exact hv)
  refine ⟨ns[i], t, List.getElem?_eq_getElem hb2, ?_⟩
  rw [e, List.getD_eq_getElem?_getD, List.getElem?_eq_getElem hb2] <;> rfl
set_option maxHeartbeats 6400000 in
theorem setOfList {l : Addr} {its : Array Value} (ns : List Int) {Q : Value → Shared → Prop} (ah : A.handled = none) (ls : s.heap.IsList l its) (iv : IntsAre its.toList ns) (few : ns.length + 1 < scanBound)
    (k : ∀ (g : Heap) (tk c : Nat), SetR w g s.heap.objs.size (fun j => decide (j ∈ ns)) c → c ≤ ns.length → (∀ b o, s.heap.get? b = some o → g.get? b = some o) → Q (.ref s.heap.objs.size) { s with heap := g, toks := tk }) :
    wpAny (model P w) A (call (.type "set") [.ref l]) Q E s := by
  have sz : its.size = ns.length := by
    have q := IntsAre.length iv
    rw [Array.length_toList] at q
    exact q
  obtain ⟨mc, mt, mm⟩ := F.called_set.mro
  have m1 := F.called_set.made
  have m2 := F.called_set.sub
  have m3 := F.called_set.notType
  have m4 := F.called_set.canCreate
  have m5 := F.typeCall_set_1 (.ref l)
  apply wpAny_call
  apply codeAny_of_tree
  show wpAny _ _ (callAny (.type "set") ⟨[.ref l], []⟩) _ _ _
  apply wpAny_pure
  refine And.intro (Code.quiet_builtin _ (by decide +kernel)) (codeAny_builtin F.entry_type_call ?_)
  rw [Around.under_plain (weight_type_call_type "set" [.ref l] []) rfl]
  repeat (any_goals (first | assumption | wp_step))
  refine codeAny_mono (code_set_led1 (.ref l) (E := E) (Q₁ := fun ob t => ob = .ref s.heap.objs.size ∧ t = { s with heap := s.heap.push (bareSet w) }) (And.intro rfl rfl)) fun r t hr => ?_
  cases r with
  | error e => exact hr
  | ok fl =>
    cases fl with
    | ret ob =>
      obtain ⟨rfl, rfl⟩ := hr
      have g0 : (s.heap.push (bareSet w)).get? s.heap.objs.size = some (bareSet w) := Heap.get?_push_size _ rfl
      have ty : Shared.TypeIs { s with heap := s.heap.push (bareSet w) } (.ref s.heap.objs.size) "set" := ⟨_, g0, rfl⟩
      have i1 := F.called_set.init.lookup
      have i2 := F.called_set.init.bind (.ref s.heap.objs.size)
      repeat (any_goals (first | assumption | wp_step))
      refine codeAny_mono (codeAny_call_builtin (R := wants (fun r t => r = .none ∧ ∃ g tk c, t = { s with heap := g, toks := tk } ∧ SetR w g s.heap.objs.size (fun j => decide (j ∈ ns)) c ∧ c ≤ ns.length ∧ (∀ b o, s.heap.get? b = some o → g.get? b = some o)) E)
        F.called_set.init.plain F.entry_set_init (check_set_init_1 ty ?_)) fun r t hr => ?_
      · obtain ⟨o, go, co, nn, dd⟩ := ls
        obtain ⟨ocls, odict, odata, oslots⟩ := o
        simp only at co dd
        subst co
        subst dd
        have gl : (s.heap.push (bareSet w)).get? l = some { cls := .type "list", dict := odict, data := .seq its nn, slots := oslots } := Heap.get?_push_of_some _ go
        have n1 := F.sub_list_set
        have n2 := F.sub_list_frozenset
        have n3 : (Value.type "list" == Value.type "dict") = false := by decide
        have lst : (s.heap.push (bareSet w)).IsList l its := ⟨_, gl, rfl, nn, rfl⟩
        unfold Builtin.«set.__init__» noKeywords Builtin.Frozenset.updateFrom
        generalize hPI : pyIter = PI
        wp_walk
        subst hPI
        refine wpAny_pyIter_list lst ?_
        apply wpAny_bind
        apply wpAny_runValue
        have lt : l < s.heap.objs.size := Heap.lt_size go
        have ah3 : A.in1.in1.in1.handled = none := by simp [ah]
        have ne1 : l ≠ (s.heap.push (bareSet w)).objs.size := by
          rw [Heap.size_push]
          exact Nat.ne_of_lt (Nat.lt_succ_of_lt lt)
        have ne2 : s.heap.objs.size ∉ [(s.heap.push (bareSet w)).objs.size, l] := by
          rw [Heap.size_push]
          simp only [List.mem_cons, List.not_mem_nil, or_false, not_or]
          exact And.intro (Nat.ne_of_lt (Nat.lt_succ_self _)) (Nat.ne_of_gt lt)
        refine set_update_ints ((Walks.list ah3 _ l ne1 its).toS) s.heap.objs.size ne2 ns sz few (ints_at iv) (its.size - 0) 0 _ (by omega) (Nat.zero_le _)
          ⟨⟨_, Heap.get?_push_size _ rfl, rfl, rfl⟩, (lst.push _)⟩ ?init ?done
        case init => exact ⟨0, Nat.le_refl 0, setR_new_at (Heap.get?_push_of_some _ g0)⟩
        case done =>
          intro t c mv hc hS
          obtain ⟨g, gs, dr, tk, os⟩ := t
          have e1 : gs = s.gens := mv.gens
          have e2 : dr = s.drawn := mv.drawn
          have e3 : os = s.os := mv.os
          subst e1 e2 e3
          show wpAny _ _ _ _ _ _
          apply wpAny_pure
          show wpAny _ _ (ret Value.none) _ _ _
          rw [sz] at hc
          refine wpAny_pure ⟨rfl, g, tk, c, rfl, hS, hc, fun b o e => ?_⟩
          have hb := Heap.lt_size e
          refine mv.heap b o ?_ (Heap.get?_push_of_some _ (Heap.get?_push_of_some _ e))
          rw [Heap.size_push]
          simp only [List.mem_cons, List.not_mem_nil, or_false, not_or]
          exact And.intro (Nat.ne_of_lt hb) (Nat.ne_of_lt (Nat.lt_succ_of_lt hb))
      · cases r with
        | error e => exact hr
        | ok fl =>
          cases fl with
          | ret r =>
            obtain ⟨rfl, g, tk, c, rfl, hS, hc, hk⟩ := hr
            repeat (any_goals (first | assumption | wp_step))
            exact k _ _ _ hS hc hk
          | _ => exact hr.elim
    | _ => exact hr.elim
end
/-- set(l) -/
def rSetL (K : PySem.W.Frag) (w : World) : List V → Hp → VK → Prop := fun vs H Q => ∃ (l : Addr) (ns : List Int), vs = [V.ref l] ∧ SqL K H l (ns.map V.int) ∧ ns.length ≤ 4000 ∧
  ∀ p c, H p = none → c ≤ ns.length → Q (.ref p) (upd H p (SetO w p (fun j => decide (j ∈ ns)) c))
theorem cr_setL {X : Cx} (hc : X.calm = true) : CallR X (.type "set") (rSetL X.K X.w) := by
  intro pins s σ H vs us Q I r h
  obtain ⟨l, ns, rfl, hq, hl, q⟩ := h
  rw [Vals.ref1 r]
  obtain ⟨its, r, pl, hz⟩ := I.list hq
  refine setOfList ns (I.ok.hd hc) pl.isList (by simpa using ints_vals r) (by unfold scanBound; omega) fun g tk c hS hcl hk => ?_
  exact ⟨.ref _, _, I.laid (fun b u e => hk b u e) (Nat.le_refl _) (setO_new hS), rfl, q _ c (I.hok.fresh (Nat.le_refl _)) hcl⟩
end Bt
namespace Bt
open PySem PySem.Spec PyProof.Rows L2
/-! ### a dict comprehension whose keys are tuples; a dict locked behind an expression -/
/-- the value, a dict or list that we own, locked from here on -/
def tLockV (t : TE) : TE := fun σ H Q => t σ H fun x H1 => ∃ d u, x = .ref d ∧ H1 d = some u ∧ Mut (some u) ∧ ∀ od, Q x (upd H1 d (.frz od u))
theorem pe_lockV {X : Cx} {e : Expr} {t : TE} (h : PE X e t) : PE X e (tLockV t) := ⟨fun pins s σ H Q I hw => thn (h.run pins s σ H _ I hw) fun v s1 z => by
  obtain ⟨x, H1, I1, rx, d, u, ex, hd, mu, q⟩ := z
  obtain ⟨od, I2⟩ := I1.lock hd mu
  exact ⟨x, _, I2, rx, q od⟩⟩
section
variable {X : Cx} {pins : List (Addr × Obj)} {σ : L2.St} {H : Hp} {s : Shared}
theorem put_T {E : Value → Shared → Prop} {D b : Addr} {kvs : List (List Key × V)} {k : List Key} {v : V} {u r : Value} {Q : Unit → Shared → Prop} (room : X.A.units < cLine) (I : Inv X pins σ H s) (at_ : H D = some (.dT kvs)) (kb : H b = some (.tup (k.map kV)))
    (few : kvs.length < sizeLine) (ru : RelV (.ref b) u) (rr : RelV v r) (next : ∀ s', Inv X pins σ (upd H D (.dT (putK kvs k v))) s' → Q () s') : wpAny (model X.prog X.w) X.A (dictSet D u r) Q E s := by
  cases (show u = Value.ref b from ru)
  obtain ⟨l0, sysne, xs, paired, dict⟩ := dt_of I.hok at_
  have l1 : xs.length ≤ sizeLine := Paired.length paired ▸ l0
  have l2 : (putK kvs k v).length ≤ sizeLine := Nat.le_trans (length_putK kvs k v) few
  refine wpAny_dictSet_heap (hsz := l1) (show (tupleKind (mixKind X.prog X.w)).room X.A from room) (key_of I.hok kb) dict fun hp dict' but => next _ ?_
  obtain ⟨ob, es, ep, g1, g2, g3, g4, _, g5⟩ := dict'
  refine d_write I (at_ ▸ True.intro) but ⟨ob, g1⟩ ⟨l2, sysne, _, (paired.put k kb rr).keeps fun c ys ec => ?_, ob, es, ep, g1, g2, g3, g4, g5⟩
  have ne : c ≠ D := ne_of ec at_ (fun z => nomatch z)
  exact (upd_ne ne).trans ec
end
section
variable {X : Cx}
/-- {k: v for target in iter}, the keys tuples: D the new dict -/
def tDcT (wi : TI) (g : TG) (tk tv : TE) (vs : List Nat) : TE := fun σ H Q => wi σ H fun J H1 => ∀ D, H1 D = none → ∃ W : Nat → Nat → Hp → Prop, (∃ m, W 0 m (upd H1 D (.dT []))) ∧ ∀ i m H', W i m H' →
  (J.stop i H' ∧ Q (.ref D) H') ∨ (J.go i H' ∧ ∃ N : Hp → Prop, (∀ G, N G → ∃ m', m' < m ∧ W (i + 1) m' G) ∧ ∀ x G, J.yld i H' x G → g x (wipe σ vs) G fun σ2 G2 => wipe σ2 vs = wipe σ vs ∧
    tk σ2 G2 fun y G3 => tv σ2 G3 fun z G4 => ∃ kvs k b, y = .ref b ∧ G4 b = some (.tup (k.map kV)) ∧ G4 D = some (.dT kvs) ∧ kvs.length < sizeLine ∧ N (upd G4 D (.dT (putK kvs k z))))
theorem pe_dcT {kx vx tg iter : Expr} {scope : Scope} {own : List (Str × Nat)} {pos : Pos} {wi : TI} {g : TG} {tk tv : TE} (calm : X.calm = true) (room : X.A.units < cLine) (nd : X.N.Nodup) (walk : PI X tg iter wi) (bok : BlkOk X.N X.env.scope scope own)
    (hg : ∀ (s : Shared) (H : Hp) (C : Addr) (cl : List (Str × Addr)) (fp : List Addr), PG (X.blk s H scope (compEnvC scope cl C X.env) fp) tg g)
    (hk : ∀ (s : Shared) (H : Hp) (C : Addr) (cl : List (Str × Addr)) (fp : List Addr), PE (X.blk s H scope (compEnvC scope cl C X.env) fp) kx tk)
    (hv : ∀ (s : Shared) (H : Hp) (C : Addr) (cl : List (Str × Addr)) (fp : List Addr), PE (X.blk s H scope (compEnvC scope cl C X.env) fp) vx tv) (hs : ∀ x, foldedSetIterable iter X.env x = pure x := by intro _; rfl) :
    PE X (.DictComp kx vx [⟨tg, iter, [], 0⟩] scope pos) (tDcT wi g tk tv (own.map (·.2))) := by
  refine ⟨fun pins s σ H Q I read => ?_⟩
  rw [arm_eval_DictComp]
  have caught : ∀ y ∈ scope.names, y.2 = .free → ∃ c, X.env.cells.lookup y.1 = some c := fun y hy e => (bok.free y hy e).elim (fun k => I.ok.has _ (.inl k)) fun k => I.ok.has _ (.inr k)
  refine wpAny_comprehension_free (use := none) rfl hs (closure_ok caught) bok.kind (fun y hy e => by rw [bok.uniq y hy, e]) (thn (walk.run pins s σ H _ I read) fun xv s1 hx => thn hx fun itv sa ha => ?_)
  obtain ⟨it, fp, tn, J, Ha, ei, Ia, T, sta, fa, turns⟩ := ha
  subst ei
  refine wpAny_newObj_type (newEnv_comp ?_)
  -- the new dict, then the block's frame
  obtain ⟨D, hD⟩ : ∃ D, sa.heap.objs.size = D := ⟨_, rfl⟩
  rw [hD]
  have freeD : Ha D = none := Ia.hok.fresh (Nat.le_of_eq hD)
  obtain ⟨W, ⟨m0, w0⟩, turn⟩ := turns D freeD
  obtain ⟨sb, hsb⟩ : ∃ sb : Shared, sb = { sa with heap := sa.heap.push { cls := .type "dict", data := .dict #[] } } := ⟨_, rfl⟩
  have pb : sb.heap = sa.heap.push { cls := .type "dict", data := .dict #[] } := congrArg Shared.heap hsb
  have keepb : ∀ b o, sa.heap.get? b = some o → sb.heap.get? b = some o := fun b o e => pb ▸ Heap.get?_push_of_some _ e
  have Ib : Inv X pins σ (upd Ha D (.dT [])) sb := by
    subst hsb
    exact Ia.laid (t' := sa.toks) (fun b o e => Heap.get?_push_of_some _ e) (Nat.le_of_eq hD) (hD ▸ dt_empty sa.heap Ia.big)
  have fsz : ∀ b ∈ fp, b < sa.heap.objs.size := fun b hb => (T.obj _ _ sta b hb).elim fun _ z => Heap.lt_size z.1
  have fb : ∀ b ∈ fp, FpOk X pins (upd Ha D (.dT [])) b ∧ b < sb.heap.objs.size := fun b hb => by
    have lt := fsz b hb
    have ne : b ≠ D := hD ▸ Nat.ne_of_lt lt
    exact ⟨⟨(upd_ne ne).trans (fa b hb).1, (fa b hb).2⟩, by rw [pb, Heap.size_push]; exact Nat.lt_succ_of_lt lt⟩
  have stb : tn 0 sb.heap := T.keep _ _ _ sta fun b _ o e => keepb b o e
  have Ic := block_start Ib bok nd fb
  obtain ⟨ce, hce⟩ : ∃ ce, compEnvC scope (cellsFrom (sb.heap.objs.size + 1) scope.names (cloFrom X.env.cells scope.names [])) sb.heap.objs.size X.env = ce := ⟨_, rfl⟩
  have rg := hg sb (upd Ha D (.dT [])) sb.heap.objs.size (cellsFrom (sb.heap.objs.size + 1) scope.names (cloFrom X.env.cells scope.names [])) fp
  have rk := hk sb (upd Ha D (.dT [])) sb.heap.objs.size (cellsFrom (sb.heap.objs.size + 1) scope.names (cloFrom X.env.cells scope.names [])) fp
  have rv := hv sb (upd Ha D (.dT [])) sb.heap.objs.size (cellsFrom (sb.heap.objs.size + 1) scope.names (cloFrom X.env.cells scope.names [])) fp
  rw [← hsb]
  show codeAny _ _ (.compStart (.DictComp kx vx [⟨tg, iter, [], 0⟩] scope pos) 0 (.ref it) (.ref D) (compEnvC scope (cellsFrom (sb.heap.objs.size + 1) scope.names (cloFrom X.env.cells scope.names [])) sb.heap.objs.size X.env)) (compPost (model X.prog X.w) X.A X.xe none _ (.ref D) sb.heap.objs.size) { sb with heap := pushCells (sb.heap.push { cls := .type "dict", data := .dict #[] }) scope.names }
  have none_fp : ∀ b ∈ fp, (upd Ha D (.dT [])) b = none := fun b hb => (fb b hb).1.1
  rw [hce] at Ic rg rk rv ⊢
  have eloc : ce.locals = sb.heap.objs.size := hce ▸ rfl
  generalize upd Ha D (.dT []) = Hb at Ib Ic rg rk rv w0 none_fp fb
  obtain ⟨sc, hsc⟩ : ∃ sc : Shared, sc = { sb with heap := pushCells (sb.heap.push { cls := .type "dict", data := .dict #[] }) scope.names } := ⟨_, rfl⟩
  rw [← hsc] at Ic ⊢
  have stc : tn 0 sc.heap := T.keep _ _ _ stb fun b _ o e => hsc ▸ pushCells_keeps _ _ _ _ (Heap.get?_push_of_some _ e)
  have frame : ∀ {σ' : L2.St} {H' : Hp} {s' : Shared}, Inv (X.blk sb Hb scope ce fp) [] σ' H' s' → (∀ b ∈ fp, H' b = none) → ∀ b ∈ fp, FpOk (X.blk sb Hb scope ce fp) [] H' b := fun {_ _ _} I' nn b hb =>
    ⟨nn b hb, (I'.ok.exf b hb).1, I'.ok.exfs b hb, Or.inl hb, fun x c e => (I'.ok.exf b hb).2 x c e, fun p hp => absurd (show p ∈ ([] : List (Addr × Obj)) ++ [] from hp) (by simp)⟩
  have loop : codeAny (model X.prog X.w) X.A (.compLoop (.DictComp kx vx [⟨tg, iter, [], 0⟩] scope pos) 0 (.ref it) (.ref D) ce) (compPost (model X.prog X.w) X.A X.xe none (fun v s' => ∃ x H', Inv X pins σ H' s' ∧ RelV x v ∧ Q x H') (.ref D) sb.heap.objs.size) sc := by
    refine compLoop_anyD (fun n s' => ∃ i H', Inv (X.blk sb Hb scope ce fp) [] (wipe σ (own.map (·.2))) H' s' ∧ tn i s'.heap ∧ (∀ b ∈ fp, H' b = none) ∧ W i n H') ?_ m0 ⟨0, Hb, Ic, stc, none_fp, w0⟩
    rintro n sd ⟨i, Hd, Id, std, nd', wd⟩
    rcases turn i n Hd wd with ⟨stop, fin⟩ | ⟨go, N, hN, step⟩
    · refine thnF (T.done (X.blk sb Hb scope ce fp) rfl rfl rfl calm i [] sd _ Hd (fun _ _ => False) Id (frame Id nd') std stop) fun res se ⟨hr, Ie⟩ => ?_
      subst hr
      have If : Inv X pins σ Hd se := Ib.call' (ch := fp) Ie.os Ie.base Ie.hok Ie.bare fun b hb => ⟨(fb b hb).1.2.2.2.1, (fb b hb).1.2.1, (fb b hb).1.2.2.2.2.1, (fb b hb).1.2.2.2.2.2⟩
      have freeC : Hd sb.heap.objs.size = none := eloc ▸ (show Hd ce.locals = none from Ie.free)
      obtain ⟨m, ns, _⟩ := Ie.loc
      have ns : se.heap.Ns sb.heap.objs.size m := eloc ▸ (show se.heap.Ns ce.locals m from ns)
      obtain ⟨f0, f1, f2, f3, f4, f5⟩ := Ib.fpOk (Nat.le_refl _) freeC
      exact ⟨m, ns, fun hq sbt => ⟨.ref D, Hd, If.turned (t' := se.toks) (fun b o hb e => (sbt.2 b hb).trans e) f0 f1 f3 f4 f5, rfl, fin⟩⟩
    · refine thnF (T.item (X.blk sb Hb scope ce fp) rfl rfl rfl calm i [] sd _ Hd (fun _ _ => False) Id (frame Id nd') std go) fun res se ⟨u, hr, he⟩ => ?_
      subst hr
      refine thnF he fun _ sf ⟨x, Hf, If, rx, yx, stf, nf⟩ => ?_
      refine thnF (rg.run _ sf _ Hf x u _ (If.pinned (frame If nf) (T.obj _ _ stf)) rx (step x Hf yx)) fun _ sg ⟨σg, Hg, Ig, wg, qg⟩ => ?_
      simp only [List.forIn_nil]
      refine wpAny_pure ?_
      simp only [if_true]
      refine thnF (rk.run _ sg σg Hg _ Ig qg) fun kv sh ⟨yk, Hh, Ih, rkv, qh⟩ => ?_
      refine thnF (rv.run _ sh σg Hh _ Ih qh) fun vv si ⟨yv, Hi, Ii, rvv, kvs, k, b, ek, eb, eD, lt, nx⟩ => ?_
      subst ek
      refine put_T (X := X.blk sb Hb scope ce fp) room Ii eD eb lt rkv rvv fun sj Ij => ?_
      obtain ⟨m', lm, w'⟩ := hN _ nx
      have pin' : ∀ b ∈ fp, ∀ o, sf.heap.get? b = some o → sj.heap.get? b = some o ∧ (upd Hi D (.dT (putK kvs k yv))) b = none := fun b hb o e =>
        have z := Ij.pin (b, o) (List.mem_append_right _ (List.mem_append_right _ (mem_pinsAt hb e)))
        ⟨z.1, z.2.1⟩
      have hl : (wipe σ (own.map (·.2))).length = σg.length := by rw [← wg, wipe_length]
      refine ⟨m', lm, i + 1, _, (Ij.unpinned (pins := [])).weak hl (fun j v e => ?_), T.keep _ _ _ stf fun b hb o e => (pin' b hb o e).1, fun b hb => ?_, w'⟩
      · rw [← wg] at e
        exact (wipe_some e).1
      · obtain ⟨o, e, _⟩ := T.obj _ _ stf b hb
        exact (pin' b hb o e).2
  exact codeAny_compStart_dict loop (T.self X.A 0 _ _ _ stc loop)
end
end Bt
namespace Bt
open PySem PySem.Spec PyProof.Rows L2
open Bm (LeastOf GreatestOf wrapsF hangF)
section
variable {P : Program} {w : World} {K : PySem.W.Frag} {mg : Str → Option Value} {base : Heap}
def spWraps : Sp := fun vs H Q _ => ∃ b y m k : Int, vs = [.int b, .int y, .int m, .int k] ∧ (0 ≤ b ∧ b < 2 ^ 110) ∧ (0 ≤ y ∧ y < 2 ^ 110) ∧ (0 < m ∧ m < 2 ^ 110) ∧ (0 ≤ k ∧ k < 2 ^ 110) ∧ Q (.int (wrapsF b y m k)) H
theorem c_wraps (T : Env K mg) : Cal P w K mg base 1 (He.fAd K D_wraps.at_) ["begin", "by", "many", "steps"] spWraps := by
  obtain ⟨fd, F⟩ := T.d_wraps
  have sc : FnScope ["begin", "by", "many", "steps"] ["begin", "by", "many", "steps"] (defScope S_wraps) := ⟨rfl, rfl, rfl, by decide +kernel, rfl, by decide +kernel, by decide +kernel⟩
  refine mkCal F sc (fun _ _ _ _ _ _ us hl => match us, hl with | [_, _, _, _], _ => rfl) (fun vs H Q E h => by obtain ⟨a, b, c, d, rfl, _⟩ := h; rfl) (fun cdv A outer s H vs Q E hr h => ?_)
  obtain ⟨b, y, m, k, rfl, ⟨b0, b1⟩, ⟨y0, y1⟩, ⟨m0, m1⟩, ⟨k0, k1⟩, h⟩ := h
  refine ⟨_, pss_cons (ps_if (pt_cmpR op_eq (pv 3) pe_int (nomark _)) (pss_one (ps_ret pe_int)) pss_nil)
    (pss_one (ps_ret (pe_op op_add (pe_op op_fdivW (pe_op op_add (pv 0) (pe_op op_mulW (pv 1) (pe_op op_sub (pv 3) pe_int))) (pv 2))
      (pe_callTy call_int1 rfl T.b_int (by decide +kernel) (pa_cons (pe_cmpR op_lt (pv 0) (pv 1) (nomark _)) pa_nil))))), ?_⟩
  unfold wrapsF at h
  refine ⟨_, rfl, rfl, _, rfl, ?_⟩
  by_cases c : k = 0
  · refine ite_tt (decide_eq_true (by rw [c])) ?_
    rw [if_pos c] at h
    exact h
  · refine ite_ff (decide_eq_false (fun z => c (by injection z))) ?_
    rw [if_neg c] at h
    refine ⟨_, rfl, _, rfl, _, rfl, _, _, rfl, rfl, _, _, rfl, rfl, wmul (by omega) (by omega) (by omega) (by omega), _, _, rfl, rfl, _, rfl, _, _, rfl, rfl, wdiv m0 (by omega), _, rfl, _, rfl, _, _, rfl, rfl, .inr ⟨_, rfl, _, _, rfl, rfl, ?_⟩⟩
    by_cases d : b < y
    · rw [decide_eq_true d]
      rw [if_pos d] at h
      exact h
    · rw [decide_eq_false d]
      rw [if_neg d] at h
      exact h
def spLeast : Sp := fun vs H Q _ => ∃ b y m n : Int, vs = [.int b, .int y, .int m, .int n] ∧ (-(2 ^ 110) < b ∧ b < 2 ^ 110) ∧ (-(2 ^ 110) < y ∧ y < 2 ^ 110) ∧ (0 < m ∧ m < 2 ^ 110) ∧ (1 ≤ n ∧ n < 2 ^ 110) ∧ ∀ M H', Same H H' → LeastOf b y m n M → Q (.int M) H'
theorem c_least_within (T : Env K mg) : Cal P w K mg base 1 (He.fAd K D_least_within.at_) ["begin", "by", "many", "steps"] spLeast := by
  obtain ⟨fd, F⟩ := T.d_least_within
  have sc : FnScope ["begin", "by", "many", "steps", "least", "laps"] ["begin", "by", "many", "steps"] (defScope S_least_within) := ⟨rfl, rfl, rfl, by decide +kernel, rfl, by decide +kernel, by decide +kernel⟩
  refine mkCal F sc (fun _ _ _ _ _ _ us hl => match us, hl with | [_, _, _, _], _ => rfl) (fun vs H Q E h => by obtain ⟨a, b, c, d, rfl, _⟩ := h; rfl) (fun cdv A outer s H vs Q E hr h => ?_)
  obtain ⟨b0, y0, m0, n0, rfl, ⟨bl, bh⟩, ⟨yl, yh⟩, ⟨ml, mh⟩, ⟨nl, nh⟩, h⟩ := h
  refine ⟨_, pss_cons (ps_par3 (i := 0) (j := 1) (l := 4) rfl sc.nd rfl rfl rfl (by decide) (by decide) (by decide) rfl rfl rfl
      (pa_cons (pe_op op_mod (pv 0) (pv 2)) (pa_cons (pe_op op_mod (pv 1) (pv 2)) (pa_cons (pv 2) pa_nil))) (by rfl))
    (pss_one (ps_while PassesOwn.never (pt_val pe_bl)
      (pss_cut (ps_if (pt_cmpR op_gt (pe_op op_mul pe_int (pv 1)) (pv 2) (nomark _))
        (pss_one (ps_par (i := 0) (j := 1) rfl sc.nd rfl rfl (by decide) rfl rfl (pa_cons (pe_op op_mod (pe_op op_add (pv 0) (pe_op op_mulW (pv 1) (pe_op op_sub (pv 3) pe_int))) (pv 2)) (pa_cons (pe_op op_sub (pv 2) (pv 1)) pa_nil)) (by rfl))) pss_nil)
      (pss_cons (ps_set (i := 4) sc.nd rfl (Or.inl rfl) (pe_callB (call_min2 rfl) rfl T.b_min (by decide +kernel) (pa_cons (pv 4) (pa_cons (pv 0) pa_nil))))
      (pss_cons (ps_set (i := 5) sc.nd rfl (Or.inl rfl) (pe_op op_fdivW (pe_op op_add (pv 0) (pe_op op_mulW (pv 1) (pe_op op_sub (pv 3) pe_int))) (pv 2)))
      (pss_cons (ps_if (PW.pt (pw_or (pt_cmpR op_eq (pv 1) pe_int (nomark _)) (pw_or1 (pt_cmpR op_eq (pv 5) pe_int (nomark _))))) (pss_one (ps_ret (pv 4))) pss_nil)
      (pss_one (ps_asg (pe_tup (pa_cons (pe_op op_mod (pe_op op_sub (pv 0) (pv 2)) (pv 1)) (pa_cons (pe_op op_mod (pe_op op_sub pe_int (pv 2)) (pv 1)) (pa_cons (pv 1) (pa_cons (pv 5) pa_nil)))))
        (pg_tup rfl (pgs_cons (pg_name (i := 0) sc.nd rfl (Or.inl rfl)) (pgs_cons (pg_name (i := 1) sc.nd rfl (Or.inl rfl)) (pgs_cons (pg_name (i := 2) sc.nd rfl (Or.inl rfl)) (pgs_cons (pg_name (i := 3) sc.nd rfl (Or.inl rfl)) pgs_nil))))))))))))), ?_⟩
  have mo : ∀ x : Int, 0 ≤ x % m0 ∧ x % m0 < m0 := fun x => ⟨Int.emod_nonneg _ (by omega), Int.emod_lt_of_pos _ ml⟩
  have hb := mo b0
  have hy := mo y0
  refine ⟨_, rfl, _, rfl, _, _, rfl, rfl, ml, _, rfl, _, rfl, _, _, rfl, rfl, ml, _, rfl, _, _, _, rfl, ?_⟩
  refine while_byB (fun σ H' => ∃ (b y m n ls : Int) (v5 : Option V), σ = [some (.int b), some (.int y), some (.int m), some (.int n), some (.int ls), v5] ∧ Same H H' ∧ (0 ≤ b ∧ b < m) ∧ (0 ≤ y ∧ y < m) ∧ m ≤ m0 ∧ (1 ≤ n ∧ n ≤ n0) ∧ (0 ≤ ls ∧ ls ≤ m0) ∧ ∀ M, LeastOf b y m n M → LeastOf b0 y0 m0 n0 (min ls M))
    (fun _ _ => true) (fun σ _ => match σ with | [_, _, some (.int m), _, _, _] => m.toNat | _ => 0)
    ⟨b0 % m0, y0 % m0, m0, n0, m0, none, rfl, Same.refl _, hb, hy, Int.le_refl _, ⟨nl, Int.le_refl _⟩, ⟨by omega, Int.le_refl _⟩, fun M hM => ?_⟩ ?_ ?_ ?_
  · have hM := hM.start
    obtain ⟨i, _, _, e⟩ := hM.at_
    have := mo (b0 + y0 * i)
    rw [Int.min_eq_right (by omega)]
    exact hM
  · rintro σ H' R ⟨b, y, m, n, ls, v5, rfl, _⟩ q
    exact ⟨true, rfl, q⟩
  · rintro σ H' ⟨b, y, m, n, ls, v5, rfl, sm, ⟨hb0, hb1⟩, ⟨hy0, hy1⟩, hm, ⟨hn0, hn1⟩, ⟨hl0, hl1⟩, hM⟩ _
    have mp : 0 < m := by omega
    refine ⟨fun σ' H2 => H2 = H' ∧ ∃ b y : Int, σ' = [some (.int b), some (.int y), some (.int m), some (.int n), some (.int ls), v5] ∧ (0 ≤ b ∧ b < m) ∧ (0 ≤ y ∧ y < m) ∧ 2 * y ≤ m ∧ ∀ M, LeastOf b y m n M → LeastOf b0 y0 m0 n0 (min ls M), ?_, ?_⟩
    · refine ⟨_, rfl, _, _, rfl, rfl, .inl (by decide), _, rfl, _, _, rfl, rfl, _, rfl, ?_⟩
      by_cases c : m < 2 * y
      · refine ite_tt (decide_eq_true c) ?_
        refine ⟨_, rfl, _, rfl, _, rfl, _, _, rfl, rfl, _, _, rfl, rfl, wmul (by omega) (by omega) (by omega) (by omega), _, _, rfl, rfl, _, rfl, _, _, rfl, rfl, mp, _, rfl, _, rfl, _, _, rfl, rfl, _, _, rfl, ?_⟩
        exact ⟨rfl, _, _, rfl, ⟨Int.emod_nonneg _ (by omega), Int.emod_lt_of_pos _ mp⟩, ⟨by omega, by omega⟩, by omega, fun M h => hM M h.rev⟩
      · exact ite_ff (decide_eq_false c) ⟨rfl, b, y, rfl, ⟨hb0, hb1⟩, ⟨hy0, hy1⟩, by omega, hM⟩
    clear hM hb0 hb1 hy0 hy1
    rintro σ1 H2 ⟨rfl, b, y, rfl, ⟨hb0, hb1⟩, ⟨hy0, hy1⟩, h2y, hM⟩
    have lb := Bm.laps_b hb0 hb1 hy0 hy1 hn0
    refine ⟨_, rfl, _, rfl, _, _, rfl, ?_⟩
    refine ⟨_, rfl, _, rfl, _, rfl, _, _, rfl, rfl, _, _, rfl, rfl, wmul (by omega) (by omega) (by omega) (by omega), _, _, rfl, rfl, _, rfl, _, _, rfl, rfl, wdiv mp (by omega), ?_⟩
    rw [min_if ls b]
    have stop : (y = 0 ∨ (b + y * (n - 1)) / m = 0) → Q (.int (min ls b)) H2 := fun c => h _ _ sm (hM b (.stop hb0 hb1 hy0 hn0 c))
    refine ⟨_, rfl, rfl, _, rfl, ?_⟩
    by_cases c1 : y = 0
    · exact ite_tt (decide_eq_true (by rw [c1])) (iteT ⟨_, rfl, stop (.inl c1)⟩)
    refine ite_ff (decide_eq_false (fun z => c1 (by injection z))) ?_
    refine ⟨_, rfl, rfl, _, rfl, ?_⟩
    by_cases c2 : (b + y * (n - 1)) / m = 0
    · exact ite_tt (decide_eq_true (congrArg V.int c2)) ⟨_, rfl, stop (.inr c2)⟩
    refine ite_ff (decide_eq_false (fun z => c2 (by injection z))) ?_
    have yp : 0 < y := by omega
    refine ⟨_, rfl, _, rfl, _, _, rfl, rfl, _, rfl, _, _, rfl, rfl, yp, _, rfl, _, _, rfl, rfl, _, rfl, _, _, rfl, rfl, yp, _, rfl, _, rfl, (by show 4 ≤ sizeLine; decide), fun q nq => ?_⟩
    refine ⟨q, _, rfl, SqT.of upd_same, rfl, _, _, rfl, _, _, rfl, _, _, rfl, _, _, rfl, rfl, ?_⟩
    refine ⟨⟨_, _, y, _, min ls b, _, rfl, Same.upd1 sm nq, ⟨Int.emod_nonneg _ (by omega), Int.emod_lt_of_pos _ yp⟩, ⟨Int.emod_nonneg _ (by omega), Int.emod_lt_of_pos _ yp⟩, by omega, ⟨by omega, by omega⟩, ⟨by omega, by omega⟩, fun M hM' => ?_⟩, ?_⟩
    · have z := hM _ (LeastOf.down hb0 hb1 yp hy1 hn0 hM')
      rw [Int.min_assoc]
      exact z
    · show y.toNat < m.toNat
      omega
  · rintro σ H' _ z
    cases z
def spGreatest : Sp := fun vs H Q _ => ∃ b y m n : Int, vs = [.int b, .int y, .int m, .int n] ∧ (0 ≤ b ∧ b < 2 ^ 105) ∧ (0 ≤ y ∧ y < 2 ^ 105) ∧ (0 < m ∧ m < 2 ^ 105) ∧ (1 ≤ n ∧ n < 2 ^ 105) ∧ ∀ M H', Same H H' → GreatestOf b y m n M → Q (.int M) H'
theorem c_greatest_within (T : Env K mg) : Cal P w K mg base 2 (He.fAd K D_greatest_within.at_) ["begin", "by", "many", "steps"] spGreatest := by
  obtain ⟨fd, F⟩ := T.d_greatest_within
  have sc : FnScope ["begin", "by", "many", "steps"] ["begin", "by", "many", "steps"] (defScope S_greatest_within) := ⟨rfl, rfl, rfl, by decide +kernel, rfl, by decide +kernel, by decide +kernel⟩
  refine mkCal F sc (fun _ _ _ _ _ _ us hl => match us, hl with | [_, _, _, _], _ => rfl) (fun vs H Q E h => by obtain ⟨a, b, c, d, rfl, _⟩ := h; rfl) (fun cdv A outer s H vs Q E hr h => ?_)
  obtain ⟨b, y, m, n, rfl, ⟨b0, b1⟩, ⟨y0, y1⟩, ⟨m0, m1⟩, ⟨n0, n1⟩, h⟩ := h
  refine ⟨_, pss_one (ps_ret (pe_op op_sub (pe_op op_sub (pv 2) pe_int) (pe_c (c_least_within T) hr T.g_least_within (pa_cons (pe_op op_sub (pe_op op_sub (pv 2) pe_int) (pv 0)) (pa_cons (pe_op op_sub pe_int (pv 1)) (pa_cons (pv 2) (pa_cons (pv 3) pa_nil))))))), ?_⟩
  refine ⟨_, rfl, _, _, rfl, rfl, _, rfl, _, _, rfl, rfl, _, rfl, _, _, rfl, rfl, _, rfl, _, _, rfl, rfl, _, rfl, _, rfl, _, _, _, _, rfl, ⟨by omega, by omega⟩, ⟨by omega, by omega⟩, ⟨m0, by omega⟩, ⟨n0, by omega⟩, fun M H' s hM => ⟨_, _, rfl, rfl, ?_⟩⟩
  exact h _ _ s (Bm.greatest_of m0 hM)
end
end Bt
namespace Bt
open PySem PySem.Spec PyProof.Rows L2
open Bm (GreatestOf wrapsF hangF kR begR prevEnd zr sm stepsOn longR hangR)
section
variable {P : Program} {w : World} {K : PySem.W.Frag} {mg : Str → Option Value} {base : Heap}
def spHanging (K : PySem.W.Frag) : Sp := fun vs H Q _ => ∃ (p : Addr) (r : Bm.RowsD) (b k : Int), vs = [.ref p, .int b, .int k] ∧ RowsAt K H p r ∧ Bm.RowsOk r ∧ (0 ≤ b ∧ b < 2 ^ 105) ∧ (0 ≤ k ∧ k < 2 ^ 105) ∧ Q (.int (hangF r b k)) H
theorem c_hanging (T : Env K mg) : Cal P w K mg base 2 (He.fAd K D_Rows_hanging.at_) ["self", "begin", "steps"] (spHanging K) := by
  obtain ⟨fd, F⟩ := T.d_Rows_hanging
  have sc : FnScope ["self", "begin", "steps", "low"] ["self", "begin", "steps"] (defScope S_Rows_hanging) := ⟨rfl, rfl, rfl, by decide +kernel, rfl, by decide +kernel, by decide +kernel⟩
  refine mkCal F sc (fun _ _ _ _ _ _ us hl => match us, hl with | [_, _, _], _ => rfl) (fun vs H Q E h => by obtain ⟨a, b, c, d, rfl, _⟩ := h; rfl) (fun cdv A outer s H vs Q E hr h => ?_)
  obtain ⟨p, r, b, k, rfl, hp, ro, ⟨b0, b1⟩, ⟨k0, k1⟩, h⟩ := h
  refine ⟨_, pss_cons (ps_set (i := 3) sc.nd rfl (Or.inl rfl) (pe_op op_fdivW (pe_fld (pv 0) rfl) (pe_fld (pv 0) rfl)))
    (pss_cons (ps_if (pt_cmpR op_eq (pe_fld (pv 0) rfl) pe_int (nomark _)) (pss_one (ps_ret (pe_op op_add (pe_op op_mulW (pv 2) (pv 3)) (pe_callTy call_int1 rfl T.b_int (by decide +kernel)
      (pa_cons (pe_and (pe_cmpR op_gt (pv 2) pe_int (nomark _)) (pe_one (pe_cmpR op_lt (pv 1) (pe_op op_mod (pe_fld (pv 0) rfl) (pe_fld (pv 0) rfl)) (nomark _)))) pa_nil))))) pss_nil)
    (pss_one (ps_ret (pe_op op_add (pe_op op_mulW (pv 2) (pv 3)) (pe_c (c_wraps T) hr T.g_wraps (pa_cons (pv 1) (pa_cons (pe_fld (pv 0) rfl) (pa_cons (pe_fld (pv 0) rfl) (pa_cons (pv 2) pa_nil))))))))), ?_⟩
  obtain ⟨dx, h1⟩ := id hp
  have o1 := ro.s0
  have o2 := ro.sg
  have o3 := ro.gB
  have o4 := ro.h0
  have o5 := ro.hg
  have y0 := ro.by0
  have y1 := ro.byS
  have q0 : 0 ≤ r.hung / r.small := Int.ediv_nonneg o4 (by omega)
  have q1 : r.hung / r.small ≤ r.hung := Int.ediv_le_self _ o4
  refine ⟨_, rfl, _, _, _, _, _, rfl, h1, T.c_Rows, T.n_Rows_hung, lk_Rows_hung, _, rfl, _, _, _, _, _, rfl, h1, T.c_Rows, T.n_Rows_small, lk_Rows_small, _, _, rfl, rfl, wdiv (by omega) (by omega), ?_⟩
  unfold hangF at h
  refine ⟨_, rfl, _, _, _, _, _, rfl, h1, T.c_Rows, T.n_Rows_bound, lk_Rows_bound, rfl, _, rfl, ?_⟩
  by_cases hb : r.bound = 0
  · refine ite_tt (decide_eq_true (by rw [hb])) ?_
    rw [if_pos hb] at h
    refine ⟨_, rfl, _, rfl, _, _, rfl, rfl, wmul (by omega) (by omega) (by omega) (by omega), ?_⟩
    refine ⟨_, rfl, _, _, rfl, rfl, _, rfl, ?_⟩
    by_cases c1 : 0 < k
    · refine ite_tt (decide_eq_true c1) ?_
      refine ⟨_, rfl, _, rfl, _, _, _, _, _, rfl, h1, T.c_Rows, T.n_Rows_hung, lk_Rows_hung, _, rfl, _, _, _, _, _, rfl, h1, T.c_Rows, T.n_Rows_small, lk_Rows_small, _, _, rfl, rfl, by omega, _, _, rfl, rfl, .inr ⟨_, rfl, _, _, rfl, rfl, ?_⟩⟩
      by_cases c2 : b < r.hung % r.small
      · rw [decide_eq_true c2]
        rw [if_pos ⟨c1, c2⟩] at h
        exact h
      · rw [decide_eq_false c2]
        rw [if_neg (fun z => c2 z.2)] at h
        exact h
    · refine ite_ff (decide_eq_false c1) ?_
      refine .inr ⟨_, rfl, _, _, rfl, rfl, ?_⟩
      rw [if_neg (fun z => c1 z.1)] at h
      exact h
  · refine ite_ff (decide_eq_false (fun z => hb (by injection z))) ?_
    rw [if_neg hb] at h
    exact ⟨_, rfl, _, rfl, _, _, rfl, rfl, wmul (by omega) (by omega) (by omega) (by omega), _, rfl, _, rfl, _, _, _, _, _, rfl, h1, T.c_Rows, T.n_Rows_by, lk_Rows_by, _, rfl, _, _, _, _, _, rfl, h1, T.c_Rows, T.n_Rows_small, lk_Rows_small, _, rfl, _, _, _, _, rfl, ⟨b0, by omega⟩, ⟨y0, by omega⟩, ⟨by omega, by omega⟩, ⟨k0, by omega⟩, _, _, rfl, rfl, h⟩
/-- kinds in a list -/
abbrev Kind := Int × Int × Int
def KindsAt (H : Hp) (q : Addr) (ks : List Kind) : Prop := ∃ es : List (Addr × Kind), H q = some (.lst (es.map fun e => V.ref e.1)) ∧ (∀ e ∈ es, H e.1 = some (.tup [.int e.2.1, .int e.2.2.1, .int e.2.2.2])) ∧ es.map (·.2) = ks
def kSum (r : Bm.RowsD) (ks : List Kind) : Int := (ks.map fun k => k.2.1 * hangF r k.1 k.2.1 * k.2.2).sum
theorem kSum_snoc (r : Bm.RowsD) (ks : List Kind) (k : Kind) : kSum r (ks ++ [k]) = kSum r ks + k.2.1 * hangF r k.1 k.2.1 * k.2.2 := by
  unfold kSum
  rw [List.map_append, List.sum_append]
  simp
structure KindsB (r : Bm.RowsD) (ks : List Kind) : Prop where
  len : ks.length ≤ 3
  bd : ∀ k ∈ ks, (0 ≤ k.1 ∧ k.1 ≤ r.small) ∧ (1 ≤ k.2.1 ∧ k.2.1 ≤ r.small) ∧ (0 ≤ k.2.2 ∧ k.2.2 ≤ r.small)
structure KindsOk (r : Bm.RowsD) (ks : List Kind) : Prop extends KindsB r ks where
  tot : kSum r ks = sm (zr r.bound r.small) fun R => longR r R * hangR r R
def spKinds (K : PySem.W.Frag) : Sp := fun vs H Q _ => ∃ (p : Addr) (r : Bm.RowsD), vs = [.ref p] ∧ RowsAt K H p r ∧ Bm.RowsOk r ∧ ∀ q H' ks, Same H H' → KindsAt H' q ks → KindsOk r ks → Q (.ref q) H'
abbrev rGtI : R2 := rI0 fun i j => .bl (decide (j < i))
theorem c_kinds (T : Env K mg) : Cal P w K mg base 5 (He.fAd K D_Rows_kinds.at_) ["self"] (spKinds K) := by
  obtain ⟨fd, F⟩ := T.d_Rows_kinds
  have sc : FnScope ["self", "cut", "found", "end", "begin", "steps", "last", "room", "kind"] ["self"] (defScope S_Rows_kinds) := ⟨rfl, rfl, rfl, by decide +kernel, rfl, by decide +kernel, by decide +kernel⟩
  refine mkCal F sc (fun _ _ _ _ _ _ us hl => match us, hl with | [_], _ => rfl) (fun vs H Q E h => by obtain ⟨a, b, rfl, _⟩ := h; rfl) (fun cdv A outer s H vs Q E hr h => ?_)
  obtain ⟨p, r, rfl, hp, ro, h⟩ := h
  have hr2 : Room 2 _ := hr.mono (by decide)
  refine ⟨_, pss_cons (ps_if (pt_cmpR op_eq (pe_fld (pv 0) rfl) pe_int (nomark _))
      (pss_cut (ps_set (i := 1) sc.nd rfl (Or.inl rfl) (pe_op op_mod (pe_fld (pv 0) rfl) (pe_fld (pv 0) rfl)))
      (pss_cut (ps_set (i := 2) sc.nd rfl (Or.inl rfl) (pe_lst (pa_cons (pe_tup (pa_cons pe_int (pa_cons pe_int (pa_cons (pv 1) pa_nil)))) (pa_cons (pe_tup (pa_cons (pv 1) (pa_cons pe_int (pa_cons (pe_op op_sub (pe_fld (pv 0) rfl) (pv 1)) pa_nil)))) pa_nil))))
      (pss_one (ps_ret (pe_lc (own := [("kind", 8)]) (g := gName 8) (tt := tTest (tOp rGtI (tOp (rIxT K) (tVar 8) (tC (.int 2))) (tC (.int 0)))) (te := tVar 8) rfl sc.nd (pi_list (pv 2))
        (blkOk_by (own := [("kind", 8)]) (N := ["self", "cut", "found", "end", "begin", "steps", "last", "room", "kind"]) (sc := defScope S_Rows_kinds) (by decide +kernel)) (fun _ _ _ _ _ => pg_name (i := 8) sc.nd rfl (Or.inl rfl))
        (fun _ _ _ _ _ => by exact (pts_one (pt_cmpR op_gt (pe_ix ix_tup (pv 8) pe_int (fun _ _ => rfl)) pe_int (nomark _)))) (fun _ _ _ _ _ => pv 8)))))) pss_nil)
    (pss_cons (ps_set (i := 2) sc.nd rfl (Or.inl rfl) (pe_lst pa_nil))
    (pss_cons (ps_set (i := 3) sc.nd rfl (Or.inl rfl) (pe_fld (pv 0) rfl))
    (pss_cons (ps_while PassesOwn.never (pt_cmpR op_lt (pv 3) (pe_fld (pv 0) rfl) (nomark _))
      (pss_cons (ps_set (i := 4) sc.nd rfl (Or.inl rfl) (pe_op op_mod (pe_op op_add (pv 3) (pe_fld (pv 0) rfl)) (pe_fld (pv 0) rfl)))
      (pss_cons (ps_set (i := 5) sc.nd rfl (Or.inl rfl) (pe_m (c_steps_on T) T.c_Rows T.m_Rows_steps_on hr (pv 0) (pa_cons (pv 4) pa_nil)))
      (pss_cons (ps_set (i := 6) sc.nd rfl (Or.inl rfl) (pe_op op_mod (pe_op op_add (pv 4) (pe_op op_mulW (pe_fld (pv 0) rfl) (pv 5))) (pe_fld (pv 0) rfl)))
      (pss_cons (ps_set (i := 7) sc.nd rfl (Or.inl rfl) (pe_callB (call_min2 rfl) rfl T.b_min (by decide +kernel) (pa_cons (pe_op op_sub (pe_op op_sub (pe_fld (pv 0) rfl) pe_int) (pv 3)) (pa_cons (pe_op op_sub (pe_op op_sub (pe_fld (pv 0) rfl) pe_int) (pv 6)) pa_nil))))
      (pss_cut (ps_if (pt_cmpR op_gt (pv 5) pe_int (nomark _))
        (pss_one (ps_set (i := 7) sc.nd rfl (Or.inl rfl) (pe_callB (call_min2 rfl) rfl T.b_min (by decide +kernel) (pa_cons (pv 7) (pa_cons (pe_op op_sub (pe_op op_sub (pe_fld (pv 0) rfl) pe_int)
          (pe_c (c_greatest_within T) hr2 T.g_greatest_within (pa_cons (pv 4) (pa_cons (pe_fld (pv 0) rfl) (pa_cons (pe_fld (pv 0) rfl) (pa_cons (pv 5) pa_nil)))))) pa_nil))))) pss_nil)
      (pss_cons (ps_expr (pe_bm PySem.F.plainAttrs_list PySem.F.slot_list_append PySem.F.type_list_append mt_append (pv 2) (pa_cons (pe_tup (pa_cons (pv 4) (pa_cons (pe_op op_add (pv 5) pe_int) (pa_cons (pe_op op_add (pv 7) pe_int) pa_nil)))) pa_nil)))
      (pss_one (ps_aug (i := 3) sc.nd rfl (.inl rfl) (pe_op op_add (pv 7) pe_int) ip_add)))))))))
    (pss_one (ps_ret (pv 2)))))), ?_⟩
  obtain ⟨dx, h1⟩ := id hp
  have o1 := ro.s0
  have o2 := ro.sg
  have o3 := ro.gB
  have o4 := ro.h0
  have o5 := ro.hg
  have y0 := ro.by0
  have y1 := ro.byS
  have ob := ro.b0
  have obs := ro.bs
  have osp := ro.sh_pos
  have s0 : 0 < r.small := by omega
  refine ⟨_, rfl, _, _, _, _, _, rfl, h1, T.c_Rows, T.n_Rows_bound, lk_Rows_bound, rfl, _, rfl, ?_⟩
  by_cases hb : r.bound = 0
  · refine ite_tt (decide_eq_true (by rw [hb])) ?_
    have c0 := Int.emod_nonneg r.hung (by omega : r.small ≠ 0)
    have c1 := Int.emod_lt_of_pos r.hung s0
    have k0 := Bm.kinds0 ro hb
    refine ⟨fun σ' H' => H' = H ∧ σ' = [some (.ref p), some (.int (r.hung % r.small)), none, none, none, none, none, none, none], ⟨_, rfl, _, _, _, _, _, rfl, h1, T.c_Rows, T.n_Rows_hung, lk_Rows_hung, _, rfl, _, _, _, _, _, rfl, h1, T.c_Rows, T.n_Rows_small, lk_Rows_small, _, _, rfl, rfl, s0, rfl, rfl⟩, ?_⟩
    rintro σ1 H1 ⟨rfl, rfl⟩
    generalize r.hung % r.small = cut at *
    refine ⟨fun σ' H' => ∃ q t1 t2 : Addr, σ' = [some (.ref p), some (.int cut), some (.ref q), none, none, none, none, none, none] ∧ Same H1 H' ∧ H' q = some (.lst [.ref t1, .ref t2]) ∧ H' t1 = some (.tup [.int 0, .int 1, .int cut]) ∧ H' t2 = some (.tup [.int cut, .int 1, .int (r.small - cut)]), ?_, ?_⟩
    · refine ⟨_, rfl, (by show 3 ≤ sizeLine; decide), fun t1 n1 => ?_⟩
      have s1 := @Same.new H1 t1 (.tup [.int 0, .int 1, .int cut]) n1
      refine ⟨_, rfl, _, rfl, _, _, _, _, _, rfl, s1 _ _ h1, T.c_Rows, T.n_Rows_small, lk_Rows_small, _, rfl, _, _, rfl, rfl, (by show 3 ≤ sizeLine; decide), fun t2 n2 => ⟨(by show 2 ≤ sizeLine; decide), fun q nq => ?_⟩⟩
      have s2 := @Same.new _ t2 (.tup [.int cut, .int 1, .int (r.small - cut)]) n2
      have s3 := @Same.new _ q (.lst [.ref t1, .ref t2]) nq
      exact ⟨q, t1, t2, rfl, (s1.trans s2).trans s3, upd_same, s3 _ _ (s2 _ _ upd_same), s3 _ _ upd_same⟩
    rintro σ2 H3 ⟨q, t1, t2, rfl, s3, qv, t1w, t2w⟩
    refine ⟨_, rfl, q, rfl, ⟨_, SqL.of qv⟩, fun D nD => ?_⟩
    refine lc_list (K := K) (a := q) (xs := [.ref t1, .ref t2]) (fun i H' => ∃ es : List (Addr × Kind), Same H3 H' ∧ H' D = some (.lst (es.map fun e => V.ref e.1)) ∧ (∀ e ∈ es, H3 e.1 = some (.tup [.int e.2.1, .int e.2.2.1, .int e.2.2.2])) ∧
        es.length ≤ i ∧ (∀ e ∈ es, (0 ≤ e.2.1 ∧ e.2.1 ≤ r.small) ∧ (1 ≤ e.2.2.1 ∧ e.2.2.1 ≤ r.small) ∧ (0 ≤ e.2.2.2 ∧ e.2.2.2 ≤ r.small)) ∧
        kSum r (es.map (·.2)) = if i = 0 then 0 else if i = 1 then 1 * hangF r 0 1 * cut else 1 * hangF r 0 1 * cut + 1 * hangF r cut 1 * (r.small - cut))
      ⟨[], Same.new nD, upd_same, fun e he => (by cases he), Nat.le_refl _, fun e he => (by cases he), rfl⟩ (fun i H' _ z => by obtain ⟨_, sm, _⟩ := z; exact SqL.of (sm _ _ qv)) ?_ ?_
    · rintro i y H' hy ⟨es, sm, hD, hes, hel, heb, hsum⟩
      have hi : i = 0 ∨ i = 1 := by
        have := (List.getElem?_eq_some_iff.mp hy).1
        have : i < 2 := this
        omega
      have add : ∀ (t : Addr) (k : Kind), H3 t = some (.tup [.int k.1, .int k.2.1, .int k.2.2]) → ((0 ≤ k.1 ∧ k.1 ≤ r.small) ∧ (1 ≤ k.2.1 ∧ k.2.1 ≤ r.small) ∧ (0 ≤ k.2.2 ∧ k.2.2 ≤ r.small)) → ∀ S, kSum r (es.map (·.2)) + k.2.1 * hangF r k.1 k.2.1 * k.2.2 = S → (i + 1 = 1 ∨ i + 1 = 2) →
          (∃ acc, H' D = some (.lst acc) ∧ acc.length < sizeLine ∧ ∃ es' : List (Addr × Kind), Same H3 (upd H' D (.lst (acc ++ [.ref t]))) ∧ (upd H' D (.lst (acc ++ [.ref t]))) D = some (.lst (es'.map fun e => V.ref e.1)) ∧ (∀ e ∈ es', H3 e.1 = some (.tup [.int e.2.1, .int e.2.2.1, .int e.2.2.2])) ∧
            es'.length ≤ i + 1 ∧ (∀ e ∈ es', (0 ≤ e.2.1 ∧ e.2.1 ≤ r.small) ∧ (1 ≤ e.2.2.1 ∧ e.2.2.1 ≤ r.small) ∧ (0 ≤ e.2.2.2 ∧ e.2.2.2 ≤ r.small)) ∧ kSum r (es'.map (·.2)) = S) := by
        intro t k ht hk S hS hi2
        refine ⟨_, hD, ?_, es ++ [(t, k)], fun c0 o z => ?_, ?_, fun e he => ?_, ?_, fun e he => ?_, ?_⟩
        · rw [List.length_map, size16]
          omega
        · rw [upd_ne (ne_of_none z nD)]
          exact sm c0 o z
        · rw [upd_same, List.map_append]
          rfl
        · rcases List.mem_append.mp he with he | he
          · exact hes e he
          · rw [List.mem_singleton.mp he]
            exact ht
        · rw [List.length_append]
          show es.length + 1 ≤ _
          omega
        · rcases List.mem_append.mp he with he | he
          · exact heb e he
          · rw [List.mem_singleton.mp he]
            exact hk
        · rw [List.map_append]
          show kSum r (es.map (·.2) ++ [k]) = S
          rw [kSum_snoc, hS]
      rcases hi with rfl | rfl
      · have ey : y = .ref t1 := (Option.some.inj hy).symm
        subst ey
        refine ⟨rfl, _, rfl, t1, _, _, .int cut, rfl, rfl, SqT.of (sm _ _ t1w), atI_nat (j := 2) rfl, _, _, rfl, rfl, _, rfl, ?_⟩
        rw [if_pos rfl] at hsum
        by_cases c : 0 < cut
        · refine ite_tt (decide_eq_true c) ⟨_, rfl, ?_⟩
          exact add t1 (0, 1, cut) t1w (show (0 ≤ (0 : Int) ∧ 0 ≤ r.small) ∧ (1 ≤ (1 : Int) ∧ 1 ≤ r.small) ∧ (0 ≤ cut ∧ cut ≤ r.small) from ⟨⟨by omega, by omega⟩, ⟨by omega, by omega⟩, ⟨by omega, by omega⟩⟩) _ (by rw [hsum]; show 0 + 1 * hangF r 0 1 * cut = _; rw [Int.zero_add, if_neg (by decide), if_pos rfl]) (.inl rfl)
        · have ec : cut = 0 := by omega
          refine ite_ff (decide_eq_false c) ⟨es, sm, hD, hes, by omega, heb, ?_⟩
          rw [hsum, if_neg (by decide), if_pos rfl, ec, Int.mul_zero]
      · have ey : y = .ref t2 := (Option.some.inj hy).symm
        subst ey
        refine ⟨rfl, _, rfl, t2, _, _, .int (r.small - cut), rfl, rfl, SqT.of (sm _ _ t2w), atI_nat (j := 2) rfl, _, _, rfl, rfl, _, rfl, ?_⟩
        rw [if_neg (by decide), if_pos rfl] at hsum
        refine ite_tt (decide_eq_true (by omega)) ⟨_, rfl, ?_⟩
        exact add t2 (cut, 1, r.small - cut) t2w (show (0 ≤ cut ∧ cut ≤ r.small) ∧ (1 ≤ (1 : Int) ∧ 1 ≤ r.small) ∧ (0 ≤ r.small - cut ∧ r.small - cut ≤ r.small) from ⟨⟨by omega, by omega⟩, ⟨by omega, by omega⟩, ⟨by omega, by omega⟩⟩) _ (by rw [hsum, if_neg (by decide), if_neg (by decide)]) (.inr rfl)
    · rintro H' ⟨es, sm, hD, hes, hel, heb, hsum⟩
      refine h D H' (es.map (·.2)) (s3.trans sm) ⟨es, hD, fun e he => sm _ _ (hes e he), rfl⟩ ⟨⟨?_, fun k hk => ?_⟩, ?_⟩
      · rw [List.length_map]
        exact Nat.le_trans hel (show 2 ≤ 3 by decide)
      · obtain ⟨e, he, rfl⟩ := List.mem_map.mp hk
        exact heb e he
      · rw [hsum, ← k0]
        rfl
  refine ite_ff (decide_eq_false (fun z => hb (by injection z))) ?_
  have hbp : 0 < r.bound := by omega
  refine ⟨(by show 0 ≤ sizeLine; decide), fun q nq => ?_⟩
  have s1 := @Same.new H q (.lst []) nq
  have qv := @upd_same H q (.lst [])
  generalize upd H q (.lst []) = H1 at s1 qv ⊢
  refine ⟨_, rfl, _, _, _, _, _, rfl, s1 _ _ h1, T.c_Rows, T.n_Rows_bound, lk_Rows_bound, ?_⟩
  refine while_byB (fun σ H' => ∃ (E : Int) (es : List (Addr × Kind)) (A : List Int) (v4 v5 v6 v7 : Option V), σ = [some (.ref p), none, some (.ref q), some (.int E), v4, v5, v6, v7, none] ∧ Same H H' ∧ H' q = some (.lst (es.map fun e => V.ref e.1)) ∧
      (∀ e ∈ es, H' e.1 = some (.tup [.int e.2.1, .int e.2.2.1, .int e.2.2.2])) ∧ (r.bound ≤ E ∧ E ≤ r.small) ∧ A.length = es.length ∧ A.Nodup ∧ (∀ x ∈ A, x < E ∧ x ∈ [r.small - 1, prevEnd r (r.small - 1), prevEnd r (r.bound - 1)]) ∧
      (∀ e ∈ es, (0 ≤ e.2.1 ∧ e.2.1 ≤ r.small) ∧ (1 ≤ e.2.2.1 ∧ e.2.2.1 ≤ r.small) ∧ (0 ≤ e.2.2.2 ∧ e.2.2.2 ≤ r.small)) ∧ kSum r (es.map (·.2)) = sm (zr r.bound E) (kR r))
    (fun σ _ => match σ with | [_, _, _, some (.int E), _, _, _, _, _] => decide (E < r.small) | _ => false) (fun σ _ => match σ with | [_, _, _, some (.int E), _, _, _, _, _] => (r.small - E).toNat | _ => 0)
    ⟨r.bound, [], [], none, none, none, none, rfl, s1, qv, fun e he => (by cases he), ⟨Int.le_refl _, by omega⟩, rfl, List.nodup_nil, fun x hx => (by cases hx), fun e he => (by cases he), by rw [Bm.zr_empty (Int.le_refl _)]; rfl⟩ ?_ ?_ ?_
  · rintro σ H' R ⟨E, es, A, v4, v5, v6, v7, rfl, sm, _⟩ q
    exact ⟨_, rfl, _, rfl, _, _, _, _, _, rfl, sm _ _ h1, T.c_Rows, T.n_Rows_small, lk_Rows_small, _, _, rfl, rfl, _, rfl, q⟩
  · rintro σ H' ⟨E, es, A, v4, v5, v6, v7, rfl, sm0, hq, hes, ⟨e0, e1⟩, hA, hAn, hAm, heb, hsum⟩ hlt
    have hlt : E < r.small := of_decide_eq_true hlt
    have hk := sm0 _ _ h1
    have bb := Bm.beg_b ro E
    refine ⟨_, rfl, _, rfl, _, _, _, _, _, rfl, hk, T.c_Rows, T.n_Rows_by, lk_Rows_by, _, _, rfl, rfl, _, rfl, _, _, _, _, _, rfl, hk, T.c_Rows, T.n_Rows_small, lk_Rows_small, _, _, rfl, rfl, s0, ?_⟩
    refine ⟨_, rfl, _, _, _, rfl, hk, lk_Rows_m_steps_on, _, rfl, p, r, _, rfl, sm0 |> fun z => (⟨dx, hk⟩ : RowsAt K H' p r), ro, fun H2 s2 => ?_⟩
    have hk2 := s2 _ _ hk
    have eb : (E + r.by') % r.small = begR r E := rfl
    have ol := Bm.on_least ro (begR r E)
    have so := ro.steps_on_b (begR r E)
    have lb : 0 ≤ (begR r E + r.by' * stepsOn r (begR r E)) % r.small ∧ (begR r E + r.by' * stepsOn r (begR r E)) % r.small < r.small := ⟨Int.emod_nonneg _ (by omega), Int.emod_lt_of_pos _ s0⟩
    refine ⟨_, rfl, _, rfl, _, _, _, _, _, rfl, hk2, T.c_Rows, T.n_Rows_by, lk_Rows_by, _, rfl, _, _, rfl, rfl, wmul (by omega) (by omega) (by rw [eb]; omega) (by rw [eb]; omega), _, _, rfl, rfl, _, rfl, _, _, _, _, _, rfl, hk2, T.c_Rows, T.n_Rows_small, lk_Rows_small, _, _, rfl, rfl, s0, ?_⟩
    refine ⟨_, rfl, _, _, _, _, _, rfl, hk2, T.c_Rows, T.n_Rows_small, lk_Rows_small, _, _, rfl, rfl, _, rfl, _, _, rfl, rfl, _, rfl, _, _, _, _, _, rfl, hk2, T.c_Rows, T.n_Rows_small, lk_Rows_small, _, _, rfl, rfl, _, rfl, _, _, rfl, rfl, _, _, rfl, ?_⟩
    refine ⟨fun σ' H' => ∃ room : Int, σ' = [some (.ref p), none, some (.ref q), some (.int E), some (.int (begR r E)), some (.int (stepsOn r (begR r E))), some (.int ((begR r E + r.by' * stepsOn r (begR r E)) % r.small)), some (.int room), none] ∧ Same H2 H' ∧ 0 ≤ room ∧ room ≤ r.small - 1 - E ∧
      room ≤ r.small - 1 - (begR r E + r.by' * stepsOn r (begR r E)) % r.small ∧ (∀ i, 0 ≤ i → i < stepsOn r (begR r E) → (begR r E + r.by' * i) % r.small + room ≤ r.bound - 1) ∧
      (room = r.small - 1 - E ∨ room = r.small - 1 - (begR r E + r.by' * stepsOn r (begR r E)) % r.small ∨ (∃ i, 0 ≤ i ∧ i < stepsOn r (begR r E) ∧ room = r.bound - 1 - (begR r E + r.by' * i) % r.small)), ?_, ?_⟩
    · rw [min_if]
      refine ⟨_, rfl, _, _, rfl, rfl, _, rfl, ?_⟩
      by_cases c : 0 < stepsOn r (begR r E)
      · refine ite_tt (decide_eq_true c) ?_
        refine ⟨_, rfl, _, rfl, _, _, _, _, _, rfl, hk2, T.c_Rows, T.n_Rows_bound, lk_Rows_bound, _, _, rfl, rfl, _, rfl, _, rfl, _, _, _, _, _, rfl, hk2, T.c_Rows, T.n_Rows_by, lk_Rows_by, _, rfl, _, _, _, _, _, rfl, hk2, T.c_Rows, T.n_Rows_small, lk_Rows_small, _, rfl, _, _, _, _, rfl, ⟨by rw [eb]; omega, by rw [eb]; omega⟩, ⟨by omega, by omega⟩, ⟨by omega, by omega⟩, ⟨by rw [eb]; omega, by rw [eb]; omega⟩, fun G H3 s3 hG => ⟨_, _, rfl, rfl, _, _, rfl, ?_⟩⟩
        rw [min_if]
        obtain ⟨⟨i, i0, i1, ei⟩, hle⟩ := hG
        have ei : (begR r E + r.by' * i) % r.small = G := ei
        have i1 : i < stepsOn r (begR r E) := i1
        have hle : ∀ i, 0 ≤ i → i < stepsOn r (begR r E) → (begR r E + r.by' * i) % r.small ≤ G := hle
        have gb : G ≤ r.bound - 1 := by
          have z := ol.least i i0 i1
          have v : 0 ≤ (begR r E + r.by' * i) % r.small ∧ (begR r E + r.by' * i) % r.small < r.small := ⟨Int.emod_nonneg _ (by omega), Int.emod_lt_of_pos _ s0⟩
          omega
        refine ⟨_, rfl, s3, ?_, ?_, ?_, fun y y0 y1 => ?_, ?_⟩
        · show 0 ≤ min (min (r.small - 1 - E) (r.small - 1 - (begR r E + r.by' * stepsOn r (begR r E)) % r.small)) (r.bound - 1 - G)
          omega
        · show min (min (r.small - 1 - E) (r.small - 1 - (begR r E + r.by' * stepsOn r (begR r E)) % r.small)) (r.bound - 1 - G) ≤ _
          omega
        · show min (min (r.small - 1 - E) (r.small - 1 - (begR r E + r.by' * stepsOn r (begR r E)) % r.small)) (r.bound - 1 - G) ≤ _
          omega
        · have := hle y y0 y1
          show (begR r E + r.by' * y) % r.small + min (min (r.small - 1 - E) (r.small - 1 - (begR r E + r.by' * stepsOn r (begR r E)) % r.small)) (r.bound - 1 - G) ≤ r.bound - 1
          omega
        · show min (min (r.small - 1 - E) (r.small - 1 - (begR r E + r.by' * stepsOn r (begR r E)) % r.small)) (r.bound - 1 - G) = _ ∨ min (min (r.small - 1 - E) (r.small - 1 - (begR r E + r.by' * stepsOn r (begR r E)) % r.small)) (r.bound - 1 - G) = _ ∨ _
          by_cases d1 : min (r.small - 1 - E) (r.small - 1 - (begR r E + r.by' * stepsOn r (begR r E)) % r.small) ≤ r.bound - 1 - G
          · omega
          · refine .inr (.inr ⟨i, i0, i1, ?_⟩)
            show min (min (r.small - 1 - E) (r.small - 1 - (begR r E + r.by' * stepsOn r (begR r E)) % r.small)) (r.bound - 1 - G) = r.bound - 1 - (begR r E + r.by' * i) % r.small
            rw [ei]
            omega
      · refine ite_ff (decide_eq_false c) ⟨_, rfl, Same.refl _, ?_, ?_, ?_, fun y y0 y1 => ?_, ?_⟩
        · show 0 ≤ min (r.small - 1 - E) (r.small - 1 - (begR r E + r.by' * stepsOn r (begR r E)) % r.small)
          omega
        · show min (r.small - 1 - E) (r.small - 1 - (begR r E + r.by' * stepsOn r (begR r E)) % r.small) ≤ _
          omega
        · show min (r.small - 1 - E) (r.small - 1 - (begR r E + r.by' * stepsOn r (begR r E)) % r.small) ≤ _
          omega
        · omega
        · show min (r.small - 1 - E) (r.small - 1 - (begR r E + r.by' * stepsOn r (begR r E)) % r.small) = _ ∨ min (r.small - 1 - E) (r.small - 1 - (begR r E + r.by' * stepsOn r (begR r E)) % r.small) = _ ∨ _
          omega
    rintro σ1 H3 ⟨room, rfl, s3, r0, r1, r2, r3, hf⟩
    have gs := Bm.group_sum ro hbp e0 hlt r1 r2 r3 r0
    have gf := Bm.group_fin ro hbp e0 hlt r1 r2 r3 r0 hf
    have hq3 := s3 _ _ (s2 _ _ hq)
    have len3 : (A ++ [E + room]).length ≤ 3 := by
      refine Bm.nodup_le (m := [r.small - 1, prevEnd r (r.small - 1), prevEnd r (r.bound - 1)]) ?_ fun x hx => ?_
      · refine List.nodup_append.mpr ⟨hAn, by simp, fun a ha b hb' => ?_⟩
        have := (hAm a ha).1
        rw [List.mem_singleton.mp hb']
        omega
      · rcases List.mem_append.mp hx with z | z
        · exact (hAm x z).2
        · rw [List.mem_singleton.mp z]
          exact gf
    have len2 : es.length ≤ 2 := by
      rw [List.length_append] at len3
      have : A.length + 1 ≤ 3 := len3
      omega
    refine ⟨_, rfl, .inl ⟨rfl, _, SqL.of hq3⟩, _, rfl, _, rfl, _, _, rfl, rfl, _, rfl, _, _, rfl, rfl, (by show 3 ≤ sizeLine; decide), fun t nt => ?_⟩
    have s4 := @Same.new H3 t (.tup [.int (begR r E), .int (stepsOn r (begR r E) + 1), .int (room + 1)]) nt
    have hq4 := s4 _ _ hq3
    have ht4 := @upd_same H3 t (.tup [.int (begR r E), .int (stepsOn r (begR r E) + 1), .int (room + 1)])
    generalize upd H3 t (.tup [.int (begR r E), .int (stepsOn r (begR r E) + 1), .int (room + 1)]) = H4 at s4 hq4 ht4 ⊢
    have s04 := ((sm0.trans s2).trans s3).trans s4
    refine ⟨q, _, _, rfl, rfl, hq4, by rw [List.length_map, size16]; omega, ?_⟩
    refine ⟨_, rfl, _, rfl, _, _, rfl, rfl, _, _, rfl, rfl, ?_⟩
    refine ⟨⟨E + (room + 1), es ++ [(t, (begR r E, stepsOn r (begR r E) + 1, room + 1))], A ++ [E + room], _, _, _, _, rfl, fun c0 o z => ?_, ?_, fun e he => ?_, ⟨by omega, by omega⟩, ?_, ?_, fun x hx => ?_, fun e he => ?_, ?_⟩, ?_⟩
    · rw [upd_ne (ne_of_none z nq)]
      exact s04 _ _ z
    · rw [upd_same, List.map_append]
      rfl
    · rcases List.mem_append.mp he with he | he
      · have z := s4 _ _ (s3 _ _ (s2 _ _ (hes e he)))
        rw [upd_ne (ne_of z hq4 (by intro z; cases z))]
        exact z
      · rw [List.mem_singleton.mp he, upd_ne (ne_of ht4 hq4 (by intro z; cases z))]
        exact ht4
    · rw [List.length_append, List.length_append, hA]
      rfl
    · refine List.nodup_append.mpr ⟨hAn, by simp, fun a ha b hb' => ?_⟩
      have := (hAm a ha).1
      rw [List.mem_singleton.mp hb']
      omega
    · rcases List.mem_append.mp hx with z | z
      · have := hAm x z
        exact ⟨by omega, this.2⟩
      · rw [List.mem_singleton.mp z]
        exact ⟨by omega, gf⟩
    · rcases List.mem_append.mp he with he | he
      · exact heb e he
      · rw [List.mem_singleton.mp he]
        exact (show (0 ≤ begR r E ∧ begR r E ≤ r.small) ∧ (1 ≤ stepsOn r (begR r E) + 1 ∧ stepsOn r (begR r E) + 1 ≤ r.small) ∧ (0 ≤ room + 1 ∧ room + 1 ≤ r.small) from ⟨⟨by omega, by omega⟩, ⟨by omega, by omega⟩, ⟨by omega, by omega⟩⟩)
    · rw [List.map_append]
      show kSum r (es.map (·.2) ++ [(begR r E, stepsOn r (begR r E) + 1, room + 1)]) = _
      rw [kSum_snoc, hsum, Bm.zr_app e0 (by omega : E ≤ E + (room + 1)), Bm.sm_app, ← Int.add_assoc, gs]
    · show (r.small - (E + (room + 1))).toNat < (r.small - E).toNat
      omega
  · rintro σ H' ⟨E, es, A, v4, v5, v6, v7, rfl, sm0, hq, hes, ⟨e0, e1⟩, hA, hAn, hAm, heb, hsum⟩ hlt
    have hlt : ¬ E < r.small := of_decide_eq_false hlt
    have eE : E = r.small := by omega
    subst eE
    refine ⟨_, rfl, h q H' (es.map (·.2)) sm0 ⟨es, hq, hes, rfl⟩ ⟨⟨?_, fun k hk => ?_⟩, ?_⟩⟩
    · rw [List.length_map, ← hA]
      exact Bm.nodup_le hAn fun x hx => (hAm x hx).2
    · obtain ⟨e, he, rfl⟩ := List.mem_map.mp hk
      exact heb e he
    · rw [hsum, Bm.kinds_sum ro]
end
end Bt
namespace Bt
open PySem PySem.Spec PyProof.Rows L2
open Bm (endOf headOf GoodE Eld eks tieE tiesE rowS rowG)
/-- ties whose elders may be locked -/
structure TiesRd (K : PySem.W.Frag) (H : Hp) (p dx pr pe : Addr) (b : BookD) (E : ElderA) : Prop where
  ob : H p = some (.ins (He.ga K "Ties") dx (F_Ties pr b.begin_ pe))
  dt : Rd H pe (.dT (elderKvs E))
  nm : ∀ x ∈ E, NameAt H x.2.2 x.2.1
section
variable {P : Program} {w : World} {K : PySem.W.Frag} {mg : Str → Option Value} {base : Heap}
def spHeadR (K : PySem.W.Frag) : Sp := fun vs H Q _ => ∃ (p dx pr pe a : Addr) (b : BookD) (E : ElderA) (n : Int), vs = [.ref p, .ref a] ∧ TiesRd K H p dx pr pe b E ∧ GoodE (eldL E) ∧ NameAt H a n ∧
  ∀ a', NameAt H a' (headOf (eldL E) n) → Q (.ref a') H
theorem c_headR (T : Env K mg) : Cal P w K mg base 1 (He.fAd K D_Ties_head.at_) ["self", "name"] (spHeadR K) := by
  obtain ⟨fd, F⟩ := T.d_Ties_head
  have sc : FnScope ["self", "name"] ["self", "name"] (defScope S_Ties_head) := ⟨rfl, rfl, rfl, by decide +kernel, rfl, by decide +kernel, by decide +kernel⟩
  refine mkCal F sc (fun _ _ _ _ _ _ us hl => match us, hl with | [_, _], _ => rfl) (fun vs H Q E h => by obtain ⟨a, b, c, d, e, f, g, i, rfl, _⟩ := h; rfl) (fun cdv A outer s H vs Q E hr h => ?_)
  obtain ⟨p, dx, pr, pe, a, b, El, n, rfl, ht, hg, hn, h⟩ := h
  have hu := hu_of hr
  refine ⟨_, pss_cons (ps_while PassesOwn.never (pt_cmp (pc_din hu (pv 1) (pe_fld (pv 0) rfl)))
      (pss_one (ps_set (i := 1) sc.nd rfl (Or.inl rfl) (pe_dget hu (pe_fld (pv 0) rfl) (pv 1) (fun _ _ => rfl)))))
    (pss_one (ps_ret (pv 1))), ?_⟩
  have nm : ∀ {a : Addr} {m m' : Int}, NameAt H a m → NameAt H a m' → m = m' := fun {a m m'} x y => by
    unfold NameAt at x y
    rw [x] at y
    injection y with y
    injection y with y
    exact nameK_inj (kVs_inj y)
  refine while_byR (fun σ H' => H' = H ∧ ∃ (a : Addr) (m : Int), σ = [some (.ref p), some (.ref a)] ∧ NameAt H a m ∧ headOf (eldL El) m = headOf (eldL El) n)
    (fun σ H' bb H2 => H2 = H' ∧ ∃ (a : Addr) (m : Int), σ[1]? = some (some (.ref a)) ∧ NameAt H a m ∧ bb = (valV (elderKvs El) (nameK m)).isSome)
    (fun σ _ => match σ with | [_, some (.ref a)] => (match H a with | some (.tup [.int 0, .int m]) => El.length + 1 - Bm.posE (eldL El) m | some (.tup [.int 1, .int m]) => El.length + 1 - Bm.posE (eldL El) (-1 - m) | _ => 0) | _ => 0)
    ⟨rfl, a, n, rfl, hn, rfl⟩ ?_ ?_ ?_
  · rintro σ H' R ⟨rfl, a, m, rfl, hm, he⟩ q
    refine ⟨_, rfl, _, rfl, _, _, _, _, _, rfl, ht.ob, T.c_Ties, T.n_Ties_elder, lk_Ties_elder, pe, _, rfl, (Or.inr ⟨elderKvs El, nameK m, _, ht.dt, rfl, hm, rfl⟩ : DGet _ pe (.ref _) (valV (elderKvs El) (nameK m))), _, rfl, q _ _ ⟨rfl, a, m, rfl, hm, rfl⟩⟩
  · rintro σ H' H2 ⟨rfl, a, m, rfl, hm, he⟩ ⟨rfl, a', m', e1, hm', e2⟩
    injection e1 with e1
    injection e1 with e1
    injection e1 with e1
    subst e1
    have em := nm hm hm'
    subst em
    cases hv : valV (elderKvs El) (nameK m) with
    | none => rw [hv] at e2; cases e2
    | some v =>
      obtain ⟨x, hx, hx1, rfl⟩ := valE_some hv
      have hmem : (m, x.2.1) ∈ eldL El := List.mem_map.mpr ⟨x, hx, by rw [← hx1]⟩
      obtain ⟨u1, u2, u3⟩ := Bm.up_step hg hmem
      have hxn := ht.nm x hx
      refine ⟨_, rfl, _, _, _, _, _, rfl, ht.ob, T.c_Ties, T.n_Ties_elder, lk_Ties_elder, _, rfl, pe, .ref x.2.2, rfl, ?_, ?_⟩
      · have z := (Or.inr ⟨elderKvs El, nameK m, _, ht.dt, rfl, hm, rfl⟩ : DGet _ pe (.ref _) (valV (elderKvs El) (nameK m)))
        rw [hv] at z
        exact z
      · refine ⟨⟨rfl, x.2.2, x.2.1, rfl, hxn, by rw [u1, he]⟩, ?_⟩
        have mu : ∀ {a : Addr} {k : Int}, NameAt H2 a k → (match H2 a with | some (.tup [.int 0, .int m]) => El.length + 1 - Bm.posE (eldL El) m | some (.tup [.int 1, .int m]) => El.length + 1 - Bm.posE (eldL El) (-1 - m) | _ => 0) = El.length + 1 - Bm.posE (eldL El) k := by
          intro a k hk
          unfold NameAt nameK at hk
          split at hk
          · rw [hk]
            rfl
          · rw [hk]
            show El.length + 1 - Bm.posE (eldL El) (-1 - (-1 - k)) = _
            have : -1 - (-1 - k) = k := by omega
            rw [this]
        show (match H2 x.2.2 with | some (.tup [.int 0, .int m]) => _ | some (.tup [.int 1, .int m]) => _ | _ => 0) < (match H2 a with | some (.tup [.int 0, .int m]) => _ | some (.tup [.int 1, .int m]) => _ | _ => 0)
        rw [mu hxn, mu hm]
        have h1 := Bm.posE_le (eldL El) x.2.1
        have h2 : (eldL El).length = El.length := by simp [eldL]
        omega
  · rintro σ H' H2 ⟨rfl, a, m, rfl, hm, he⟩ ⟨rfl, a', m', e1, hm', e2⟩
    injection e1 with e1
    injection e1 with e1
    injection e1 with e1
    subst e1
    have em := nm hm hm'
    subst em
    refine ⟨_, rfl, h a ?_⟩
    have hno : m ∉ eks (eldL El) := valE_none.mp (by
      cases hv : valV (elderKvs El) (nameK m) with
      | none => rfl
      | some v => rw [hv] at e2; cases e2)
    rw [← he, Bm.headOf_self hg hno]
    exact hm
end
end Bt
namespace Bt
open PySem PySem.Spec PyProof.Rows L2
open Bm (endOf headOf GoodE Eld eks tieE tiesE rowS rowG)
section
variable {P : Program} {w : World} {K : PySem.W.Frag} {mg : Str → Option Value} {base : Heap}
/-- names in a list -/
def NamesAt (H : Hp) (q : Addr) (ns : List Int) : Prop := ∃ es : List (Addr × Int), H q = some (.lst (es.map fun e => V.ref e.1)) ∧ (∀ e ∈ es, NameAt H e.1 e.2) ∧ es.map (·.2) = ns
def spNamesWith (K : PySem.W.Frag) : Sp := fun vs H Q _ => ∃ (p dx pr pe a : Addr) (b : BookD) (E : ElderA) (n : Int), vs = [.ref p, .ref a] ∧ TiesAt K H p dx pr pe b E ∧ GoodE (eldL E) ∧ E.length ≤ 1000 ∧ NameAt H a n ∧
  ∀ q H', Same H H' → NamesAt H' q (headOf (eldL E) n :: (eks (eldL E)).filter fun m => decide (headOf (eldL E) m = headOf (eldL E) n)) → Q (.ref q) H'
theorem c_names_with (T : Env K mg) : Cal P w K mg base 2 (He.fAd K D_Ties_names_with.at_) ["self", "name"] (spNamesWith K) := by
  obtain ⟨fd, F⟩ := T.d_Ties_names_with
  have sc : FnScope ["self", "name", "head", "one"] ["self", "name"] (defScope S_Ties_names_with) := ⟨rfl, rfl, rfl, by decide +kernel, rfl, by decide +kernel, by decide +kernel⟩
  refine mkCal F sc (fun _ _ _ _ _ _ us hl => match us, hl with | [_, _], _ => rfl) (fun vs H Q E h => by obtain ⟨a, b, c, d, e, f, g, i, rfl, _⟩ := h; rfl) (fun cdv A outer s H vs Q E hr h => ?_)
  obtain ⟨p, dx, pr, pe, a, b, El, n, rfl, ht, hg, hl, hn, h⟩ := h
  refine ⟨_, pss_cons (ps_set (i := 2) sc.nd rfl (Or.inr rfl) (pe_m (c_head T) T.c_Ties T.m_Ties_head hr (pv 0) (pa_cons (pv 1) pa_nil)))
    (pss_one (ps_ret (pe_op op_cat (pe_lst (pa_cons (pv 2) pa_nil)) (pe_lock
      (pe_lc (own := [("one", 3)]) (g := gName 3) (tt := tTest (tOp (rEqD K) (tMeth (He.ga K "Ties") "head" (spHeadR K) [] E0 (tVar 0) (tCons (tVar 3) tNil)) (tVar 2))) (te := tVar 3) rfl sc.nd (pi_keys (pe_fld (pv 0) rfl))
        (blkOk_by (own := [("one", 3)]) (N := ["self", "name", "head", "one"]) (sc := defScope S_Ties_names_with) (by decide +kernel)) (fun _ _ _ _ _ => pg_name (i := 3) sc.nd rfl (Or.inl rfl))
        (fun _ _ _ _ _ => by exact (pts_one (pt_cmpR (op_eqD (hr.units)) (pe_m (c_headR T) T.c_Ties T.m_Ties_head (hr.mono (by decide)) (pv 0) (pa_cons (pv 3) pa_nil)) (pv 2) (nomark _)))) (fun _ _ _ _ _ => pv 3)))))), ?_⟩
  refine ⟨_, rfl, _, _, _, rfl, ht.ob, lk_Ties_m_head, _, rfl, p, dx, pr, pe, a, b, El, n, rfl, ht, hg, hn, fun h0 m0 => ?_⟩
  refine ⟨_, rfl, (by show 1 ≤ sizeLine; decide), fun q0 nq0 => ?_⟩
  have s1 := @Same.new H q0 (.lst [.ref h0]) nq0
  have dt1 := s1 _ _ ht.el.dt
  have q0v := @upd_same H q0 (.lst [.ref h0])
  generalize upd H q0 (.lst [.ref h0]) = H1 at s1 dt1 q0v ⊢
  refine ⟨pe, _, dt1, trivial, fun od => ?_⟩
  have ob1 := s1 _ _ ht.ob
  have ppe : p ≠ pe := ne_of ob1 dt1 (by intro z; cases z)
  have m1 : NameAt H1 h0 (headOf (eldL El) n) := s1 _ _ m0
  have fz : ∀ {c : Addr} {o : HO}, H1 c = some o → c ≠ pe → (upd H1 pe (.frz od (.dT (elderKvs El)))) c = some o := fun e ne => by
    rw [upd_ne ne]
    exact e
  refine ⟨_, rfl, _, _, _, _, _, rfl, fz ob1 ppe, T.c_Ties, T.n_Ties_elder, lk_Ties_elder, pe, od, rfl, .inr ⟨_, upd_same, fun D nD => ?_⟩⟩
  have HZ : ∃ HF, HF = upd H1 pe (.frz od (.dT (elderKvs El))) := ⟨_, rfl⟩
  have eks_at : ∀ (i : Nat) (kk : List Key) (v : V), (elderKvs El)[i]? = some (kk, v) → ∃ m, (eks (eldL El))[i]? = some m ∧ kk = nameK m := fun i kk v hi => by
    unfold elderKvs at hi
    rw [List.getElem?_map] at hi
    cases e : El[i]? with
    | none => rw [e] at hi; cases hi
    | some x =>
      rw [e] at hi
      have hi := Option.some.inj hi
      refine ⟨x.1, ?_, (Prod.mk.inj hi).1.symm⟩
      show ((El.map fun e => (e.1, e.2.1)).map (·.1))[i]? = _
      rw [List.getElem?_map, List.getElem?_map, e]
      rfl
  refine lc_it walk_keysT (fun i H' => ∃ es : List (Addr × Int), Same (upd H1 pe (.frz od (.dT (elderKvs El)))) H' ∧ H' D = some (.lst (es.map fun e => V.ref e.1)) ∧ (∀ e ∈ es, NameAt H' e.1 e.2) ∧ es.map (·.2) = ((eks (eldL El)).take i).filter fun m => decide (headOf (eldL El) m = headOf (eldL El) n))
    ⟨[], Same.new nD, upd_same, fun e he => (by cases he), rfl⟩ (fun i H' _ z => by obtain ⟨_, sm, _⟩ := z; exact sm _ _ upd_same) ?_ ?_
  · rintro i x H' H'' hi ⟨es, sm, hD, hn', em⟩ ⟨rfl, kk, v, q, hi', rfl, hq⟩
    obtain ⟨m, hm, rfl⟩ := eks_at i kk v hi'
    have hqn : NameAt H'' q m := hq
    have nmE : ∀ x ∈ El, NameAt H'' x.2.2 x.2.1 := fun x hx => by
      have z := s1 _ _ (ht.el.nm x hx)
      exact sm _ _ (fz z (ne_of z dt1 (by intro z; cases z)))
    have m1' : NameAt H'' h0 (headOf (eldL El) n) := sm _ _ (fz m1 (ne_of m1 dt1 (by intro z; cases z)))
    refine ⟨rfl, _, rfl, _, _, _, rfl, sm _ _ (fz ob1 ppe), lk_Ties_m_head, _, rfl, p, dx, pr, pe, q, b, El, m, rfl, ⟨sm _ _ (fz ob1 ppe), .inr ⟨od, sm _ _ upd_same⟩, nmE⟩, hg, hqn, fun h2 m2 => ?_⟩
    obtain ⟨i1, j1, k1, k2⟩ := name_dp (K := K) m2
    obtain ⟨i2, j2, k3, k4⟩ := name_dp (K := K) m1'
    refine ⟨_, rfl, _, _, k2, k4, pair_shaped _ _, pair_shaped _ _, _, rfl, ?_⟩
    rw [name_eqv k1 k3]
    have et : (eks (eldL El)).take (i + 1) = (eks (eldL El)).take i ++ [m] := by rw [List.take_add_one, hm]; rfl
    by_cases c : headOf (eldL El) m = headOf (eldL El) n
    · refine ite_tt (decide_eq_true c) ⟨_, rfl, _, hD, ?_, es ++ [(q, m)], fun c0 o z => ?_, ?_, fun e he => ?_, ?_⟩
      · have h1 : es.length = (((eks (eldL El)).take i).filter fun m => decide (headOf (eldL El) m = headOf (eldL El) n)).length := by rw [← em]; simp
        have h2 := List.length_filter_le (fun m => decide (headOf (eldL El) m = headOf (eldL El) n)) ((eks (eldL El)).take i)
        have h3 := List.length_take_le i (eks (eldL El))
        have h4 : (elderKvs El).length = El.length := by unfold elderKvs; simp
        rw [List.length_take] at h2
        rw [List.length_map, size16]
        omega
      · rw [upd_ne (ne_of_none z nD)]
        exact sm _ _ z
      · rw [upd_same, List.map_append]
        rfl
      · have kD : ∀ {c1 : Addr} {k : Int}, NameAt H'' c1 k → NameAt (upd H'' D (.lst ((es.map fun e => V.ref e.1) ++ [.ref q]))) c1 k := fun z => by
          unfold NameAt at z ⊢
          rw [upd_ne (ne_of z hD (by intro z; cases z))]
          exact z
        rcases List.mem_append.mp he with he | he
        · exact kD (hn' e he)
        · rw [List.mem_singleton.mp he]
          exact kD hqn
      · rw [et, List.filter_append, List.map_append, em]
        simp [c]
    · refine ite_ff (decide_eq_false c) ⟨es, sm, hD, hn', ?_⟩
      rw [et, List.filter_append, em]
      simp [c]
  · rintro H' ⟨es, sm, hD, hn', em⟩
    have hlen : (elderKvs El).length = (eks (eldL El)).length := by unfold elderKvs Bm.eks eldL; simp
    rw [hlen, List.take_length] at em
    refine ⟨sm _ _ upd_same, ?_⟩
    have npe : D ≠ pe := fun z => by
      rw [z, upd_same] at nD
      cases nD
    have q0pe : q0 ≠ pe := ne_of q0v dt1 (by intro z; cases z)
    have sU : Same H1 (upd H' pe (.dT (elderKvs El))) := fun c o e => by
      by_cases z : c = pe
      · rw [z] at e ⊢
        rw [upd_same, ← dt1, e]
      · rw [upd_ne z]
        exact sm _ _ (fz e z)
    have hD2 : (upd H' pe (.dT (elderKvs El))) D = some (.lst (es.map fun e => V.ref e.1)) := by
      rw [upd_ne npe]
      exact hD
    have hpe : H' pe = some (.frz od (.dT (elderKvs El))) := sm _ _ upd_same
    have nU : ∀ e ∈ es, NameAt (upd H' pe (.dT (elderKvs El))) e.1 e.2 := fun e he => by
      have z := hn' e he
      unfold NameAt at z ⊢
      rw [upd_ne (ne_of z hpe (by intro z; cases z))]
      exact z
    generalize upd H' pe (.dT (elderKvs El)) = H2 at sU hD2 nU ⊢
    have lE : es.length ≤ El.length := by
      have h1 : es.length = ((eks (eldL El)).filter fun m => decide (headOf (eldL El) m = headOf (eldL El) n)).length := by rw [← em]; simp
      have h2 := List.length_filter_le (fun m => decide (headOf (eldL El) m = headOf (eldL El) n)) (eks (eldL El))
      have h3 : (eks (eldL El)).length = El.length := by simp [Bm.eks, eldL]
      omega
    refine ⟨q0, D, _, _, rfl, rfl, sU _ _ q0v, hD2, ?_, fun z nz => ?_⟩
    · rw [List.length_map, size16]
      show 1 + es.length ≤ _
      omega
    have s3 := @Same.new H2 z (.lst ([.ref h0] ++ es.map fun e => V.ref e.1)) nz
    refine h z _ ((s1.trans sU).trans s3) ⟨(h0, headOf (eldL El) n) :: es, upd_same, fun e he => ?_, by rw [List.map_cons, em]⟩
    rcases List.mem_cons.mp he with he | he
    · rw [he]
      exact s3 _ _ (sU _ _ m1)
    · exact s3 _ _ (nU e he)
end
end Bt
namespace Bt
open PySem PySem.Spec PyProof.Rows L2
open Bm (endOf headOf GoodE Eld eks tieE tiesE rowS rowG longN hangN longR hangR IsName placeAt stepsBack)
/-! ### lots: how great, how many -/
section
variable {P : Program} {w : World} {K : PySem.W.Frag} {mg : Str → Option Value} {base : Heap}
def spSize (K : PySem.W.Frag) : Sp := fun vs H Q _ => ∃ (p dx pr pe a : Addr) (b : BookD) (E : ElderA) (n : Int), vs = [.ref p, .ref a] ∧ TiesAt K H p dx pr pe b E ∧ BookOk b ∧ NameAt H a n ∧ IsName b.rows n ∧
  ∀ q H', Same H H' → H' q = some (.tup [.int (longN b.rows n), .int (hangN b.rows n)]) → Q (.ref q) H'
theorem c_size (T : Env K mg) : Cal P w K mg base 5 (He.fAd K D_Ties_size.at_) ["self", "name"] (spSize K) := by
  obtain ⟨fd, F⟩ := T.d_Ties_size
  have sc : FnScope ["self", "name", "side", "number", "back", "begin"] ["self", "name"] (defScope S_Ties_size) := ⟨rfl, rfl, rfl, by decide +kernel, rfl, by decide +kernel, by decide +kernel⟩
  refine mkCal F sc (fun _ _ _ _ _ _ us hl => match us, hl with | [_, _], _ => rfl) (fun vs H Q E h => by obtain ⟨a, b, c, d, e, f, g, i, rfl, _⟩ := h; rfl) (fun cdv A outer s H vs Q E hr h => ?_)
  obtain ⟨p, dx, pr, pe, a, b, El, n, rfl, ht, ok, hn, hN, h⟩ := h
  have hr2 : Room 2 _ := hr.mono (by decide)
  refine ⟨_, pss_cons (ps_asg (pv 1) (pg_tup rfl (pgs_cons (pg_name (i := 2) sc.nd rfl (Or.inl rfl)) (pgs_cons (pg_name (i := 3) sc.nd rfl (Or.inl rfl)) pgs_nil))))
    (pss_cons (ps_if (pt_cmpR op_eq (pv 2) (pe_gi T.i_GREAT) (nomark _)) (pss_one (ps_ret (pe_tup (pa_cons pe_int (pa_cons pe_int pa_nil))))) pss_nil)
    (pss_cons (ps_set (i := 4) sc.nd rfl (Or.inl rfl) (pe_m (c_steps_back T) T.c_Rows T.m_Rows_steps_back hr (pe_fld (pv 0) rfl) (pa_cons (pv 3) pa_nil)))
    (pss_cons (ps_set (i := 5) sc.nd rfl (Or.inl rfl) (pe_op op_mod (pe_op op_sub (pv 3) (pe_op op_mulW (pe_fld (pe_fld (pv 0) rfl) rfl) (pv 4))) (pe_fld (pe_fld (pv 0) rfl) rfl)))
    (pss_one (ps_ret (pe_tup (pa_cons (pe_op op_add (pv 4) pe_int) (pa_cons (pe_m (c_hanging T) T.c_Rows T.m_Rows_hanging hr2 (pe_fld (pv 0) rfl) (pa_cons (pv 5) (pa_cons (pe_op op_add (pv 4) pe_int) pa_nil))) pa_nil)))))))), ?_⟩
  obtain ⟨dxr, hrw⟩ := id ht.rw_
  have ro := ok.rows
  have o1 := ro.s0
  have o2 := ro.sg
  have o3 := ro.gB
  have ob := ro.b0
  have oh := ro.h0
  have by0 := ro.by0
  have byS := ro.byS
  have sb := ro.steps_back_b n
  by_cases n0 : 0 ≤ n
  · have hn2 : H a = some (.tup [.int 0, .int n]) := by
      have := hn
      unfold NameAt nameK at this
      rw [if_pos n0] at this
      exact this
    have n1 : n < b.rows.small := by
      rcases hN with z | z <;> omega
    refine ⟨_, rfl, a, _, rfl, SqT.of hn2, rfl, _, _, rfl, _, _, rfl, rfl, ?_⟩
    refine ⟨_, rfl, rfl, _, rfl, ite_ff (decide_eq_false (fun z => by injection z with z; cases z)) ?_⟩
    refine ⟨_, rfl, _, _, _, _, _, rfl, ht.ob, T.c_Ties, T.n_Ties_rows, lk_Ties_rows, _, _, _, rfl, hrw, lk_Rows_m_steps_back, _, rfl, pr, b.rows, n, rfl, ht.rw_, ro, fun H1 s1 => ?_⟩
    have h1 := s1 _ _ ht.ob
    have h2 := s1 _ _ hrw
    refine ⟨_, rfl, _, rfl, _, _, _, _, _, rfl, h1, T.c_Ties, T.n_Ties_rows, lk_Ties_rows, _, _, _, _, _, rfl, h2, T.c_Rows, T.n_Rows_by, lk_Rows_by, _, rfl, _, _, rfl, rfl, wmul (by omega) (by omega) (by omega) (by omega), _, _, rfl, rfl, _, rfl, _, _, _, _, _, rfl, h1, T.c_Ties, T.n_Ties_rows, lk_Ties_rows, _, _, _, _, _, rfl, h2, T.c_Rows, T.n_Rows_small, lk_Rows_small, _, _, rfl, rfl, (by omega), ?_⟩
    have e : (n - b.rows.by' * stepsBack b.rows n) % b.rows.small = placeAt b.rows n 0 := by
      unfold placeAt
      rw [Int.sub_zero]
    have pb := Bm.place_b ro n 0
    refine ⟨_, rfl, _, _, rfl, rfl, _, rfl, _, _, _, _, _, rfl, h1, T.c_Ties, T.n_Ties_rows, lk_Ties_rows, _, _, _, rfl, h2, lk_Rows_m_hanging, _, rfl, _, rfl, _, _, rfl, rfl, pr, b.rows, _, stepsBack b.rows n + 1, rfl, ht.rw_.same s1, ro, ⟨by rw [e]; omega, by rw [e]; omega⟩, ⟨by omega, by omega⟩, (by show 2 ≤ sizeLine; decide), fun q nq => ?_⟩
    refine h q _ (Same.upd1 s1 nq) ?_
    rw [upd_same, e]
    unfold longN hangN hangR longR
    rw [if_pos n0, if_pos n0]
  · have hn2 : H a = some (.tup [.int 1, .int (-1 - n)]) := by
      have := hn
      unfold NameAt nameK at this
      rw [if_neg n0] at this
      exact this
    refine ⟨_, rfl, a, _, rfl, SqT.of hn2, rfl, _, _, rfl, _, _, rfl, rfl, ?_⟩
    refine ⟨_, rfl, rfl, _, rfl, ite_tt (decide_eq_true rfl) ?_⟩
    refine ⟨(by show 2 ≤ sizeLine; decide), fun q nq => ?_⟩
    refine h q _ (Same.new nq) ?_
    rw [upd_same]
    unfold longN hangN
    rw [if_neg n0, if_neg n0]
def spHowMany (K : PySem.W.Frag) : Sp := fun vs H Q _ => ∃ (p dx pr pe : Addr) (b : BookD) (E : ElderA), vs = [.ref p] ∧ TiesAt K H p dx pr pe b E ∧ Q (.int (b.rows.small - b.rows.bound + (b.rows.great - b.rows.hung) - (E.length : Nat))) H
theorem c_how_many (T : Env K mg) : Cal P w K mg base 1 (He.fAd K D_Ties_how_many.at_) ["self"] (spHowMany K) := by
  obtain ⟨fd, F⟩ := T.d_Ties_how_many
  have sc : FnScope ["self", "rows", "alone"] ["self"] (defScope S_Ties_how_many) := ⟨rfl, rfl, rfl, by decide +kernel, rfl, by decide +kernel, by decide +kernel⟩
  refine mkCal F sc (fun _ _ _ _ _ _ us hl => match us, hl with | [_], _ => rfl) (fun vs H Q E h => by obtain ⟨a, b, c, d, e, f, rfl, _⟩ := h; rfl) (fun cdv A outer s H vs Q E hr h => ?_)
  obtain ⟨p, dx, pr, pe, b, El, rfl, ht, h⟩ := h
  refine ⟨_, pss_cons (ps_set (i := 1) sc.nd rfl (Or.inl rfl) (pe_fld (pv 0) rfl))
    (pss_cons (ps_set (i := 2) sc.nd rfl (Or.inl rfl) (pe_op op_sub (pe_fld (pv 1) rfl) (pe_fld (pv 1) rfl)))
    (pss_one (ps_ret (pe_op op_sub (pe_op op_add (pe_op op_sub (pe_fld (pv 1) rfl) (pe_fld (pv 1) rfl)) (pv 2)) (pe_callB call_len_dT rfl T.b_len (by decide +kernel) (pa_cons (pe_fld (pv 0) rfl) pa_nil)))))), ?_⟩
  obtain ⟨dxr, hrw⟩ := id ht.rw_
  refine ⟨_, rfl, _, _, _, _, _, rfl, ht.ob, T.c_Ties, T.n_Ties_rows, lk_Ties_rows, ?_⟩
  refine ⟨_, rfl, _, _, _, _, _, rfl, hrw, T.c_Rows, T.n_Rows_great, lk_Rows_great, _, rfl, _, _, _, _, _, rfl, hrw, T.c_Rows, T.n_Rows_hung, lk_Rows_hung, _, _, rfl, rfl, ?_⟩
  refine ⟨_, rfl, _, _, _, _, _, rfl, hrw, T.c_Rows, T.n_Rows_small, lk_Rows_small, _, rfl, _, _, _, _, _, rfl, hrw, T.c_Rows, T.n_Rows_bound, lk_Rows_bound, _, _, rfl, rfl, _, rfl, _, _, rfl, rfl, _, rfl, _, _, _, _, _, rfl, ht.ob, T.c_Ties, T.n_Ties_elder, lk_Ties_elder, ?_⟩
  refine ⟨pe, elderKvs El, rfl, ht.el.dt, _, _, rfl, rfl, ?_⟩
  have e : (elderKvs El).length = El.length := by unfold elderKvs; simp
  rw [e]
  exact h
/-- how many lots -/
noncomputable def lotsN (b : BookD) : Int := b.rows.small - b.rows.bound + (b.rows.great - b.rows.hung) - ((tiesE b.rows b.rel).length : Nat)
def spHowManyLots (K : PySem.W.Frag) : Sp := fun vs H Q _ => ∃ (p : Addr) (b : BookD), vs = [.ref p] ∧ BookAt K H p b ∧ BookOk b ∧ ∀ H', Same H H' → Q (.int (lotsN b)) H'
theorem eld_len {E : ElderA} {b : BookD} (he : eldL E = tiesE b.rows b.rel) : E.length = (tiesE b.rows b.rel).length := by
  rw [← he]
  simp [eldL]
theorem c_how_many_lots (T : Env K mg) : Cal P w K mg base 10 (He.fAd K D_how_many_lots.at_) ["book"] (spHowManyLots K) := by
  obtain ⟨fd, F⟩ := T.d_how_many_lots
  have sc : FnScope ["book"] ["book"] (defScope S_how_many_lots) := ⟨rfl, rfl, rfl, by decide +kernel, rfl, by decide +kernel, by decide +kernel⟩
  refine mkCal F sc (fun _ _ _ _ _ _ us hl => match us, hl with | [_], _ => rfl) (fun vs H Q E h => by obtain ⟨a, b, rfl, _⟩ := h; rfl) (fun cdv A outer s H vs Q E hr h => ?_)
  obtain ⟨p, b, rfl, hb, ok, h⟩ := h
  have hr1 : Room 1 _ := hr.mono (by decide)
  refine ⟨_, pss_one (ps_ret (pe_m0 (c_how_many T) T.c_Ties T.m_Ties_how_many hr1 (pe_mk (c_Ties_init T) T.k_Ties hr T.g_Ties (pa_cons (pv 0) pa_nil)))), ?_⟩
  refine ⟨_, rfl, fun x dx nx ndx nxx => ?_⟩
  have s0 : Same H (upd (upd H dx (.own x)) x (.ins (He.ga K "Ties") dx [])) := Same.upd1 (Same.upd1 (Same.refl H) ndx) (by rw [upd_ne (Ne.symm nxx)]; exact nx)
  refine ⟨x, dx, p, b, rfl, upd_same, hb.same s0, ok, fun H3 pr pe El sb ht he npe => ⟨rfl, ?_⟩⟩
  have s3 : Same H H3 := fun a o e => sb a o (s0 a o e) (ne_of_none e nx)
  refine ⟨_, _, _, rfl, ht.ob, lk_Ties_m_how_many, x, dx, pr, pe, b, El, rfl, ht, ?_⟩
  rw [eld_len he]
  exact h H3 s3
def spFewest (K : PySem.W.Frag) : Sp := fun vs H Q _ => ∃ (p : Addr) (b : BookD), vs = [.ref p] ∧ BookAt K H p b ∧ BookOk b ∧ ∀ H', Same H H' → Q (.int (lotsN b - b.rows.shared)) H'
theorem c_fewest (T : Env K mg) : Cal P w K mg base 10 (He.fAd K D_fewest.at_) ["book"] (spFewest K) := by
  obtain ⟨fd, F⟩ := T.d_fewest
  have sc : FnScope ["book", "ties"] ["book"] (defScope S_fewest) := ⟨rfl, rfl, rfl, by decide +kernel, rfl, by decide +kernel, by decide +kernel⟩
  refine mkCal F sc (fun _ _ _ _ _ _ us hl => match us, hl with | [_], _ => rfl) (fun vs H Q E h => by obtain ⟨a, b, rfl, _⟩ := h; rfl) (fun cdv A outer s H vs Q E hr h => ?_)
  obtain ⟨p, b, rfl, hb, ok, h⟩ := h
  have hr1 : Room 1 _ := hr.mono (by decide)
  refine ⟨_, pss_cons (ps_set (i := 1) sc.nd rfl (Or.inl rfl) (pe_mk (c_Ties_init T) T.k_Ties hr T.g_Ties (pa_cons (pv 0) pa_nil)))
    (pss_one (ps_ret (pe_op op_sub (pe_m0 (c_how_many T) T.c_Ties T.m_Ties_how_many hr1 (pv 1)) (pe_fld (pe_fld (pv 1) rfl) rfl)))), ?_⟩
  refine ⟨_, rfl, fun x dx nx ndx nxx => ?_⟩
  have s0 : Same H (upd (upd H dx (.own x)) x (.ins (He.ga K "Ties") dx [])) := Same.upd1 (Same.upd1 (Same.refl H) ndx) (by rw [upd_ne (Ne.symm nxx)]; exact nx)
  refine ⟨x, dx, p, b, rfl, upd_same, hb.same s0, ok, fun H3 pr pe El sb ht he npe => ⟨rfl, ?_⟩⟩
  have s3 : Same H H3 := fun a o e => sb a o (s0 a o e) (ne_of_none e nx)
  obtain ⟨dxr, hrw⟩ := id ht.rw_
  refine ⟨_, rfl, _, _, _, rfl, ht.ob, lk_Ties_m_how_many, x, dx, pr, pe, b, El, rfl, ht, ?_⟩
  rw [eld_len he]
  exact ⟨_, rfl, _, _, _, _, _, rfl, ht.ob, T.c_Ties, T.n_Ties_rows, lk_Ties_rows, _, _, _, _, _, rfl, hrw, T.c_Rows, T.n_Rows_shared, lk_Rows_shared, _, _, rfl, rfl, h H3 s3⟩
/-- a round -/
def roundN (a b : Int) : Int := a / ((Int.gcd a b : Nat) : Int) * b
def spRoundOf (K : PySem.W.Frag) : Sp := fun vs H Q _ => ∃ (p dx : Addr) (a b : Int), vs = [.ref p] ∧ H p = some (.ins (He.ga K "Belts") dx (F_Belts a b)) ∧ (1 ≤ a ∧ a ≤ 10 ^ 30) ∧ (1 ≤ b ∧ b ≤ 10 ^ 30) ∧ Q (.int (roundN a b)) H
theorem c_round_of (T : Env K mg) : Cal P w K mg base 2 (He.fAd K D_round_of.at_) ["belts"] (spRoundOf K) := by
  obtain ⟨fd, F⟩ := T.d_round_of
  have sc : FnScope ["belts"] ["belts"] (defScope S_round_of) := ⟨rfl, rfl, rfl, by decide +kernel, rfl, by decide +kernel, by decide +kernel⟩
  refine mkCal F sc (fun _ _ _ _ _ _ us hl => match us, hl with | [_], _ => rfl) (fun vs H Q E h => by obtain ⟨a, b, c, d, rfl, _⟩ := h; rfl) (fun cdv A outer s H vs Q E hr h => ?_)
  obtain ⟨p, dx, a, b, rfl, hp, ⟨a1, a2⟩, ⟨b1, b2⟩, h⟩ := h
  refine ⟨_, pss_one (ps_ret (pe_op op_mulW (pe_op op_fdivW (pe_fld (pv 0) rfl) (pe_c (c_common_part T) hr T.g_common_part (pa_cons (pe_fld (pv 0) rfl) (pa_cons (pe_fld (pv 0) rfl) pa_nil)))) (pe_fld (pv 0) rfl))), ?_⟩
  have g0 : 0 < ((Int.gcd a b : Nat) : Int) := by
    have : 0 < Int.gcd a b := Int.gcd_pos_of_ne_zero_left _ (by omega)
    omega
  have g1 : ((Int.gcd a b : Nat) : Int) ≤ a := Int.gcd_le_left _ (by omega)
  have q0 : 0 ≤ a / ((Int.gcd a b : Nat) : Int) := Int.ediv_nonneg (by omega) (by omega)
  have q1 : a / ((Int.gcd a b : Nat) : Int) ≤ a := Int.ediv_le_self _ (by omega)
  refine ⟨_, rfl, _, _, _, _, _, rfl, hp, T.c_Belts, T.n_Belts_one, lk_Belts_one, _, rfl, _, _, _, _, _, rfl, hp, T.c_Belts, T.n_Belts_one, lk_Belts_one, _, rfl, _, _, _, _, _, rfl, hp, T.c_Belts, T.n_Belts_other, lk_Belts_other, a, b, rfl, by omega, by omega, _, _, rfl, rfl, wdiv g0 (by omega), _, rfl, _, _, _, _, _, rfl, hp, T.c_Belts, T.n_Belts_other, lk_Belts_other, _, _, rfl, rfl, wmul (by omega) (by omega) (by omega) (by omega), h⟩
end
end Bt
namespace Bt
open PySem PySem.Spec PyProof.Rows L2
theorem dcT_it {J : It} {n : Nat} {G : Hp → Prop} {Y : Nat → Hp → V → Hp → Prop} (w : Walk J n G Y) {g : TG} {tk tv : TE} {vs : List Nat} {σ : L2.St} {H1 : Hp} {D : Addr} {Qd : Hp → Prop} (Pv : Nat → Hp → Prop) (h0 : Pv 0 (upd H1 D (.dT []))) (hG : ∀ i H, i ≤ n → Pv i H → G H)
    (turn : ∀ i x H H', i < n → Pv i H → Y i H x H' → g x (wipe σ vs) H' fun σ2 G2 => wipe σ2 vs = wipe σ vs ∧
      tk σ2 G2 fun y G3 => tv σ2 G3 fun z G4 => ∃ kvs k b, y = .ref b ∧ G4 b = some (.tup (k.map kV)) ∧ G4 D = some (.dT kvs) ∧ kvs.length < sizeLine ∧ Pv (i + 1) (upd G4 D (.dT (putK kvs k z)))) (hd : ∀ H, Pv n H → Qd H) :
    ∃ W : Nat → Nat → Hp → Prop, (∃ m, W 0 m (upd H1 D (.dT []))) ∧ ∀ i m H', W i m H' →
      (J.stop i H' ∧ Qd H') ∨ (J.go i H' ∧ ∃ N : Hp → Prop, (∀ G, N G → ∃ m', m' < m ∧ W (i + 1) m' G) ∧ ∀ x G, J.yld i H' x G → g x (wipe σ vs) G fun σ2 G2 => wipe σ2 vs = wipe σ vs ∧
        tk σ2 G2 fun y G3 => tv σ2 G3 fun z G4 => ∃ kvs k b, y = .ref b ∧ G4 b = some (.tup (k.map kV)) ∧ G4 D = some (.dT kvs) ∧ kvs.length < sizeLine ∧ N (upd G4 D (.dT (putK kvs k z)))) := by
  refine ⟨fun i m H => i ≤ n ∧ Pv i H ∧ m + i = n, ⟨n, Nat.zero_le _, h0, rfl⟩, fun i m H z => ?_⟩
  obtain ⟨hi, p, e⟩ := z
  rcases Nat.lt_or_ge i n with c | c
  · exact .inr ⟨w.goes i H c (hG i H hi p), Pv (i + 1), fun G pg => ⟨n - (i + 1), by omega, c, pg, by omega⟩, fun x G y => turn i x H G c p (w.yields i H x G c (hG i H hi p) y)⟩
  · have ei : i = n := Nat.le_antisymm hi c
    subst ei
    exact .inl ⟨w.stops H (hG i H hi p), hd H p⟩
theorem put_heads {hs : List Int} {h : Int} : putK (hs.map fun x => (nameK x, V.bl true)) (nameK h) (.bl true) = (if h ∈ hs then hs else hs ++ [h]).map fun x => (nameK x, V.bl true) := by
  unfold putK
  have any : ((hs.map fun x => (nameK x, V.bl true)).any fun kv => decide (kv.1 = nameK h)) = decide (h ∈ hs) := by
    rw [List.any_map]
    induction hs with
    | nil => rfl
    | cons a l ih =>
      rw [List.any_cons, ih]
      show (decide (nameK a = nameK h) || decide (h ∈ l)) = decide (h ∈ a :: l)
      by_cases c : a = h
      · subst c
        simp
      · have c1 : ¬ nameK a = nameK h := fun z => c (nameK_inj z)
        have c2 : ¬ h = a := fun z => c z.symm
        simp [c1, c2]
  rw [any]
  by_cases c : h ∈ hs
  · rw [if_pos (decide_eq_true c), if_pos c, List.map_map]
    refine List.map_congr_left fun x _ => ?_
    show (if nameK x = nameK h then (nameK x, V.bl true) else (nameK x, V.bl true)) = _
    split <;> rfl
  · rw [if_neg (by simp [c]), if_neg c, List.map_append]
    rfl
end Bt
namespace Bt
open PySem PySem.Spec PyProof.Rows L2
open Bm (endOf headOf GoodE Eld eks tieE tiesE rowS rowG longN hangN longR hangR IsName hangF zr sm lotH countH pairsH)
theorem nat400 {i : Int} (h1 : -(2 ^ 250) < i) (h2 : i < 2 ^ 250) : i.natAbs < 2 ^ 250 := by
  have e : ((2 ^ 250 : Nat) : Int) = (2 : Int) ^ 250 := by norm_cast
  omega
theorem wmul4 {i j : Int} (h1 : -(2 ^ 250) < i) (h2 : i < 2 ^ 250) (h3 : -(2 ^ 250) < j) (h4 : j < 2 ^ 250) : CMulW i j := wide_mul (nat400 h1 h2) (nat400 h3 h4) (by decide) (by decide) (by decide)
theorem prod_b {x y A B : Int} (x0 : 0 ≤ x) (x1 : x ≤ A) (y0 : 0 ≤ y) (y1 : y ≤ B) : 0 ≤ x * y ∧ x * y ≤ A * B :=
  ⟨Int.mul_nonneg x0 y0, Int.le_trans (Int.mul_le_mul_of_nonneg_right x1 y0) (Int.mul_le_mul_of_nonneg_left y1 (Int.le_trans x0 x1))⟩
section
variable {P : Program} {w : World} {K : PySem.W.Frag} {mg : Str → Option Value} {base : Heap}
abbrev rMulW : R2 := rI CMulW fun i j => .int (i * j)
def spInRound (K : PySem.W.Frag) : Sp := fun vs H Q _ => ∃ (p : Addr) (b : BookD), vs = [.ref p] ∧ BookAt K H p b ∧ BookOk b ∧ ∀ H', Same H H' → Q (.int (pairsH b.rows (headOf (tiesE b.rows b.rel)))) H'
set_option maxHeartbeats 8000000 in
theorem c_in_round (T : Env K mg) : Cal P w K mg base 10 (He.fAd K D_in_round.at_) ["book"] (spInRound K) := by
  obtain ⟨fd, F⟩ := T.d_in_round
  have sc : FnScope ["book", "rows", "ties", "found", "head", "sizes", "smalls", "greats", "begin", "long", "many", "name", "size"] ["book"] (defScope S_in_round) := ⟨rfl, rfl, rfl, by decide +kernel, rfl, by decide +kernel, by decide +kernel⟩
  refine mkCal F sc (fun _ _ _ _ _ _ us hl => match us, hl with | [_], _ => rfl) (fun vs H Q E h => by obtain ⟨a, b, rfl, _⟩ := h; rfl) (fun cdv A outer s H vs Q E hr h => ?_)
  obtain ⟨p, b, rfl, hb, ok, h⟩ := h
  have hr1 : Room 1 _ := hr.mono (by decide)
  have hr2 : Room 2 _ := hr.mono (by decide)
  have hr3 : Room 3 _ := hr.mono (by decide)
  have hr5 : Room 5 _ := hr.mono (by decide)
  have hu := hu_of hr
  refine ⟨_, pss_cons (ps_set (i := 1) sc.nd rfl (Or.inr rfl) (pe_mk (c_Rows_init T) T.k_Rows hr3 T.g_Rows (pa_cons (pv 0) pa_nil)))
    (pss_cons (ps_set (i := 2) sc.nd rfl (Or.inr rfl) (pe_mk (c_Ties_init T) T.k_Ties hr T.g_Ties (pa_cons (pv 0) pa_nil)))
    (pss_cut (ps_set (i := 3) sc.nd rfl (Or.inl rfl) (pe_callB (cr_sum rfl) rfl T.b_sum (by decide +kernel) (pa_cons (pe_lc (own := [("begin", 8), ("long", 9), ("many", 10)]) (g := gTup K 3 (gCons (gName 8) (gCons (gName 9) (gCons (gName 10) gNil)))) (tt := tYes)
        (te := tOp rMulW (tOp rMulW (tVar 9) (tMeth (He.ga K "Rows") "hanging" (spHanging K) [] E0 (tVar 1) (tCons (tVar 8) (tCons (tVar 9) tNil)))) (tVar 10)) rfl sc.nd (pi_list (pe_m0 (c_kinds T) T.c_Rows T.m_Rows_kinds hr5 (pv 1)))
        (blkOk_by (own := [("begin", 8), ("long", 9), ("many", 10)]) (N := ["book", "rows", "ties", "found", "head", "sizes", "smalls", "greats", "begin", "long", "many", "name", "size"]) (sc := defScope S_in_round) (by decide +kernel))
        (fun _ _ _ _ _ => by exact (pg_tup rfl (pgs_cons (pg_name (i := 8) sc.nd rfl (Or.inl rfl)) (pgs_cons (pg_name (i := 9) sc.nd rfl (Or.inl rfl)) (pgs_cons (pg_name (i := 10) sc.nd rfl (Or.inl rfl)) pgs_nil))))) (fun _ _ _ _ _ => pts_nil)
        (fun _ _ _ _ _ => by exact (pe_op op_mulW (pe_op op_mulW (pv 9) (pe_m (c_hanging T) T.c_Rows T.m_Rows_hanging (hr2.mono (by decide)) (pv 1) (pa_cons (pv 8) (pa_cons (pv 9) pa_nil)))) (pv 10)))) pa_nil)))
    (pss_cons (ps_for PassesOwn.never rfl (pi_keys (pe_lockV (pe_lock (pe_dcT (own := [("name", 11)]) (g := gName 11) (tk := tMeth (He.ga K "Ties") "head" (spHeadR K) [] E0 (tVar 2) (tCons (tVar 11) tNil)) (tv := tC (.bl true)) rfl (Nat.lt_of_succ_lt hu) sc.nd (pi_keys (pe_fld (pv 2) rfl))
        (blkOk_by (own := [("name", 11)]) (N := ["book", "rows", "ties", "found", "head", "sizes", "smalls", "greats", "begin", "long", "many", "name", "size"]) (sc := defScope S_in_round) (by decide +kernel)) (fun _ _ _ _ _ => pg_name (i := 11) sc.nd rfl (Or.inl rfl))
        (fun _ _ _ _ _ => by exact (pe_m (c_headR T) T.c_Ties T.m_Ties_head (hr1.mono (by decide)) (pv 2) (pa_cons (pv 11) pa_nil))) (fun _ _ _ _ _ => pe_bl))))) (pg_name (i := 4) sc.nd rfl (Or.inl rfl))
      (pss_cut (ps_setLc (i := 5) (own := [("name", 11)]) (g := gName 11) (tt := tYes) (te := tMeth (He.ga K "Ties") "size" (spSize K) [] E0 (tVar 2) (tCons (tVar 11) tNil)) rfl sc.nd rfl rfl (sw_true rfl rfl rfl rfl)
        (pi_list (pe_m (c_names_with T) T.c_Ties T.m_Ties_names_with hr2 (pv 2) (pa_cons (pv 4) pa_nil)))
        (blkOk_by (own := [("name", 11)]) (N := ["book", "rows", "ties", "found", "head", "sizes", "smalls", "greats", "begin", "long", "many", "name", "size"]) (sc := defScope S_in_round) (by decide +kernel)) (fun _ _ _ _ _ => pg_name (i := 11) sc.nd rfl (Or.inl rfl)) (fun _ _ _ _ _ => pts_nil)
        (fun _ _ _ _ _ => by exact (pe_m (c_size T) T.c_Ties T.m_Ties_size (hr5.mono (by decide)) (pv 2) (pa_cons (pv 11) pa_nil))))
      (pss_cons (ps_par (i := 6) (j := 7) rfl sc.nd rfl rfl (by decide) rfl rfl
        (pa_cons (pe_callB (cr_sum rfl) rfl T.b_sum (by decide +kernel) (pa_cons (pe_lc (own := [("size", 12)]) (g := gName 12) (tt := tYes) (te := tOp (rIxT K) (tVar 12) (tC (.int 0))) rfl sc.nd (pi_list (pv 5))
          (blkOk_by (own := [("size", 12)]) (N := ["book", "rows", "ties", "found", "head", "sizes", "smalls", "greats", "begin", "long", "many", "name", "size"]) (sc := defScope S_in_round) (by decide +kernel)) (fun _ _ _ _ _ => pg_name (i := 12) sc.nd rfl (Or.inl rfl)) (fun _ _ _ _ _ => pts_nil)
          (fun _ _ _ _ _ => by exact (pe_ix ix_tup (pv 12) pe_int (fun _ _ => rfl)))) pa_nil))
        (pa_cons (pe_callB (cr_sum rfl) rfl T.b_sum (by decide +kernel) (pa_cons (pe_lc (own := [("size", 12)]) (g := gName 12) (tt := tYes) (te := tOp (rIxT K) (tVar 12) (tC (.int 1))) rfl sc.nd (pi_list (pv 5))
          (blkOk_by (own := [("size", 12)]) (N := ["book", "rows", "ties", "found", "head", "sizes", "smalls", "greats", "begin", "long", "many", "name", "size"]) (sc := defScope S_in_round) (by decide +kernel)) (fun _ _ _ _ _ => pg_name (i := 12) sc.nd rfl (Or.inl rfl)) (fun _ _ _ _ _ => pts_nil)
          (fun _ _ _ _ _ => by exact (pe_ix ix_tup (pv 12) pe_int (fun _ _ => rfl)))) pa_nil)) pa_nil)) (by rfl))
      (pss_one (ps_aug (i := 3) sc.nd rfl (.inl rfl) (pe_op op_sub (pe_op op_mulW (pv 6) (pv 7)) (pe_callB (cr_sum rfl) rfl T.b_sum (by decide +kernel) (pa_cons (pe_lc (own := [("size", 12)]) (g := gName 12) (tt := tYes)
          (te := tOp rMulW (tOp (rIxT K) (tVar 12) (tC (.int 0))) (tOp (rIxT K) (tVar 12) (tC (.int 1)))) rfl sc.nd (pi_list (pv 5))
          (blkOk_by (own := [("size", 12)]) (N := ["book", "rows", "ties", "found", "head", "sizes", "smalls", "greats", "begin", "long", "many", "name", "size"]) (sc := defScope S_in_round) (by decide +kernel)) (fun _ _ _ _ _ => pg_name (i := 12) sc.nd rfl (Or.inl rfl)) (fun _ _ _ _ _ => pts_nil)
          (fun _ _ _ _ _ => by exact (pe_op op_mulW (pe_ix ix_tup (pv 12) pe_int (fun _ _ => rfl)) (pe_ix ix_tup (pv 12) pe_int (fun _ _ => rfl))))) pa_nil))) ip_add)))))
    (pss_one (ps_ret (pv 3)))))), ?_⟩
  have ro := ok.rows
  have o1 := ro.s0
  have o2 := ro.sg
  have o3 := ro.gB
  refine ⟨_, rfl, fun x1 dx1 nx ndx nxx => ?_⟩
  have s0 : Same H (upd (upd H dx1 (.own x1)) x1 (.ins (He.ga K "Rows") dx1 [])) := Same.upd1 (Same.upd1 (Same.refl H) ndx) (by rw [upd_ne (Ne.symm nxx)]; exact nx)
  refine ⟨x1, dx1, p, b, rfl, upd_same, hb.same s0, ok, fun H1 sb1 hR => ⟨rfl, ?_⟩⟩
  have s1 : Same H H1 := fun a o e => sb1 a o (s0 a o e) (ne_of_none e nx)
  clear s0 sb1
  refine ⟨_, rfl, fun x2 dx2 ny ndy nyy => ?_⟩
  have s0' : Same H1 (upd (upd H1 dx2 (.own x2)) x2 (.ins (He.ga K "Ties") dx2 [])) := Same.upd1 (Same.upd1 (Same.refl H1) ndy) (by rw [upd_ne (Ne.symm nyy)]; exact ny)
  refine ⟨x2, dx2, p, b, rfl, upd_same, (hb.same s1).same s0', ok, fun H2 pr pe El sb2 ht he npe => ⟨rfl, ?_⟩⟩
  have s2 : Same H1 H2 := fun a o e => sb2 a o (s0' a o e) (ne_of_none e ny)
  clear s0' sb2
  have s02 := s1.trans s2
  have hR2 := s2 _ _ hR
  have hg : GoodE (eldL El) := by
    rw [he]
    exact Bm.tiesE_good _ _
  have hEl : El.length ≤ 100 := by
    have h1 := Bm.tiesE_len b.rows b.rel
    have h2 := eld_len he
    have h3 : b.rel.length ≤ 100 := by
      simp only [BookD.rel, List.length_map]
      exact ok.sl
    omega
  have hEk : (eks (eldL El)).length = El.length := by simp [Bm.eks, eldL]
  refine ⟨fun σ' H' => σ' = [some (.ref p), some (.ref x1), some (.ref x2), some (.int (sm (zr b.rows.bound b.rows.small) fun R => longR b.rows R * hangR b.rows R)), none, none, none, none, none, none, none, none, none] ∧ Same H2 H', ?_, ?_⟩
  · refine ⟨_, rfl, _, _, _, rfl, hR2, lk_Rows_m_kinds, x1, b.rows, rfl, ⟨dx1, hR2⟩, ro, fun q H3 ks s3 hk okk => ?_⟩
    obtain ⟨es, q1, q2, q3⟩ := hk
    have hR3 := s3 _ _ hR2
    have esl : es.length ≤ 3 := by
      have := okk.len
      rw [← q3, List.length_map] at this
      exact this
    refine ⟨q, rfl, ⟨_, SqL.of q1⟩, fun D nD => ?_⟩
    refine lc_list (K := K) (a := q) (xs := es.map fun e => V.ref e.1) (fun i H' => Same H3 H' ∧ H' D = some (.lst (((es.take i).map fun e => e.2.2.1 * hangF b.rows e.2.1 e.2.2.1 * e.2.2.2).map V.int))) ⟨Same.new nD, upd_same⟩ (fun i H' _ z => SqL.of (z.1 _ _ q1)) ?_ ?_
    · rintro i y H' hy ⟨sm, hD⟩
      obtain ⟨e, hi, rfl⟩ : ∃ e, es[i]? = some e ∧ y = V.ref e.1 := by
        rw [List.getElem?_map] at hy
        cases z : es[i]? with
        | none => rw [z] at hy; cases hy
        | some e => rw [z] at hy; exact ⟨e, rfl, (Option.some.inj hy).symm⟩
      have hem := List.mem_of_getElem? hi
      have il := (List.getElem?_eq_some_iff.mp hi).1
      obtain ⟨⟨k0, k1⟩, ⟨l0, l1⟩, m0, m1⟩ := okk.bd e.2 (q3 ▸ List.mem_map.mpr ⟨e, hem, rfl⟩)
      have hb' := Bm.hangF_b ro k0 k1 (by omega : 0 ≤ e.2.2.1) l1
      have pb := prod_b (by omega : 0 ≤ e.2.2.1) (by omega : e.2.2.1 ≤ 10 ^ 30) hb'.1 hb'.2
      refine ⟨e.1, _, rfl, SqT.of (sm _ _ (q2 e hem)), rfl, _, _, rfl, _, _, rfl, _, _, rfl, rfl, rfl, _, rfl, _, rfl, _, _, _, rfl, sm _ _ hR3, lk_Rows_m_hanging, _, rfl, _, rfl, x1, b.rows, e.2.1, e.2.2.1, rfl, ⟨dx1, sm _ _ hR3⟩, ro, ⟨k0, by omega⟩, ⟨by omega, by omega⟩, _, _, rfl, rfl, wmul4 (by omega) (by omega) (by omega) (by omega), _, rfl, _, _, rfl, rfl, wmul4 (by omega) (by omega) (by omega) (by omega), _, hD, ?_, fun c0 o z => ?_, ?_⟩
      · rw [List.length_map, List.length_map, List.length_take, size16]
        omega
      · rw [upd_ne (ne_of_none z nD)]
        exact sm c0 o z
      · rw [upd_same, List.take_add_one, hi, List.map_append, List.map_append]
        rfl
    · rintro H4 ⟨s4, hD⟩
      rw [List.length_map, List.take_length] at hD
      refine ⟨D, _, rfl, SqL.of hD, ?_, s3.trans s4⟩
      have e1 : (es.map fun e => e.2.2.1 * hangF b.rows e.2.1 e.2.2.1 * e.2.2.2).sum = sm (zr b.rows.bound b.rows.small) fun R => longR b.rows R * hangR b.rows R := by
        rw [← okk.tot]
        unfold kSum
        rw [← q3, List.map_map]
        rfl
      rw [e1]
      rfl
  rintro σ1 H3 ⟨rfl, s3⟩
  have ht3 := ht.same s3
  have s03 := s02.trans s3
  clear hR hR2 s1 s2 s02 s3 ht nx ny
  have dt := ht3.el.dt
  have hT : ∃ T, T = eldL El := ⟨_, rfl⟩
  obtain ⟨T0, hT0⟩ := hT
  have eks_at : ∀ (i : Nat) (kk : List Key) (v : V), (elderKvs El)[i]? = some (kk, v) → ∃ m, (eks (eldL El))[i]? = some m ∧ kk = nameK m := fun i kk v hi => by
    unfold elderKvs at hi
    rw [List.getElem?_map] at hi
    cases e : El[i]? with
    | none => rw [e] at hi; cases hi
    | some x =>
      rw [e] at hi
      have hi := Option.some.inj hi
      refine ⟨x.1, ?_, (Prod.mk.inj hi).1.symm⟩
      show ((El.map fun e => (e.1, e.2.1)).map (·.1))[i]? = _
      rw [List.getElem?_map, List.getElem?_map, e]
      rfl
  have kvl : (elderKvs El).length = El.length := by unfold elderKvs; simp
  refine ⟨pe, _, dt, trivial, fun od => ?_⟩
  have ppe : x2 ≠ pe := ne_of ht3.ob dt (by intro z; cases z)
  have fz : ∀ {c : Addr} {o : HO}, H3 c = some o → c ≠ pe → (upd H3 pe (.frz od (.dT (elderKvs El)))) c = some o := fun e ne => by
    rw [upd_ne ne]
    exact e
  refine ⟨_, rfl, _, _, _, _, _, rfl, fz ht3.ob ppe, T.c_Ties, T.n_Ties_elder, lk_Ties_elder, pe, od, rfl, .inr ⟨_, upd_same, fun D nD => ?_⟩⟩
  refine dcT_it walk_keysT (fun i H' => ∃ hs : List Int, Same (upd H3 pe (.frz od (.dT (elderKvs El)))) H' ∧ H' D = some (.dT (hs.map fun x => (nameK x, V.bl true))) ∧ hs.Nodup ∧ hs.length ≤ i ∧ ∀ h, h ∈ hs ↔ ∃ k ∈ (eks (eldL El)).take i, headOf (eldL El) k = h)
    ⟨[], Same.new nD, upd_same, List.nodup_nil, Nat.le_refl _, fun h => by simp⟩ (fun i H' _ z => by obtain ⟨_, sm, _⟩ := z; exact sm _ _ upd_same) ?_ ?_
  · rintro i x H' H'' hi ⟨hs, sm, hD, hnd, hl, hmem⟩ ⟨rfl, kk, v, q, hi', rfl, hq⟩
    obtain ⟨m, hm, rfl⟩ := eks_at i kk v hi'
    have hqn : NameAt H'' q m := hq
    have nmE : ∀ x ∈ El, NameAt H'' x.2.2 x.2.1 := fun x hx => by
      have z := ht3.el.nm x hx
      exact sm _ _ (fz z (ne_of z dt (by intro z; cases z)))
    have et : (eks (eldL El)).take (i + 1) = (eks (eldL El)).take i ++ [m] := by rw [List.take_add_one, hm]; rfl
    refine ⟨rfl, _, rfl, _, _, _, rfl, sm _ _ (fz ht3.ob ppe), lk_Ties_m_head, _, rfl, x2, dx2, pr, pe, q, b, El, m, rfl, ⟨sm _ _ (fz ht3.ob ppe), .inr ⟨od, sm _ _ upd_same⟩, nmE⟩, hg, hqn, fun h2 m2 => ⟨_, nameK (headOf (eldL El) m), h2, rfl, m2, hD, ?_, ?_⟩⟩
    · rw [List.length_map, size16]
      rw [kvl] at hi
      omega
    · refine ⟨if headOf (eldL El) m ∈ hs then hs else hs ++ [headOf (eldL El) m], fun c0 o z => ?_, ?_, ?_, ?_, fun h => ?_⟩
      · rw [upd_ne (ne_of_none z nD)]
        exact sm _ _ z
      · rw [upd_same, put_heads]
      · by_cases c : headOf (eldL El) m ∈ hs
        · rw [if_pos c]
          exact hnd
        · rw [if_neg c]
          refine List.nodup_append.mpr ⟨hnd, by simp, fun a ha b' hb' e => ?_⟩
          rw [List.mem_singleton.mp hb'] at e
          exact c (e ▸ ha)
      · by_cases c : headOf (eldL El) m ∈ hs
        · rw [if_pos c]
          omega
        · rw [if_neg c, List.length_append]
          show hs.length + 1 ≤ i + 1
          omega
      · rw [et]
        constructor
        · intro hh
          have : h ∈ hs ∨ h = headOf (eldL El) m := by
            by_cases c : headOf (eldL El) m ∈ hs
            · rw [if_pos c] at hh
              exact .inl hh
            · rw [if_neg c] at hh
              rcases List.mem_append.mp hh with z | z
              · exact .inl z
              · exact .inr (List.mem_singleton.mp z)
          rcases this with z | z
          · obtain ⟨k, hk, ek⟩ := (hmem h).mp z
            exact ⟨k, List.mem_append_left _ hk, ek⟩
          · exact ⟨m, List.mem_append_right _ (List.mem_singleton.mpr rfl), z.symm⟩
        · rintro ⟨k, hk, ek⟩
          have : h ∈ hs ∨ h = headOf (eldL El) m := by
            rcases List.mem_append.mp hk with z | z
            · exact .inl ((hmem h).mpr ⟨k, z, ek⟩)
            · rw [List.mem_singleton.mp z] at ek
              exact .inr ek.symm
          by_cases c : headOf (eldL El) m ∈ hs
          · rw [if_pos c]
            rcases this with z | z
            · exact z
            · rw [z]
              exact c
          · rw [if_neg c]
            rcases this with z | z
            · exact List.mem_append_left _ z
            · exact List.mem_append_right _ (List.mem_singleton.mpr z)
  rintro H' ⟨hs, sm, hD, hnd, hl, hmem⟩
  rw [kvl, List.take_of_length_le (by omega)] at hmem
  rw [kvl] at hl
  refine ⟨sm _ _ upd_same, ?_⟩
  have npe : D ≠ pe := fun z => by
    rw [z, upd_same] at nD
    cases nD
  have nD3 : H3 D = none := by
    rw [upd_ne npe] at nD
    exact nD
  have hD2 : (upd H' pe (.dT (elderKvs El))) D = some (.dT (hs.map fun x => (nameK x, V.bl true))) := by
    rw [upd_ne npe]
    exact hD
  refine ⟨D, _, rfl, hD2, trivial, fun od2 => ?_⟩
  have sU : Same H3 (upd (upd H' pe (.dT (elderKvs El))) D (.frz od2 (.dT (hs.map fun x => (nameK x, V.bl true))))) := fun c o e => by
    rw [upd_ne (ne_of_none e nD3)]
    by_cases z : c = pe
    · rw [z] at e ⊢
      rw [upd_same, ← dt, e]
    · rw [upd_ne z]
      exact sm _ _ (fz e z)
  have hDf := @upd_same (upd H' pe (.dT (elderKvs El))) D (.frz od2 (.dT (hs.map fun x => (nameK x, V.bl true))))
  refine ⟨D, od2, rfl, .inr ⟨_, hDf, ?_⟩⟩
  generalize upd (upd H' pe (.dT (elderKvs El))) D (.frz od2 (.dT (hs.map fun x => (nameK x, V.bl true)))) = H4 at sU hDf ⊢
  have s04 := s03.trans sU
  have ht4 := ht3.same sU
  clear sm hD nD npe nD3 hD2 dt fz ppe ht3 s03
  have heads : ∀ h ∈ hs, headOf (eldL El) h = h := fun h hh => by
    obtain ⟨k, _, ek⟩ := (hmem h).mp hh
    rw [← ek]
    exact Bm.headOf_self hg (Bm.headOf_not hg k)
  have lnames : ∀ h ∈ hs, ∀ m ∈ lotH (eldL El) h, IsName b.rows m := fun h hh m hm => by
    rcases List.mem_cons.mp hm with z | z
    · subst z
      obtain ⟨k, hk, ek⟩ := (hmem m).mp hh
      rw [he] at hk ek
      rw [← ek]
      exact (Bm.key_name ro hk).2
    · have z := (List.mem_filter.mp z).1
      rw [he] at z
      exact (Bm.key_name ro z).1
  have lotl : ∀ h, (lotH (eldL El) h).length ≤ 101 := fun h => by
    unfold lotH
    rw [List.length_cons]
    have := List.length_filter_le (fun m => decide (headOf (eldL El) m = h)) (eks (eldL El))
    omega
  have hsl : (hs.map fun x => (nameK x, V.bl true)).length = hs.length := List.length_map _
  refine for_it walk_keysT (fun i σ H' => ∃ (v4 v5 v6 v7 : Option V), σ = [some (.ref p), some (.ref x1), some (.ref x2), some (.int ((sm (zr b.rows.bound b.rows.small) fun R => longR b.rows R * hangR b.rows R) + sm (hs.take i) fun h => sm (lotH (eldL El) h) (longN b.rows) * sm (lotH (eldL El) h) (hangN b.rows) - sm (lotH (eldL El) h) fun n => longN b.rows n * hangN b.rows n)), v4, v5, v6, v7, none, none, none, none, none] ∧ Same H4 H')
    ⟨none, none, none, none, by rw [List.take_zero, Bm.sm_nil, Int.add_zero], Same.refl _⟩ (fun i σ H' _ z => by obtain ⟨_, _, _, _, _, sm⟩ := z; exact sm _ _ hDf) ?_ ?_
  · rintro i x σ H' H'' hi ⟨v4, v5, v6, v7, rfl, sm⟩ ⟨rfl, kk, v, q, hi', rfl, hq⟩
    obtain ⟨hh, hhi, rfl⟩ : ∃ hh, hs[i]? = some hh ∧ kk = nameK hh := by
      rw [List.getElem?_map] at hi'
      cases z : hs[i]? with
      | none => rw [z] at hi'; cases hi'
      | some e => rw [z] at hi'; exact ⟨e, rfl, ((Prod.mk.inj (Option.some.inj hi')).1).symm⟩
    have hhm := List.mem_of_getElem? hhi
    have hself := heads hh hhm
    have hqn : NameAt H'' q hh := hq
    have ht5 := ht4.same sm
    have ll := lotl hh
    have lnm := lnames hh hhm
    have et : hs.take (i + 1) = hs.take i ++ [hh] := by rw [List.take_add_one, hhi]; rfl
    rw [et, Bm.sm_app, Bm.sm_cons, Bm.sm_nil, Int.add_zero, ← Int.add_assoc]
    generalize ((Bm.sm (zr b.rows.bound b.rows.small) fun R => longR b.rows R * hangR b.rows R) + Bm.sm (hs.take i) fun h => Bm.sm (lotH (eldL El) h) (longN b.rows) * Bm.sm (lotH (eldL El) h) (hangN b.rows) - Bm.sm (lotH (eldL El) h) fun n => longN b.rows n * hangN b.rows n) = S
    have eL : (headOf (eldL El) hh :: (eks (eldL El)).filter fun m => decide (headOf (eldL El) m = headOf (eldL El) hh)) = lotH (eldL El) hh := by
      rw [hself]
      rfl
    generalize lotH (eldL El) hh = L at eL ll lnm ⊢
    have at_es : ∀ {i : Nat} {y : V} {α : Type} {fs : List (Addr × α)}, (fs.map fun e => V.ref e.1)[i]? = some y → ∃ e, fs[i]? = some e ∧ y = V.ref e.1 := fun {i y α fs} hy => by
      rw [List.getElem?_map] at hy
      cases z : fs[i]? with
      | none => rw [z] at hy; cases hy
      | some e => rw [z] at hy; exact ⟨e, rfl, (Option.some.inj hy).symm⟩
    refine ⟨fun σ' G => ∃ (D5 : Addr) (fs : List (Addr × (Int × Int))), σ' = [some (.ref p), some (.ref x1), some (.ref x2), some (.int S), some (.ref q), some (.ref D5), v6, v7, none, none, none, none, none] ∧ Same H'' G ∧ G D5 = some (.lst (fs.map fun e => V.ref e.1)) ∧ (∀ e ∈ fs, G e.1 = some (.tup [.int e.2.1, .int e.2.2])) ∧
      fs.map (·.2) = L.map fun m => (longN b.rows m, hangN b.rows m), ?_, ?_⟩
    · refine ⟨_, rfl, _, _, _, rfl, ht5.ob, lk_Ties_m_names_with, _, rfl, x2, dx2, pr, pe, q, b, El, hh, rfl, ht5, hg, by omega, hqn, fun q5 H5 s5 hq5 => ?_⟩
      rw [eL] at hq5
      obtain ⟨es, q1, q2, q3⟩ := hq5
      have ht6 := ht5.same s5
      have eLen : es.length ≤ 101 := by
        rw [← q3, List.length_map] at ll
        exact ll
      refine ⟨q5, rfl, ⟨_, SqL.of q1⟩, fun D5 nD5 => ?_⟩
      refine lc_list (K := K) (a := q5) (xs := es.map fun e => V.ref e.1) (fun i G => ∃ fs : List (Addr × (Int × Int)), Same H5 G ∧ G D5 = some (.lst (fs.map fun e => V.ref e.1)) ∧ (∀ e ∈ fs, G e.1 = some (.tup [.int e.2.1, .int e.2.2])) ∧ fs.map (·.2) = ((es.take i).map fun e => (longN b.rows e.2, hangN b.rows e.2)))
        ⟨[], Same.new nD5, upd_same, fun e he => (by cases he), rfl⟩ (fun i G _ z => by obtain ⟨_, sm, _⟩ := z; exact SqL.of (sm _ _ q1)) ?_ ?_
      · rintro j y G hy ⟨fs, sg, hD5, hf, ef⟩
        obtain ⟨e, hj, rfl⟩ := at_es hy
        have hem := List.mem_of_getElem? hj
        have jl := (List.getElem?_eq_some_iff.mp hj).1
        have fl : fs.length ≤ j := by
          have := congrArg List.length ef
          rw [List.length_map, List.length_map, List.length_take] at this
          omega
        refine ⟨rfl, _, rfl, _, _, _, rfl, sg _ _ ht6.ob, lk_Ties_m_size, _, rfl, x2, dx2, pr, pe, e.1, b, El, e.2, rfl, ht6.same sg, ok, sg _ _ (q2 e hem), lnm e.2 (q3 ▸ List.mem_map.mpr ⟨e, hem, rfl⟩), fun t G6 s6 h6 => ⟨_, s6 _ _ hD5, ?_, fs ++ [(t, (longN b.rows e.2, hangN b.rows e.2))], fun c0 o z => ?_, ?_, fun e' he' => ?_, ?_⟩⟩
        · rw [List.length_map, size16]
          omega
        · rw [upd_ne (ne_of_none z nD5)]
          exact s6 _ _ (sg c0 o z)
        · rw [upd_same, List.map_append]
          rfl
        · have hD6 := s6 _ _ hD5
          rcases List.mem_append.mp he' with he' | he'
          · have z := s6 _ _ (hf e' he')
            rw [upd_ne (ne_of z hD6 (by intro z; cases z))]
            exact z
          · rw [List.mem_singleton.mp he', upd_ne (ne_of h6 hD6 (by intro z; cases z))]
            exact h6
        · rw [List.map_append, ef, List.take_add_one, hj, List.map_append]
          rfl
      · rintro G ⟨fs, sg, hD5, hf, ef⟩
        rw [List.length_map, List.take_length] at ef
        refine ⟨D5, fs, rfl, s5.trans sg, hD5, hf, ?_⟩
        rw [ef, ← q3, List.map_map]
        rfl
    rintro σ2 G ⟨D5, fs, rfl, sg, hD5, hf, ef⟩
    have fl : fs.length ≤ 101 := by
      have := congrArg List.length ef
      rw [List.length_map, List.length_map] at this
      omega
    have e1 : (fs.map fun e => e.2.1) = L.map (longN b.rows) := by
      have := congrArg (List.map (·.1)) ef
      rw [List.map_map, List.map_map] at this
      exact this
    have e2 : (fs.map fun e => e.2.2) = L.map (hangN b.rows) := by
      have := congrArg (List.map (·.2)) ef
      rw [List.map_map, List.map_map] at this
      exact this
    have e3 : (fs.map fun e => e.2.1 * e.2.2) = L.map fun n => longN b.rows n * hangN b.rows n := by
      have := congrArg (List.map fun z : Int × Int => z.1 * z.2) ef
      rw [List.map_map, List.map_map] at this
      exact this
    have fb : ∀ e ∈ fs, (0 ≤ e.2.1 ∧ e.2.1 ≤ 10 ^ 30) ∧ (0 ≤ e.2.2 ∧ e.2.2 ≤ 3 * 10 ^ 30) := fun e he => by
      have : e.2 ∈ fs.map (·.2) := List.mem_map.mpr ⟨e, he, rfl⟩
      rw [ef] at this
      obtain ⟨m, _, em⟩ := List.mem_map.mp this
      rw [← em]
      exact ⟨Bm.longN_b ro m, Bm.hangN_b ro m⟩
    have b1 := Bm.sm_bd (l := L) (f := longN b.rows) (B := 10 ^ 30) fun m _ => Bm.longN_b ro m
    have b2 := Bm.sm_bd (l := L) (f := hangN b.rows) (B := 3 * 10 ^ 30) fun m _ => Bm.hangN_b ro m
    refine ⟨_, rfl, D5, rfl, ⟨_, SqL.of hD5⟩, fun E1 nE1 => ?_⟩
    refine lc_list (K := K) (a := D5) (xs := fs.map fun e => V.ref e.1) (fun i G' => Same G G' ∧ G' E1 = some (.lst (((fs.take i).map fun e => e.2.1).map V.int))) ⟨Same.new nE1, upd_same⟩ (fun i G' _ z => SqL.of (z.1 _ _ hD5)) ?_ ?_
    · rintro j y G' hy ⟨sm', hE⟩
      obtain ⟨e, hj, rfl⟩ := at_es hy
      have hem := List.mem_of_getElem? hj
      refine ⟨rfl, _, rfl, e.1, _, _, _, rfl, rfl, SqT.of (sm' _ _ (hf e hem)), atI_nat (j := 0) rfl, _, hE, ?_, fun c0 o z => ?_, ?_⟩
      · rw [List.length_map, List.length_map, List.length_take, size16]
        omega
      · rw [upd_ne (ne_of_none z nE1)]
        exact sm' c0 o z
      · rw [upd_same, List.take_add_one, hj, List.map_append, List.map_append]
        rfl
    rintro G1 ⟨sg1, hE1⟩
    rw [List.length_map, List.take_length, e1] at hE1
    have hD51 := sg1 _ _ hD5
    refine ⟨E1, _, rfl, SqL.of hE1, ?_⟩
    refine ⟨_, rfl, D5, rfl, ⟨_, SqL.of hD51⟩, fun E2 nE2 => ?_⟩
    refine lc_list (K := K) (a := D5) (xs := fs.map fun e => V.ref e.1) (fun i G' => Same G1 G' ∧ G' E2 = some (.lst (((fs.take i).map fun e => e.2.2).map V.int))) ⟨Same.new nE2, upd_same⟩ (fun i G' _ z => SqL.of (z.1 _ _ hD51)) ?_ ?_
    · rintro j y G' hy ⟨sm', hE⟩
      obtain ⟨e, hj, rfl⟩ := at_es hy
      have hem := List.mem_of_getElem? hj
      refine ⟨rfl, _, rfl, e.1, _, _, _, rfl, rfl, SqT.of (sm' _ _ (sg1 _ _ (hf e hem))), atI_nat (j := 1) rfl, _, hE, ?_, fun c0 o z => ?_, ?_⟩
      · rw [List.length_map, List.length_map, List.length_take, size16]
        omega
      · rw [upd_ne (ne_of_none z nE2)]
        exact sm' c0 o z
      · rw [upd_same, List.take_add_one, hj, List.map_append, List.map_append]
        rfl
    rintro G2 ⟨sg2, hE2⟩
    rw [List.length_map, List.take_length, e2] at hE2
    have hD52 := sg2 _ _ hD51
    refine ⟨E2, _, rfl, SqL.of hE2, _, _, rfl, ?_⟩
    refine ⟨_, rfl, _, rfl, _, rfl, _, _, rfl, rfl, wmul4 (by show _ < Bm.sm L (longN b.rows); omega) (by show Bm.sm L (longN b.rows) < _; omega) (by show _ < Bm.sm L (hangN b.rows); omega) (by show Bm.sm L (hangN b.rows) < _; omega), ?_⟩
    refine ⟨_, rfl, D5, rfl, ⟨_, SqL.of hD52⟩, fun E3 nE3 => ?_⟩
    refine lc_list (K := K) (a := D5) (xs := fs.map fun e => V.ref e.1) (fun i G' => Same G2 G' ∧ G' E3 = some (.lst (((fs.take i).map fun e => e.2.1 * e.2.2).map V.int))) ⟨Same.new nE3, upd_same⟩ (fun i G' _ z => SqL.of (z.1 _ _ hD52)) ?_ ?_
    · rintro j y G' hy ⟨sm', hE⟩
      obtain ⟨e, hj, rfl⟩ := at_es hy
      have hem := List.mem_of_getElem? hj
      have fbe := fb e hem
      have ht' := SqT.of (K := K) (sm' _ _ (sg2 _ _ (sg1 _ _ (hf e hem))))
      refine ⟨rfl, _, rfl, e.1, _, _, .int e.2.1, rfl, rfl, ht', atI_nat (j := 0) rfl, _, rfl, e.1, _, _, .int e.2.2, rfl, rfl, ht', atI_nat (j := 1) rfl, _, _, rfl, rfl, wmul4 (by omega) (by omega) (by omega) (by omega), _, hE, ?_, fun c0 o z => ?_, ?_⟩
      · rw [List.length_map, List.length_map, List.length_take, size16]
        omega
      · rw [upd_ne (ne_of_none z nE3)]
        exact sm' c0 o z
      · rw [upd_same, List.take_add_one, hj, List.map_append, List.map_append]
        rfl
    rintro G3 ⟨sg3, hE3⟩
    rw [List.length_map, List.take_length, e3] at hE3
    refine ⟨E3, _, rfl, SqL.of hE3, _, _, rfl, rfl, _, _, rfl, rfl, ?_⟩
    exact ⟨_, _, _, _, rfl, ((((sm.trans sg).trans sg1).trans sg2).trans sg3)⟩
  · rintro σ H' ⟨v4, v5, v6, v7, rfl, sm⟩
    rw [hsl, List.take_length]
    refine ⟨_, rfl, ?_⟩
    have cp := Bm.count_pairs ro (ss := b.rel) hnd (by rw [← he]; exact hmem)
    unfold countH at cp
    rw [he, cp]
    exact h H' (s04.trans sm)
end
end Bt
namespace Bt
open PySem PySem.Spec PyProof.Rows L2
/-! ### for at in range(a, b), of numbers of any size -/
theorem turn_long {P : Program} {w : World} {K : PySem.W.Frag} {tg : Expr} (it : Addr) (lo : Int) (n : Nat) : Turn P w K tg (Itr lo n) [it] it (fun i h => IsLongIter h it (lo + (i : Nat) * 1) ((n : Int) - (i : Nat)) 1) := by
  refine ⟨List.mem_singleton.mpr rfl, fun i h st b hb => ?_, fun i h h' st kp => kp it (List.mem_singleton.mpr rfl) _ st, ?_, ?_, fun _ _ _ _ _ st q => wpAny_pyIter_longiter st q⟩
  · cases List.mem_singleton.mp hb
    exact ⟨_, st, fun v z => by
      have z' : Data.fields _ = Data.cell v := z
      cases z'⟩
  · intro X hP hw hK calm i pins s σ H E I own st go
    subst hP hw hK
    have W := Walks.longrange (prog := X.prog) (w := X.w) (I.ok.hd calm) it lo 1 n
    obtain ⟨f0, f1, f2, f3, f4, f5⟩ := own it (List.mem_singleton.mpr rfl)
    refine W.item i s _ _ go st fun v hp tk val st' same => ?_
    obtain ⟨t, rfl⟩ := val
    have I1 : Inv X pins σ H { s with heap := hp, toks := tk } := I.turned (fun b o hb e => same b o (fun z => hb (List.mem_singleton.mp z)) e) f0 f1 f3 f4 f5
    refine ⟨_, rfl, go_of (s := { s with heap := hp, toks := tk }) (n := "longrange_iterator") st' rfl rfl (by decide) ⟨.int (lo + i), H, I1, ⟨t, ?_⟩, ⟨rfl, rfl⟩, st', fun b hb => (own b hb).1⟩⟩
    rw [Int.mul_one]
  · intro X hP hw hK calm i pins s σ H E I own st stop
    subst hP hw hK
    obtain ⟨f0, f1, f2, f3, f4, f5⟩ := own it (List.mem_singleton.mpr rfl)
    have e : n ≤ i := stop
    exact wpAny_pyNext_long_end (I.ok.hd calm) st (by omega) fun hp ext => ⟨rfl, I.turned (t' := s.toks) (fun b o hb e => ext b o hb e) f0 f1 f3 f4 f5⟩
section
variable {X : Cx} {tg : Expr}
theorem range_any {pins : List (Addr × Obj)} {σ : L2.St} {H : Hp} {s : Shared} {R : It → Hp → Prop} {E : Value → Shared → Prop} {lo hi : Int} {t u v : Tok} {tk : Nat} (I : Inv X pins σ H s) (q : R (Itr lo (hi - lo).toNat) H) :
    wpAny (model X.prog X.w) X.A (pyIter (.ref s.heap.objs.size)) (PIE X pins σ tg R) E { s with heap := s.heap.push { cls := .type "range", data := .fields #[.int lo t, .int hi u, .int 1 v] }, toks := tk } := by
  have I1 : Inv X pins σ H { s with heap := s.heap.push { cls := .type "range", data := .fields #[.int lo t, .int hi u, .int 1 v] }, toks := tk } := I.kept fun b o e => Heap.get?_push_of_some _ e
  have fin : ∀ (it : Addr), it = (s.heap.push { cls := .type "range", data := .fields #[.int lo t, .int hi u, .int 1 v] }).objs.size → ∀ b ∈ [it], FpOk X pins H b := fun it e b hb => by
    cases List.mem_singleton.mp hb
    subst e
    exact I1.fpOk (Nat.le_refl _) (I1.hok.fresh (Nat.le_refl _))
  have e1 : lo + ((0 : Nat) : Int) * 1 = lo := by simp
  have e2 : (((hi - lo).toNat : Nat) : Int) - ((0 : Nat) : Int) = Builtin.Range.rangeSize lo hi 1 := by
    rw [rangeSize_one]
    split <;> omega
  cases c : Builtin.Range.small lo hi 1 with
  | true =>
    refine wpAny_pyIter_range (IsRange.new ..) c ⟨_, [_], _, _, H, rfl, I1.kept (t' := tk) fun b o e => Heap.get?_push_of_some _ e, turn_range _ lo (hi - lo).toNat, ?_, fin _ rfl, q⟩
    show IsRangeIter _ _ (lo + ((0 : Nat) : Int) * 1) ((((hi - lo).toNat : Nat) : Int) - ((0 : Nat) : Int)) 1
    rw [e1, e2]
    exact Heap.get?_push_size _ rfl
  | false =>
    refine wpAny_pyIter_longrange (IsRange.new ..) c ⟨_, [_], _, _, H, rfl, I1.kept (t' := tk) fun b o e => Heap.get?_push_of_some _ e, turn_long _ lo (hi - lo).toNat, ?_, fin _ rfl, q⟩
    show IsLongIter _ _ (lo + ((0 : Nat) : Int) * 1) ((((hi - lo).toNat : Nat) : Int) - ((0 : Nat) : Int)) 1
    rw [e1, e2]
    exact Heap.get?_push_size _ rfl
def iRngW (ta : TA) : TI := fun σ H R => ta σ H fun vs H1 => ∃ i j : Int, vs = [.int i, .int j] ∧ R (Itr i (j - i).toNat) H1
theorem pi_rangeW {a b : Expr} {ta : TA} {p pos : Pos} (hg : Gl X "range") (hm : X.mg "range" = none) (ha : PA X [a, b] ta) (hs : starEach [a, b] X.env = [(false, eval a X.env), (false, eval b X.env)] := by rfl) (hs2 : starEach [b] X.env = [(false, eval b X.env)] := by rfl) :
    PI X tg (.Call (.Name "range" p) [a, b] [] pos) (iRngW ta) := by
  refine ⟨fun pins s σ H R I read => Call_ (ld_blt I hg hm boot_range (PyProof.Rows.callWith_type1 (thn (ha.run pos pins s σ H _ I read) fun us s1 z => ?_) (by rw [hs, hs2]) (by rw [hs2]; rfl)))⟩
  obtain ⟨vs, H1, I1, rel, i, j, e, q⟩ := z
  subst e
  match us, rel with
  | [_, _], .cons r (.cons r' .nil) =>
    obtain ⟨t, rfl⟩ := r
    obtain ⟨t', rfl⟩ := r'
    exact call_range_2 (range_any I1 q)
end
end Bt
namespace Bt
open PySem PySem.Spec PyProof.Rows L2
/-! ### sorted(set of ints), of any length that a set of ours has -/
section
variable {P : Program} {w : World} {A : Around} {E : Value → Shared → Prop} {s : Shared} {a : Addr}
theorem sorted_setI {S : Int → Bool} {n : Nat} {Q : Value → Shared → Prop} (R : SetR w s.heap a S n) (free : A.handled = none) (few : n ≤ 4000)
    (next : ∀ s' p (out : Array Value) (c : Nat) (ns : List Int), (∀ b o, s.heap.get? b = some o → s'.heap.get? b = some o) → s'.gens = s.gens → s'.os = s.os → s.heap.objs.size ≤ p →
      s'.heap.get? p = some (seqObj "list" out c) → IntsAre out.toList ns → ns.Pairwise (· < ·) → (∀ k, k ∈ ns ↔ S k = true) → ns.length = n → Q (.ref p) s') :
    wpAny (model P w) A (call (.builtin "sorted") [.ref a]) Q E s := by
  obtain ⟨o, es, ep, t, ho, hex, hd, g, nd, hm, hb, hf, hn, hr, hl⟩ := R
  refine Calls.call_function_entry kind_sorted plain_sorted entry_sorted (args_sorted1 _) ?_
  unfold Builtin.«sorted»
  refine wpAny_bind (m := checkCount "sorted" 1 1 _) (wpAny_pure (wpAny_bind (collect_set (A := A.in1) free ⟨o, ho, hex.1, hd⟩ hf hb hr hl fun s1 vs k1 hz g1 o1 pm => ?_)))
  have many : vs.length = n := (pm.length_eq.trans (List.length_map _)).trans ((Array.length_toList).trans hn)
  have hin : IntsAre vs (vs.map Builtin.Re.reRawOf) := ints_of vs fun v hv => by
    obtain ⟨e, he, q⟩ := List.mem_map.mp (pm.mem_iff.mp hv)
    obtain ⟨k, tk, h1, _⟩ := g e he
    exact ⟨k, tk, q ▸ h1⟩
  have same : (vs.map Builtin.Re.reRawOf).Perm (es.toList.map keyOf) := by
    have := pm.map Builtin.Re.reRawOf
    rw [List.map_map] at this
    exact this
  have room : vs.length ≤ sizeLine := by rw [many, sizeLine_eq]; omega
  refine wpAny_bind (wpAny_newList ?_ room)
  have at_ : (s1.heap.push (seqObj "list" vs.toArray 0)).get? s1.heap.objs.size = some (seqObj "list" vs.toArray 0) := Heap.get?_push_size _ rfl
  refine wpAny_bind (wpAny_holding (wpAny_call_entry slot_list_sort ⟨_, at_, rfl⟩ entry_list_sort (SrtO.list_sort_ord SrtO.swo_int at_ room (fun h2 => SrtO.ints_sortable hin h2) fun out r1 r2 => ⟨.none, rfl, ?_⟩) (args_list_sort _)))
  obtain ⟨i1, i2, i3⟩ := SrtO.ints_out hin r1 r2
  obtain ⟨c, hc⟩ := sortedHeap_at (vs := vs) (out := out.toArray) at_
  have pn := i2.trans same
  refine wpAny_pure ⟨_, rfl, next _ s1.heap.objs.size out.toArray c (out.map SrtO.iv) (fun b u e => ?_) g1 o1 hz hc i1 (lt_of_le_nodup _ i3 (pn.nodup_iff.mpr nd)) (fun k => by rw [pn.mem_iff, ← hm k]) (pn.length_eq.trans ((List.length_map _).trans ((Array.length_toList).trans hn)))⟩
  have old := k1 b u e
  have lt := Heap.lt_size old
  show (sortedHeap (s1.heap.push (seqObj "list" vs.toArray 0)) s1.heap.objs.size vs out.toArray).get? b = some u
  rw [sortedHeap_old (Nat.ne_of_lt lt) (by rw [size_push']; exact Nat.lt_succ_of_lt lt)]
  exact Heap.get?_push_of_some _ old
end
def rSortedSetI (w : World) : List V → Hp → VK → Prop := fun vs H Q => ∃ (a : Addr) (S : Int → Bool) (n : Nat), vs = [V.ref a] ∧ H a = some (SetO w a S n) ∧ n ≤ 4000 ∧
  ∀ (ns : List Int) (p : Addr), ns.Pairwise (· < ·) → (∀ k : Int, k ∈ ns ↔ S k = true) → ns.length = n → H p = none → Q (.ref p) (upd H p (.lst (ns.map V.int)))
theorem cr_sortedSetI {X : Cx} (calm : X.calm = true) : CallR X (.builtin "sorted") (rSortedSetI X.w) := by
  intro pins s σ H vs us Q I r h
  obtain ⟨a, S, n, rfl, ha, few, q⟩ := h
  rw [Vals.ref1 r]
  refine sorted_setI (setO_get I ha) (I.ok.hd calm) few fun s' p out c ns kp gen os hp hg hi hs hm hl => ?_
  have size : (ns.map V.int).length ≤ sizeLine := by
    rw [List.length_map, hl, sizeLine_eq]
    omega
  have fresh : H p = none := I.hok.fresh hp
  have J : Inv X pins σ (upd H p (.lst (ns.map V.int))) { s with heap := s'.heap, gens := s'.gens, drawn := s'.drawn, toks := s'.toks } :=
    I.call (ch := []) (Un.laid kp hp fresh) (I.hok.laid kp hp ⟨size, out.toList, c, vals_of_ints hi, hg⟩) (gen ▸ I.bare) (fun _ z => nomatch z)
  have e : { s with heap := s'.heap, gens := s'.gens, drawn := s'.drawn, toks := s'.toks } = s' := by
    cases s; cases s'; cases os
    rfl
  exact ⟨.ref p, _, e ▸ J, rfl, q ns p hs hm hl fresh⟩
end Bt
namespace Bt
open PySem PySem.Spec PyProof.Rows L2
open Bm (endOf headOf GoodE Eld eks tieE tiesE rowS rowG MendOk)
theorem roundN_eq {a b : Int} (ha : 1 ≤ a) (hb : 1 ≤ b) : roundN a b = a * (b / ((Int.gcd a b : Nat) : Int)) ∧ roundN a b = min a b * (max a b / ((Int.gcd a b : Nat) : Int)) := by
  have g0 : 0 < ((Int.gcd a b : Nat) : Int) := by
    have : 0 < Int.gcd a b := Int.gcd_pos_of_ne_zero_left _ (by omega)
    omega
  have d1 : ((Int.gcd a b : Nat) : Int) ∣ a := Int.gcd_dvd_left ..
  have d2 : ((Int.gcd a b : Nat) : Int) ∣ b := Int.gcd_dvd_right ..
  have e : roundN a b = a * (b / ((Int.gcd a b : Nat) : Int)) := by
    unfold roundN
    have h1 := Int.mul_ediv_cancel' d2
    have h2 := Int.mul_ediv_cancel' d1
    generalize ((Int.gcd a b : Nat) : Int) = g at *
    calc a / g * b = a / g * (g * (b / g)) := by rw [h1]
      _ = (g * (a / g)) * (b / g) := by rw [← Int.mul_assoc, Int.mul_comm (a / g) g]
      _ = a * (b / g) := by rw [h2]
  refine ⟨e, ?_⟩
  rcases Int.le_total a b with c | c
  · rw [Int.min_eq_left c, Int.max_eq_right c, e]
  · rw [Int.min_eq_right c, Int.max_eq_left c]
    unfold roundN
    rw [Int.mul_comm]
theorem roundN_pos {a b : Int} (ha : 1 ≤ a) (hb : 1 ≤ b) : 0 < roundN a b := by
  rw [(roundN_eq ha hb).1]
  have g0 : 0 < ((Int.gcd a b : Nat) : Int) := by
    have : 0 < Int.gcd a b := Int.gcd_pos_of_ne_zero_left _ (by omega)
    omega
  have d2 : ((Int.gcd a b : Nat) : Int) ∣ b := Int.gcd_dvd_right ..
  exact Int.mul_pos (by omega) (Int.ediv_pos_of_pos_of_dvd (by omega) (by omega) d2)
theorem TiesAt.lst {K : PySem.W.Frag} {H : Hp} {p dx pr pe q : Addr} {b : BookD} {E : ElderA} {xs ys : List V} (h : TiesAt K H p dx pr pe b E) (hq : H q = some (.lst xs)) : TiesAt K (upd H q (.lst ys)) p dx pr pe b E := by
  have ne : ∀ {c : Addr} {o : HO}, H c = some o → (∀ zs, o ≠ .lst zs) → (upd H q (.lst ys)) c = some o := fun {c o} e n => by
    rw [upd_ne (ne_of e hq (n xs))]
    exact e
  obtain ⟨h1, ⟨dxr, h2⟩, h3, h4⟩ := h
  exact ⟨ne h1 (fun _ z => by cases z), ⟨dxr, ne h2 (fun _ z => by cases z)⟩, ne h3 (fun _ z => by cases z), fun x hx => ne (h4 x hx) (fun _ z => by cases z)⟩
/-- where the stretch ends -/
noncomputable def enoughN (b : BookD) : Int := b.rows.small + b.rows.great - b.rows.shared
section
variable {P : Program} {w : World} {K : PySem.W.Frag} {mg : Str → Option Value} {base : Heap}
theorem stretch_lo {b : BookD} (ok : BookOk b) : ∀ t, 0 ≤ t → t < min b.many (enoughN b) → (0 ≤ t ∧ t < b.rows.hung) ∨ (b.rows.great ≤ t ∧ t < b.rows.great + b.rows.bound) := by
  intro t t0 t1
  obtain ⟨o1, o2, p1, p2, _⟩ := ok
  have e1 : enoughN b = min b.one b.other + max b.one b.other - ((Int.gcd b.one b.other : Nat) : Int) := rfl
  have e2 : b.rows.bound = max 0 (min b.many (min b.one b.other + max b.one b.other - ((Int.gcd b.one b.other : Nat) : Int)) - max b.one b.other) := rfl
  have e3 : b.rows.hung = min (min b.many (min b.one b.other + max b.one b.other - ((Int.gcd b.one b.other : Nat) : Int))) (max b.one b.other) := rfl
  have e4 : b.rows.great = max b.one b.other := rfl
  rw [e1] at t1
  rw [e2, e3, e4]
  omega
def spMending (K : PySem.W.Frag) : Sp := fun vs H Q _ => ∃ (p : Addr) (b : BookD), vs = [.ref p] ∧ BookAt K H p b ∧ BookOk b ∧ lotsN b - b.rows.shared + (b.singles.length : Nat) ≤ 100 ∧ enoughN b - min b.many (enoughN b) ≤ 200 ∧
  ∀ (q : Addr) (H' : Hp) (F told : List Int), Same H H' → MendOk b.rows b.rel (min b.many (enoughN b)) (enoughN b) F → told.Perm (F.map fun t => (b.begin_ + t) % roundN b.one b.other) → told.Pairwise (· ≤ ·) → H' q = some (.lst (told.map V.int)) → H q = none → Q (.ref q) H'
theorem c_mending (T : Env K mg) : Cal P w K mg base 11 (He.fAd K D_mending.at_) ["book"] (spMending K) := by
  obtain ⟨fd, F⟩ := T.d_mending
  have sc : FnScope ["book", "ties", "enough", "found", "at", "small", "great"] ["book"] (defScope S_mending) := ⟨rfl, rfl, rfl, by decide +kernel, rfl, by decide +kernel, by decide +kernel⟩
  refine mkCal F sc (fun _ _ _ _ _ _ us hl => match us, hl with | [_], _ => rfl) (fun vs H Q E h => by obtain ⟨a, b, rfl, _⟩ := h; rfl) (fun cdv A outer s H vs Q E hr h => ?_)
  obtain ⟨p, b, rfl, hb, ok, hf, hn, h⟩ := h
  have hr1 : Room 1 _ := hr.mono (by decide)
  have hr2 : Room 2 _ := hr.mono (by decide)
  have hr7 : Room 7 _ := hr.mono (by decide)
  have hr8 : Room 9 _ := hr.mono (by decide)
  refine ⟨_, pss_cons (ps_if (pt_cmpR op_gt (pe_op op_add (pe_c (c_fewest T) hr T.g_fewest (pa_cons (pv 0) pa_nil)) (pe_callB call_len rfl T.b_len (by decide +kernel) (pa_cons (pe_fld (pv 0) rfl) pa_nil))) (pe_gi T.i_MOST_SINGLES) (nomark _)) (pss_one ps_never) pss_nil)
    (pss_cons (ps_set (i := 1) sc.nd rfl (Or.inl rfl) (pe_mk (c_Ties_init T) T.k_Ties hr8 T.g_Ties (pa_cons (pv 0) pa_nil)))
    (pss_cons (ps_set (i := 2) sc.nd rfl (Or.inl rfl) (pe_op op_sub (pe_op op_add (pe_fld (pe_fld (pv 1) rfl) rfl) (pe_fld (pe_fld (pv 1) rfl) rfl)) (pe_fld (pe_fld (pv 1) rfl) rfl)))
    (pss_cons (ps_set (i := 3) sc.nd rfl (Or.inl rfl) (pe_lst pa_nil))
    (pss_cons (ps_for PassesOwn.never rfl (pi_rangeW rfl T.b_range (pa_cons (pe_callB (call_min2 rfl) rfl T.b_min (by decide +kernel) (pa_cons (pe_fld (pv 0) rfl) (pa_cons (pv 2) pa_nil))) (pa_cons (pv 2) pa_nil))) (pg_name (i := 4) sc.nd rfl (Or.inl rfl))
      (pss_cons (ps_asg (pe_m (c_names_at T) T.c_Ties T.m_Ties_names_at hr7 (pv 1) (pa_cons (pe_op op_add (pe_fld (pv 0) rfl) (pv 4)) pa_nil)) (pg_tup rfl (pgs_cons (pg_name (i := 5) sc.nd rfl (Or.inl rfl)) (pgs_cons (pg_name (i := 6) sc.nd rfl (Or.inl rfl)) pgs_nil))))
      (pss_one (ps_if (pt_cmpR (op_neD hr.units) (pe_m (c_head T) T.c_Ties T.m_Ties_head hr1 (pv 1) (pa_cons (pv 5) pa_nil)) (pe_m (c_head T) T.c_Ties T.m_Ties_head hr1 (pv 1) (pa_cons (pv 6) pa_nil)) (nomark _))
        (pss_cons (ps_expr (pe_m (c_tie T) T.c_Ties T.m_Ties_tie hr2 (pv 1) (pa_cons (pv 5) (pa_cons (pv 6) pa_nil))))
        (pss_one (ps_expr (pe_bm PySem.F.plainAttrs_list PySem.F.slot_list_append PySem.F.type_list_append mt_append (pv 3) (pa_cons (pe_op op_mod (pe_op op_add (pe_fld (pv 0) rfl) (pv 4)) (pe_c (c_round_of T) hr2 T.g_round_of (pa_cons (pe_fld (pv 0) rfl) pa_nil))) pa_nil))))) pss_nil))))
    (pss_one (ps_ret (pe_callB cr_sortedI rfl T.b_sorted (by decide +kernel) (pa_cons (pv 3) pa_nil)))))))), ?_⟩
  obtain ⟨dxk, pb, dxb, ps, k1, k2, k3⟩ := id hb
  obtain ⟨o1, o2, p1, p2, _⟩ := id ok
  have ro := ok.rows
  have os := ro.s0
  have og := ro.sg
  have obs := ro.bs
  refine ⟨_, rfl, p, b, rfl, hb, ok, fun H1 s1 => ?_⟩
  obtain ⟨tm, hmost⟩ := T.i_MOST_SINGLES
  refine ⟨_, rfl, _, _, _, _, _, rfl, s1 _ _ k1, T.c_Book, T.n_Book_singles, lk_Book_singles, _, _, rfl, .inr ⟨_, SqT.of (s1 _ _ k3), rfl⟩, _, _, rfl, rfl, _, _, rfl, rfl, _, rfl, ite_ff (decide_eq_false ?_) ?_⟩
  · rw [List.length_map]
    omega
  refine ⟨_, rfl, fun x dx nx ndx nxx => ?_⟩
  have s0 : Same H1 (upd (upd H1 dx (.own x)) x (.ins (He.ga K "Ties") dx [])) := Same.upd1 (Same.upd1 (Same.refl H1) ndx) (by rw [upd_ne (Ne.symm nxx)]; exact nx)
  refine ⟨x, dx, p, b, rfl, upd_same, (hb.same s1).same s0, ok, fun H2 pr pe El sb ht he npe => ⟨rfl, ?_⟩⟩
  have s2 : Same H1 H2 := fun a o e => sb a o (s0 a o e) (ne_of_none e nx)
  have s02 := s1.trans s2
  have npeH : H pe = none := by
    cases z : H pe with
    | none => rfl
    | some o =>
      have := s0 _ _ (s1 _ _ z)
      rw [this] at npe
      cases npe
  obtain ⟨dxr, hrw⟩ := id ht.rw_
  refine ⟨_, rfl, _, _, _, _, _, rfl, ht.ob, T.c_Ties, T.n_Ties_rows, lk_Ties_rows, _, _, _, _, _, rfl, hrw, T.c_Rows, T.n_Rows_small, lk_Rows_small, _, rfl, _, _, _, _, _, rfl, ht.ob, T.c_Ties, T.n_Ties_rows, lk_Ties_rows, _, _, _, _, _, rfl, hrw, T.c_Rows, T.n_Rows_great, lk_Rows_great, _, _, rfl, rfl, _, rfl, _, _, _, _, _, rfl, ht.ob, T.c_Ties, T.n_Ties_rows, lk_Ties_rows, _, _, _, _, _, rfl, hrw, T.c_Rows, T.n_Rows_shared, lk_Rows_shared, _, _, rfl, rfl, ?_⟩
  refine ⟨(by show 0 ≤ sizeLine; decide), fun q nq => ?_⟩
  have s3 := @Same.new H2 q (.lst []) nq
  have qv := @upd_same H2 q (.lst (([] : List Int).map V.int))
  have ht3 := ht.same s3
  have s03 := s02.trans s3
  have nqH : H q = none := by
    cases z : H q with
    | none => rfl
    | some o =>
      have := s02 _ _ z
      rw [this] at nq
      cases nq
  have qv : (upd H2 q (.lst [])) q = some (.lst (([] : List Int).map V.int)) := qv
  generalize upd H2 q (.lst []) = H3 at s03 qv ht3 ⊢
  clear ht hrw s3 s2 s02 nq npe s0 sb
  have hlo := stretch_lo ok
  refine ⟨_, rfl, _, _, _, _, _, rfl, s03 _ _ k1, T.c_Book, T.n_Book_many, lk_Book_many, _, rfl, _, _, rfl, _, rfl, _, _, rfl, ?_⟩
  have emin : (if b.rows.small + b.rows.great - b.rows.shared < b.many then b.rows.small + b.rows.great - b.rows.shared else b.many) = min b.many (enoughN b) := by
    rw [min_if]
    rfl
  have een : b.rows.small + b.rows.great - b.rows.shared = enoughN b := rfl
  rw [emin, een]
  obtain ⟨lo, hloe⟩ : ∃ lo, min b.many (enoughN b) = lo := ⟨_, rfl⟩
  have hlo2 : lo ≤ enoughN b := by omega
  have rp := roundN_pos o1 p1
  rw [hloe] at hlo hn ⊢
  refine for_range (lo := lo) (n := (enoughN b - lo).toNat) (fun i σ H' => ∃ (v4 v5 v6 : Option V) (Fl : List Int) (El : ElderA), σ = [some (.ref p), some (.ref x), some (.int (enoughN b)), some (.ref q), v4, v5, v6] ∧ Same H H' ∧ H' q = some (.lst ((Fl.map fun t => (b.begin_ + t) % roundN b.one b.other).map V.int)) ∧
      TiesAt K H' x dx pr pe b El ∧ eldL El = tiesE b.rows (b.rel ++ Fl) ∧ MendOk b.rows b.rel lo (lo + (i : Int)) Fl ∧ Fl.length ≤ i)
    ⟨none, none, none, [], El, rfl, s03, qv, ht3, by rw [List.append_nil]; exact he, (show lo + ((0 : Nat) : Int) = lo by omega).symm ▸ MendOk.nil, Nat.le_refl _⟩ ?_ ?_
  · rintro i σ H' hi ⟨v4, v5, v6, Fl, E', rfl, sm, hq, ht', he', mo, fl⟩
    have il : i < 200 := by omega
    have hg : GoodE (eldL E') := by
      rw [he']
      exact Bm.tiesE_good _ _
    have hEl : E'.length ≤ 1000 := by
      have h1 := Bm.tiesE_len b.rows (b.rel ++ Fl)
      have h2 : E'.length = (tiesE b.rows (b.rel ++ Fl)).length := by
        rw [← he']
        simp [eldL]
      have h3 : b.rel.length ≤ 100 := by
        simp only [BookD.rel, List.length_map]
        exact ok.sl
      rw [List.length_append] at h1
      omega
    have hk1 := sm _ _ k1
    refine ⟨_, rfl, _, _, _, rfl, ht'.ob, lk_Ties_m_names_at, _, rfl, _, _, _, _, _, rfl, hk1, T.c_Book, T.n_Book_begin, lk_Book_begin, _, rfl, _, _, rfl, rfl, x, dx, pr, pe, b, E', b.begin_ + (lo + (i : Int)), rfl, ht', ok, fun a a1 a2 H4 s4 ha n1 n2 => ?_⟩
    have ebt : b.begin_ + (lo + (i : Int)) - b.begin_ = lo + (i : Int) := by omega
    rw [ebt] at n1 n2
    have ht4 := ht'.same s4
    refine ⟨a, _, rfl, SqT.of ha, rfl, _, _, rfl, _, _, rfl, rfl, ?_⟩
    refine ⟨_, rfl, _, _, _, rfl, ht4.ob, lk_Ties_m_head, _, rfl, x, dx, pr, pe, a1, b, E', _, rfl, ht4, hg, n1, fun c1 m1 => ?_⟩
    refine ⟨_, rfl, _, _, _, rfl, ht4.ob, lk_Ties_m_head, _, rfl, x, dx, pr, pe, a2, b, E', _, rfl, ht4, hg, n2, fun c2 m2 => ?_⟩
    obtain ⟨i1, j1, w1, w2⟩ := name_dp (K := K) m1
    obtain ⟨i2, j2, w3, w4⟩ := name_dp (K := K) m2
    refine ⟨_, _, w2, w4, pair_shaped _ _, pair_shaped _ _, _, rfl, ?_⟩
    rw [name_eqv w1 w3, he']
    have ei : lo + (i : Int) + 1 = lo + ((i + 1 : Nat) : Int) := by omega
    by_cases c : headOf (tiesE b.rows (b.rel ++ Fl)) (rowS b.rows (lo + (i : Int))) = headOf (tiesE b.rows (b.rel ++ Fl)) (rowG b.rows (lo + (i : Int)))
    · refine ite_ff (by rw [decide_eq_true c]; rfl) ?_
      refine ⟨_, _, _, Fl, E', rfl, sm.trans s4, s4 _ _ hq, ht4, he', ?_, by omega⟩
      rw [← ei]
      exact mo.skip ((Bm.ties_conn _ _ _ _).mp c)
    · refine ite_tt (by rw [decide_eq_false c]; rfl) ?_
      have nc : ¬ Bm.Conn (Bm.IsLink b.rows (b.rel ++ Fl)) (rowS b.rows (lo + (i : Int))) (rowG b.rows (lo + (i : Int))) := fun z => c ((Bm.ties_conn _ _ _ _).mpr z)
      refine ⟨_, rfl, _, _, _, rfl, ht4.ob, lk_Ties_m_tie, _, rfl, _, rfl, x, dx, pr, pe, a1, a2, b, E', _, _, rfl, ht4, hg, hEl, n1, n2, fun H5 E5 sb5 _ ht5 he5 => ?_⟩
      have sm5 : Same H H5 := fun c0 o z => sb5 _ _ (s4 _ _ (sm _ _ z)) (ne_of_none z npeH)
      have hq4 := s4 _ _ hq
      have hq5 := sb5 _ _ hq4 (ne_of hq4 ht4.el.dt (by intro z; cases z))
      refine ⟨_, rfl, .inl ⟨rfl, _, SqL.of hq5⟩, _, rfl, _, _, _, _, _, rfl, sm5 _ _ k1, T.c_Book, T.n_Book_begin, lk_Book_begin, _, rfl, _, _, rfl, rfl, _, rfl, _, _, _, _, _, rfl, sm5 _ _ k1, T.c_Book, T.n_Book_belts, lk_Book_belts, pb, dxb, b.one, b.other, rfl, sm5 _ _ k2, ⟨o1, o2⟩, ⟨p1, p2⟩, _, _, rfl, rfl, rp, q, _, _, rfl, rfl, hq5, by rw [List.length_map, List.length_map, size16]; omega, ?_⟩
      refine ⟨_, _, _, Fl ++ [lo + (i : Int)], E5, rfl, fun c0 o z => ?_, ?_, ht5.lst hq5, ?_, ?_, ?_⟩
      · rw [upd_ne (ne_of_none z nqH)]
        exact sm5 _ _ z
      · rw [upd_same, List.map_append, List.map_append]
        rfl
      · rw [he5, he', ← List.append_assoc, Bm.tiesE_snoc]
      · rw [← ei]
        exact mo.put (by omega) nc
      · rw [List.length_append]
        show Fl.length + 1 ≤ i + 1
        omega
  · rintro σ H' ⟨v4, v5, v6, Fl, E', rfl, sm, hq, ht', he', mo, fl⟩
    have en : lo + (((enoughN b - lo).toNat : Nat) : Int) = enoughN b := by omega
    rw [en] at mo
    refine ⟨_, rfl, q, _, rfl, SqL.of hq, fun told t pm' pw' nt => ?_⟩
    refine h t _ Fl told (Same.upd1 sm nt) (by rw [hloe]; exact mo) pm' pw' upd_same ?_
    cases z : H t with
    | none => rfl
    | some o =>
      have := sm _ _ z
      rw [this] at nt
      cases nt
end
end Bt
namespace Bt
open PySem PySem.Spec PyProof.Rows L2
/-! ### the draws of k62 -/
def SrcAt (H : Hp) (l : Addr) (n : Int) : Prop := ∃ a b c : Int, H l = some (.lst [.int a, .int b, .int c]) ∧ 0 ≤ a ∧ (0 ≤ b ∧ b < 3000000000) ∧ (0 ≤ c ∧ c ≤ n)
theorem SrcAt.same {H H' : Hp} {l : Addr} {n : Int} (s : Same H H') (h : SrcAt H l n) : SrcAt H' l n := by
  obtain ⟨a, b, c, h1, h2⟩ := h
  exact ⟨a, b, c, s _ _ h1, h2⟩
theorem SrcAt.le {H : Hp} {l : Addr} {n m : Int} (h : SrcAt H l n) (hm : n ≤ m) : SrcAt H l m := by
  obtain ⟨a, b, c, h1, h2, h3, h4, h5⟩ := h
  exact ⟨a, b, c, h1, h2, h3, h4, by omega⟩
theorem SrcAt.ne {H : Hp} {l p : Addr} {n : Int} (h : SrcAt H l n) (hp : H p = none) : l ≠ p := by
  obtain ⟨a, b, c, h1, h2⟩ := h
  exact ne_of_none h1 hp
theorem SrcAt.upd {H : Hp} {l p : Addr} {n : Int} {o : HO} (h : SrcAt H l n) (ne : l ≠ p) : SrcAt (L2.upd H p o) l n := by
  obtain ⟨a, b, c, h1, h2⟩ := h
  exact ⟨a, b, c, by rw [upd_ne ne]; exact h1, h2⟩
theorem SameBut.upd1 {p q : Addr} {H H' : Hp} {o : HO} (s : SameBut p H H') (hq : H' q = none) : SameBut p H (L2.upd H' q o) := fun c u e h => by
  have z := s c u e h
  rw [upd_ne (ne_of_none z hq)]
  exact z
theorem SameBut.then {p : Addr} {H H1 H2 : Hp} (a : SameBut p H H1) (b : Same H1 H2) : SameBut p H H2 := fun c o e h => b c o (a c o e h)
theorem SameBut.freeS {l p : Addr} {H H' : Hp} {n : Int} (s : SameBut l H H') (hw : SrcAt H' l n) (hp : H' p = none) : p = l ∨ H p = none := by
  cases e : H p with
  | none => exact .inr rfl
  | some o =>
    by_cases z : p = l
    · exact .inl z
    · rw [s _ _ e z] at hp
      cases hp
theorem BookAt.butS {K : PySem.W.Frag} {H H' : Hp} {l x : Addr} {n : Int} {b : BookD} (hb : BookAt K H x b) (w : SrcAt H l n) (s : SameBut l H H') : BookAt K H' x b := by
  obtain ⟨dx, pb, dxb, ps, h1, h2, h3⟩ := hb
  obtain ⟨_, _, _, hl, _⟩ := w
  refine ⟨dx, pb, dxb, ps, s _ _ h1 ?_, s _ _ h2 ?_, s _ _ h3 ?_⟩
  · exact ne_of h1 hl (by intro z; cases z)
  · exact ne_of h2 hl (by intro z; cases z)
  · exact ne_of h3 hl (by intro z; cases z)
section
variable {P : Program} {w : World} {K : PySem.W.Frag} {mg : Str → Option Value} {base : Heap}
def spCellAt (K : PySem.W.Frag) : Sp := fun vs H Q _ => ∃ (p : Addr) (ns : List Int) (k : Int), vs = [.ref p, .int k] ∧ SqL K H p (ns.map V.int) ∧ ns.length ≤ 63 ∧ 0 ≤ k ∧ ∀ c, Q (.int c) H
theorem c_cell_at (T : Env K mg) : Cal P w K mg base 1 (He.fAd K D_law_cell_at.at_) ["_law_script", "_law_k"] (spCellAt K) := by
  obtain ⟨fd, F⟩ := T.d_law_cell_at
  have sc : FnScope ["_law_script", "_law_k"] ["_law_script", "_law_k"] (defScope S_law_cell_at) := ⟨rfl, rfl, rfl, by decide +kernel, rfl, by decide +kernel, by decide +kernel⟩
  refine mkCal F sc (fun _ _ _ _ _ _ us hl => match us, hl with | [_, _], _ => rfl) (fun vs H Q E h => by obtain ⟨a, b, c, rfl, _⟩ := h; rfl) (fun cdv A outer s H vs Q E hr h => ?_)
  obtain ⟨p, ns, k, rfl, hp, hl, k0, h⟩ := h
  refine ⟨_, pss_cons (ps_if (pt_cmpR op_lt (pv 1) (pe_callB call_len rfl T.b_len (by decide +kernel) (pa_cons (pv 0) pa_nil)) (nomark _)) (pss_one (ps_ret (pe_ix ix_list (pv 0) (pv 1) (fun _ _ => rfl)))) pss_nil)
    (pss_one (ps_ret pe_int)), ?_⟩
  refine ⟨_, rfl, _, rfl, _, _, rfl, .inl ⟨_, hp, rfl⟩, _, _, rfl, rfl, _, rfl, ?_⟩
  rw [List.length_map]
  by_cases c : k < ((ns.length : Nat) : Int)
  · refine ite_tt (decide_eq_true c) ?_
    obtain ⟨j, rfl⟩ := Int.eq_ofNat_of_zero_le k0
    have hj : j < ns.length := by omega
    exact ⟨_, rfl, _, rfl, p, _, _, .int ns[j], rfl, rfl, hp, atI_nat (j := j) (by rw [List.getElem?_map, List.getElem?_eq_getElem hj]; rfl), h _⟩
  · exact ite_ff (decide_eq_false c) (h 0)
def spSource (K : PySem.W.Frag) : Sp := fun vs H Q _ => ∃ (p : Addr) (ns : List Int) (k : Int), vs = [.ref p, .int k] ∧ SqL K H p (ns.map V.int) ∧ ns.length ≤ 63 ∧ (0 ≤ k ∧ k ≤ 10) ∧ ∀ l H', Same H H' → H l = none → SrcAt H' l 0 → Q (.ref l) H'
theorem c_source (T : Env K mg) : Cal P w K mg base 2 (He.fAd K D_law_source.at_) ["_law_script", "_law_k"] (spSource K) := by
  obtain ⟨fd, F⟩ := T.d_law_source
  have sc : FnScope ["_law_script", "_law_k", "_law_cell"] ["_law_script", "_law_k"] (defScope S_law_source) := ⟨rfl, rfl, rfl, by decide +kernel, rfl, by decide +kernel, by decide +kernel⟩
  refine mkCal F sc (fun _ _ _ _ _ _ us hl => match us, hl with | [_, _], _ => rfl) (fun vs H Q E h => by obtain ⟨a, b, c, rfl, _⟩ := h; rfl) (fun cdv A outer s H vs Q E hr h => ?_)
  obtain ⟨p, ns, k, rfl, hp, hl, ⟨k0, k1⟩, h⟩ := h
  refine ⟨_, pss_cons (ps_set (i := 2) sc.nd rfl (Or.inl rfl) (pe_callB call_abs rfl T.b_abs (by decide +kernel) (pa_cons (pe_c (c_cell_at T) hr T.g_law_cell_at (pa_cons (pv 0) (pa_cons (pv 1) pa_nil))) pa_nil)))
    (pss_one (ps_ret (pe_lst (pa_cons (pe_op op_mul (pv 2) (pe_callTy call_int1 rfl T.b_int (by decide +kernel) (pa_cons (pe_cmpR op_ge (pv 2) (pe_op op_pow pe_int pe_int) (nomark _)) pa_nil)))
      (pa_cons (pe_op op_add (pe_op op_mod (pv 2) pe_int) (pe_op op_mul pe_int (pv 1))) (pa_cons pe_int pa_nil)))))), ?_⟩
  refine ⟨_, rfl, _, rfl, p, ns, k, rfl, hp, hl, k0, fun c => ⟨_, rfl, ?_⟩⟩
  obtain ⟨z, hz, z0⟩ : ∃ z : Int, (if c < 0 then -c else c) = z ∧ 0 ≤ z := ⟨_, rfl, by split <;> omega⟩
  rw [hz]
  refine ⟨_, rfl, _, rfl, _, _, rfl, rfl, ⟨by decide, by decide, by decide⟩, _, _, rfl, rfl, .inr ⟨_, rfl, ?_⟩⟩
  refine ⟨_, _, rfl, rfl, .inr (by split <;> decide), _, rfl, _, _, rfl, rfl, (by show (0 : Int) < 2147483647; decide), _, rfl, _, _, rfl, rfl, .inl ⟨by decide, by decide⟩, _, _, rfl, rfl, (by show 3 ≤ sizeLine; decide), fun l nl => ?_⟩
  have h1 := Int.emod_nonneg z (by decide : (2147483647 : Int) ≠ 0)
  have h2 := Int.emod_lt_of_pos z (by decide : (0 : Int) < 2147483647)
  refine h l _ (Same.new nl) nl ⟨_, _, _, upd_same, ?_, ⟨by omega, by omega⟩, by omega⟩
  by_cases c : (10 : Int) ^ (18 : Int).toNat ≤ z
  · rw [decide_eq_true c]
    show 0 ≤ z * 1
    omega
  · rw [decide_eq_false c]
    show 0 ≤ z * 0
    omega
def spNext : Sp := fun vs H Q _ => ∃ (l : Addr) (wd n : Int), vs = [.ref l, .int wd] ∧ SrcAt H l n ∧ 0 < wd ∧ wd < 2 ^ 200 ∧ n < 1000000 ∧ ∀ d H', SameBut l H H' → SrcAt H' l (n + 1) → 0 ≤ d → d < wd → Q (.int d) H'
theorem c_next (T : Env K mg) : Cal P w K mg base 1 (He.fAd K D_law_next.at_) ["_law_source_here", "_law_size"] spNext := by
  obtain ⟨fd, F⟩ := T.d_law_next
  have sc : FnScope ["_law_source_here", "_law_size", "_law_digit", "_law_prime", "_law_often", "_law_mixed_here"] ["_law_source_here", "_law_size"] (defScope S_law_next) := ⟨rfl, rfl, rfl, by decide +kernel, rfl, by decide +kernel, by decide +kernel⟩
  refine mkCal F sc (fun _ _ _ _ _ _ us hl => match us, hl with | [_, _], _ => rfl) (fun vs H Q E h => by obtain ⟨a, b, c, rfl, _⟩ := h; rfl) (fun cdv A outer s H vs Q E hr h => ?_)
  obtain ⟨l, wd, n, rfl, ⟨a, b, c, hl, ha, ⟨hb1, hb2⟩, hc1, hc2⟩, w0, w1, hn, h⟩ := h
  refine ⟨_, pss_cons (ps_if (pt_cmpR op_gt (pe_ix ix_list (pv 0) pe_int (fun _ _ => rfl)) pe_int (nomark _))
      (pss_cons (ps_set (i := 2) sc.nd rfl (Or.inl rfl) (pe_op op_mod (pe_ix ix_list (pv 0) pe_int (fun _ _ => rfl)) (pv 1)))
      (pss_cons (ps_asg (pe_op op_fdivW (pe_ix ix_list (pv 0) pe_int (fun _ _ => rfl)) (pv 1)) (pg_sub (pv 0) pe_int set_list))
      (pss_one (ps_ret (pv 2))))) pss_nil)
    (pss_cons (ps_asg (pe_op op_add (pe_ix ix_list (pv 0) pe_int (fun _ _ => rfl)) pe_int) (pg_sub (pv 0) pe_int set_list))
    (pss_cons (ps_set (i := 3) sc.nd rfl (Or.inl rfl) (pe_ix ix_list (pe_lst (pa_cons pe_int (pa_cons pe_int (pa_cons pe_int (pa_cons pe_int (pa_cons pe_int pa_nil)))))) (pe_op op_mod (pe_ix ix_list (pv 0) pe_int (fun _ _ => rfl)) pe_int) (fun _ _ => rfl)))
    (pss_cons (ps_set (i := 4) sc.nd rfl (Or.inl rfl) (pe_op op_add (pe_op op_mul pe_int (pe_ix ix_list (pv 0) pe_int (fun _ _ => rfl))) pe_int))
    (pss_cons (ps_set (i := 5) sc.nd rfl (Or.inl rfl) (pe_op op_mod (pe_op op_pow (pe_op op_add (pe_op op_add (pe_op op_mul (pe_ix ix_list (pv 0) pe_int (fun _ _ => rfl)) (pv 4)) (pe_op op_mul pe_int (pe_ix ix_list (pv 0) pe_int (fun _ _ => rfl)))) pe_int) pe_int) (pv 3)))
    (pss_cons (ps_set (i := 5) sc.nd rfl (Or.inl rfl) (pe_op op_mod (pe_op op_mul (pe_op op_add (pv 5) (pe_ix ix_list (pv 0) pe_int (fun _ _ => rfl))) (pe_op op_add (pe_op op_fdiv (pv 5) pe_int) pe_int)) (pv 3)))
    (pss_one (ps_ret (pe_op op_mod (pe_op op_fdiv (pv 5) pe_int) (pv 1))))))))), ?_⟩
  refine ⟨_, rfl, l, _, _, _, rfl, rfl, SqL.of hl, atI_nat (j := 0) rfl, _, _, rfl, rfl, _, rfl, ?_⟩
  by_cases c0 : 0 < a
  · refine ite_tt (decide_eq_true c0) ?_
    refine ⟨_, rfl, l, _, _, _, rfl, rfl, SqL.of hl, atI_nat (j := 0) rfl, _, rfl, _, _, rfl, rfl, w0, ?_⟩
    refine ⟨_, rfl, l, _, _, _, rfl, rfl, SqL.of hl, atI_nat (j := 0) rfl, _, rfl, _, _, rfl, rfl, wdiv w0 w1, ?_⟩
    refine ⟨_, rfl, l, _, _, 0, rfl, rfl, hl, rfl, ?_⟩
    refine ⟨_, rfl, ?_⟩
    exact h _ _ (SameBut.upd (SameBut.of (Same.refl H))) ⟨a / wd, b, c, upd_same, Int.ediv_nonneg ha (by omega), ⟨hb1, hb2⟩, hc1, by omega⟩ (Int.emod_nonneg _ (by omega)) (Int.emod_lt_of_pos _ w0)
  · refine ite_ff (decide_eq_false c0) ?_
    refine ⟨_, rfl, l, _, _, _, rfl, rfl, SqL.of hl, atI_nat (j := 2) rfl, _, _, rfl, rfl, _, rfl, l, _, _, 2, rfl, rfl, hl, rfl, ?_⟩
    have hl2 : L2.upd H l (.lst [.int a, .int b, .int (c + 1)]) l = some (.lst [.int a, .int b, .int (c + 1)]) := upd_same
    have hs2 : SameBut l H (L2.upd H l (.lst [.int a, .int b, .int (c + 1)])) := SameBut.upd (SameBut.of (Same.refl H))
    show tSeq _ _ _ _ (L2.upd H l (.lst [.int a, .int b, .int (c + 1)]))
    generalize L2.upd H l (.lst [.int a, .int b, .int (c + 1)]) = H2 at hl2 hs2 ⊢
    refine ⟨(by show 5 ≤ sizeLine; decide), fun q nq => ?_⟩
    have lq : l ≠ q := ne_of_none hl2 nq
    have hl3 : ∀ o, L2.upd H2 q o l = some (.lst [.int a, .int b, .int (c + 1)]) := fun o => by rw [upd_ne lq]; exact hl2
    have hs3 : ∀ o, SameBut l H (L2.upd H2 q o) := fun o => SameBut.upd1 hs2 nq
    refine ⟨_, rfl, l, _, _, _, rfl, rfl, SqL.of (hl3 _), atI_nat (j := 2) rfl, _, _, rfl, rfl, (by show (0 : Int) < 5; decide), ?_⟩
    have r1 := Int.emod_nonneg (c + 1) (by decide : (5 : Int) ≠ 0)
    have r2 := Int.emod_lt_of_pos (c + 1) (by decide : (0 : Int) < 5)
    obtain ⟨pr, hp, p0, p1⟩ : ∃ pr : Int, atI [V.int 2147483647, V.int 2147483629, V.int 2147483587, V.int 2147483579, V.int 2147483563] ((c + 1) % 5) = some (V.int pr) ∧ 0 < pr ∧ pr < 2147483648 := by
      have : (c + 1) % 5 = 0 ∨ (c + 1) % 5 = 1 ∨ (c + 1) % 5 = 2 ∨ (c + 1) % 5 = 3 ∨ (c + 1) % 5 = 4 := by omega
      rcases this with e | e | e | e | e
      all_goals
        rw [e]
        exact ⟨_, rfl, by decide, by decide⟩
    refine ⟨q, _, _, .int pr, rfl, rfl, SqL.of upd_same, hp, ?_⟩
    refine ⟨_, rfl, l, _, _, _, rfl, rfl, SqL.of (hl3 _), atI_nat (j := 2) rfl, _, _, rfl, rfl, .inl ⟨by decide, by decide⟩, _, _, rfl, rfl, ?_⟩
    have pb : 0 ≤ b * (2 * (c + 1) + 1) ∧ b * (2 * (c + 1) + 1) ≤ 3000000000 * 3000000 := ⟨Int.mul_nonneg hb1 (by omega), Int.le_trans (Int.mul_le_mul_of_nonneg_right (by omega : b ≤ 3000000000) (by omega)) (Int.mul_le_mul_of_nonneg_left (by omega) (by decide))⟩
    refine ⟨_, rfl, l, _, _, _, rfl, rfl, SqL.of (hl3 _), atI_nat (j := 1) rfl, _, rfl, _, _, rfl, rfl, .inl ⟨by omega, by omega⟩, _, rfl, l, _, _, _, rfl, rfl, SqL.of (hl3 _), atI_nat (j := 2) rfl, _, _, rfl, rfl, .inl ⟨by decide, by decide⟩, _, _, rfl, rfl, _, _, rfl, rfl, _, _, rfl, rfl, ⟨by decide, by decide, by omega⟩, _, rfl, _, _, rfl, rfl, p0, ?_⟩
    have m0 := Int.emod_nonneg ((b * (2 * (c + 1) + 1) + 104729 * (c + 1) + 1) ^ (5 : Int).toNat) (by omega : pr ≠ 0)
    have m9 := Int.emod_lt_of_pos ((b * (2 * (c + 1) + 1) + 104729 * (c + 1) + 1) ^ (5 : Int).toNat) p0
    refine ⟨_, rfl, _, rfl, l, _, _, _, rfl, rfl, SqL.of (hl3 _), atI_nat (j := 2) rfl, _, _, rfl, rfl, _, rfl, _, _, rfl, rfl, ⟨by decide, by decide⟩, _, _, rfl, rfl, _, _, rfl, rfl, .inl (by omega), _, rfl, _, _, rfl, rfl, p0, ?_⟩
    refine ⟨_, rfl, _, _, rfl, rfl, ⟨by decide, by decide⟩, _, rfl, _, _, rfl, rfl, w0, ?_⟩
    exact h _ _ (hs3 _) ⟨a, b, c + 1, hl3 _, ha, ⟨hb1, hb2⟩, by omega, by omega⟩ (Int.emod_nonneg _ (by omega)) (Int.emod_lt_of_pos _ w0)
def spOne (K : PySem.W.Frag) : Sp := fun vs H Q _ => ∃ (l p : Addr) (xs : List V) (n : Int), vs = [.ref l, .ref p] ∧ SrcAt H l n ∧ H p = some (.lst xs) ∧ p ≠ l ∧ 0 < xs.length ∧ xs.length ≤ 10000 ∧ n < 1000000 ∧
  ∀ x H', SameBut l H H' → SrcAt H' l (n + 1) → x ∈ xs → Q x H'
theorem c_one (T : Env K mg) : Cal P w K mg base 2 (He.fAd K D_law_one.at_) ["_law_source_here", "_law_some"] (spOne K) := by
  obtain ⟨fd, F⟩ := T.d_law_one
  have sc : FnScope ["_law_source_here", "_law_some"] ["_law_source_here", "_law_some"] (defScope S_law_one) := ⟨rfl, rfl, rfl, by decide +kernel, rfl, by decide +kernel, by decide +kernel⟩
  refine mkCal F sc (fun _ _ _ _ _ _ us hl => match us, hl with | [_, _], _ => rfl) (fun vs H Q E h => by obtain ⟨a, b, c, d, rfl, _⟩ := h; rfl) (fun cdv A outer s H vs Q E hr h => ?_)
  obtain ⟨l, p, xs, n, rfl, hw, hp, pl, h0, h1, hn, h⟩ := h
  refine ⟨_, pss_one (ps_ret (pe_ix ix_list (pv 1) (pe_c (c_next T) hr T.g_law_next (pa_cons (pv 0) (pa_cons (pe_callB call_len rfl T.b_len (by decide +kernel) (pa_cons (pv 1) pa_nil)) pa_nil))) (fun _ _ => rfl))), ?_⟩
  refine ⟨_, rfl, _, rfl, _, rfl, _, xs.length, rfl, .inl ⟨_, SqL.of hp, rfl⟩, l, _, n, rfl, hw, by omega, by omega, hn, fun d H' sb w' d0 d1 => ?_⟩
  have hd : d.toNat < xs.length := by omega
  refine ⟨p, xs, d, xs[d.toNat], rfl, rfl, SqL.of (sb _ _ hp pl), ?_, h _ H' sb w' (List.getElem_mem hd)⟩
  have := atI_nat (xs := xs) (j := d.toNat) (v := xs[d.toNat]) (by simp [hd])
  have e : ((d.toNat : Nat) : Int) = d := by omega
  rw [e] at this
  exact this
theorem c_law_common (T : Env K mg) : Cal P w K mg base 1 (He.fAd K D_law_common.at_) ["_law_one_here", "_law_other"] spCommon := by
  obtain ⟨fd, F⟩ := T.d_law_common
  have sc : FnScope ["_law_one_here", "_law_other"] ["_law_one_here", "_law_other"] (defScope S_law_common) := ⟨rfl, rfl, rfl, by decide +kernel, rfl, by decide +kernel, by decide +kernel⟩
  refine mkCal F sc (fun _ _ _ _ _ _ us hl => match us, hl with | [_, _], _ => rfl) (fun vs H Q E h => by obtain ⟨a, b, rfl, _⟩ := h; rfl) (fun cdv A outer s H vs Q E hr h => ?_)
  obtain ⟨a, b, rfl, ha, hb, h⟩ := h
  refine ⟨_, pss_cons (ps_while PassesOwn.never (pt_cmpR op_gt (pv 1) pe_int (nomark _))
    (pss_one (ps_par (i := 0) (j := 1) (by rfl) sc.nd rfl rfl (by decide) rfl rfl (pa_cons (pv 1) (pa_cons (pe_op op_mod (pv 0) (pv 1)) pa_nil)) (by rfl))))
    (pss_one (ps_ret (pv 0))), ?_⟩
  refine while_byB (fun σ H' => H' = H ∧ ∃ x y : Int, σ = [some (.int x), some (.int y)] ∧ 0 ≤ x ∧ 0 ≤ y ∧ Int.gcd x y = Int.gcd a b)
    (fun σ _ => match σ with | [_, some (.int y)] => decide (0 < y) | _ => false) (fun σ _ => match σ with | [_, some (.int y)] => y.toNat | _ => 0) ⟨rfl, a, b, rfl, ha, hb, rfl⟩ ?_ ?_ ?_
  · rintro σ H' R ⟨rfl, x, y, rfl, hx, hy, hg⟩ q
    exact ⟨_, rfl, _, _, rfl, rfl, _, rfl, q⟩
  · rintro σ H' ⟨rfl, x, y, rfl, hx, hy, hg⟩ hc
    have h1 : 0 < y := of_decide_eq_true hc
    refine ⟨_, rfl, _, rfl, _, rfl, _, _, rfl, rfl, h1, _, _, rfl, ?_⟩
    refine ⟨⟨rfl, y, x % y, rfl, hy, Int.emod_nonneg _ (by omega), ?_⟩, ?_⟩
    · rw [← hg]
      exact Bm.gcd_emod x y
    · show (x % y).toNat < y.toNat
      have := Int.emod_lt_of_pos x h1
      omega
  · rintro σ H' ⟨rfl, x, y, rfl, hx, hy, hg⟩ hc
    have h1 : ¬ 0 < y := of_decide_eq_false hc
    have e : y = 0 := by omega
    subst e
    refine ⟨_, rfl, ?_⟩
    have e2 : (Int.gcd a b : Int) = x := by
      rw [← hg, Int.gcd_zero_right]
      omega
    rw [e2] at h
    exact h
end
end Bt
namespace Bt
open PySem PySem.Spec PyProof.Rows L2
/-! ### the model of a book: a dict -/
abbrev kS (s : Str) : Key := Sum.inr s
def mK (pc : Addr) (wh f sz : Int) (pl : Addr) (en : Int) : List (Key × V) := [(kS "cups", .ref pc), (kS "whole", .int wh), (kS "first", .int f), (kS "size", .int sz), (kS "lone", .ref pl), (kS "enough", .int en)]
section
variable {pc pl : Addr} {wh f sz en : Int}
theorem m_cups : valV (mK pc wh f sz pl en) (kS "cups") = some (.ref pc) := rfl
theorem m_whole : valV (mK pc wh f sz pl en) (kS "whole") = some (.int wh) := rfl
theorem m_first : valV (mK pc wh f sz pl en) (kS "first") = some (.int f) := rfl
theorem m_size : valV (mK pc wh f sz pl en) (kS "size") = some (.int sz) := rfl
theorem m_lone : valV (mK pc wh f sz pl en) (kS "lone") = some (.ref pl) := rfl
theorem m_enough : valV (mK pc wh f sz pl en) (kS "enough") = some (.int en) := rfl
theorem m_put_size {z : Int} : putK (mK pc wh f sz pl en) (kS "size") (.int z) = mK pc wh f z pl en := rfl
theorem m_put_lone {q : Addr} : putK (mK pc wh f sz pl en) (kS "lone") (.ref q) = mK pc wh f sz q en := rfl
theorem m_merge : mergeK [] (mK pc wh f sz pl en) = mK pc wh f sz pl en := rfl
end
structure MAt (H : Hp) (pm pc pl : Addr) (b : BookD) (wh en : Int) : Prop where
  dk : H pm = some (.dK (mK pc wh b.begin_ b.many pl en))
  cu : H pc = some (.lst [.int b.one, .int b.other])
  lo : H pl = some (.tup (b.singles.map V.int))
theorem MAt.same {H H' : Hp} {pm pc pl : Addr} {b : BookD} {wh en : Int} (s : Same H H') (h : MAt H pm pc pl b wh en) : MAt H' pm pc pl b wh en := ⟨s _ _ h.dk, s _ _ h.cu, s _ _ h.lo⟩
theorem MAt.but {H H' : Hp} {l pm pc pl : Addr} {b : BookD} {wh en n : Int} (w : SrcAt H l n) (ne : pc ≠ l) (s : SameBut l H H') (h : MAt H pm pc pl b wh en) : MAt H' pm pc pl b wh en := by
  obtain ⟨_, _, _, hl, _⟩ := w
  exact ⟨s _ _ h.dk (ne_of h.dk hl (by intro z; cases z)), s _ _ h.cu ne, s _ _ h.lo (ne_of h.lo hl (by intro z; cases z))⟩
theorem dget {H : Hp} {a : Addr} {kvs : List (Key × V)} {k : Key} {v : V} (e : H a = some (.dK kvs)) (h : valV kvs k = some v) : DGet H a (kV k) (some v) := h ▸ DGet.k e
theorem dput {H : Hp} {a : Addr} {kvs kvs' : List (Key × V)} {k : Key} {v : V} (e : H a = some (.dK kvs)) (hl : kvs.length < sizeLine) (h : putK kvs k v = kvs') : DPut H a (kV k) v (upd H a (.dK kvs')) := h ▸ DPut.k e hl
section
variable {P : Program} {w : World} {K : PySem.W.Frag} {mg : Str → Option Value} {base : Heap}
def spMade (K : PySem.W.Frag) : Sp := fun vs H Q _ => ∃ (pm pc pl : Addr) (b : BookD) (wh en : Int), vs = [.ref pm] ∧ MAt H pm pc pl b wh en ∧ BookOk b ∧ ∀ x H', Same H H' → BookAt K H' x b → Q (.ref x) H'
theorem c_made (T : Env K mg) : Cal P w K mg base 7 (He.fAd K D_law_made.at_) ["_law_m"] (spMade K) := by
  obtain ⟨fd, F⟩ := T.d_law_made
  obtain ⟨fdB, cB⟩ := c_Book_init (P := P) (w := w) (base := base) T
  have sc : FnScope ["_law_m"] ["_law_m"] (defScope S_law_made) := ⟨rfl, rfl, rfl, by decide +kernel, rfl, by decide +kernel, by decide +kernel⟩
  refine mkCal F sc (fun _ _ _ _ _ _ us hl => match us, hl with | [_], _ => rfl) (fun vs H Q E h => by obtain ⟨a, b, c, d, e, f, rfl, _⟩ := h; rfl) (fun cdv A outer s H vs Q E hr h => ?_)
  obtain ⟨pm, pc, pl, b, wh, en, rfl, hm, ok, h⟩ := h
  have hr4 : Room 4 _ := hr.mono (by decide)
  have hu := hu_of hr
  refine ⟨_, pss_one (ps_ret (mkBook cB T.k_Book hr T.g_Book (pa_cons (pe_mk (c_Belts_init T) T.k_Belts hr4 T.g_Belts (pa_cons (pe_ix ix_list (pe_dget hu (pv 0) pe_str (fun _ _ => rfl)) pe_int (fun _ _ => rfl)) (pa_cons (pe_ix ix_list (pe_dget hu (pv 0) pe_str (fun _ _ => rfl)) pe_int (fun _ _ => rfl)) pa_nil))) pa_nil)
      (pk_cons (pe_dget hu (pv 0) pe_str (fun _ _ => rfl)) (pk_cons (pe_dget hu (pv 0) pe_str (fun _ _ => rfl)) (pk_cons (pe_dget hu (pv 0) pe_str (fun _ _ => rfl)) pk_nil))))), ?_⟩
  refine ⟨_, rfl, pm, _, rfl, dget hm.dk m_cups, pc, _, _, _, rfl, rfl, SqL.of hm.cu, atI_nat (j := 0) rfl, _, rfl, pm, _, rfl, dget hm.dk m_cups, pc, _, _, _, rfl, rfl, SqL.of hm.cu, atI_nat (j := 1) rfl, ?_⟩
  refine fun x dx nx ndx nxx => ?_
  have s0 : Same H (upd (upd H dx (.own x)) x (.ins (He.ga K "Belts") dx [])) := Same.upd1 (Same.upd1 (Same.refl H) ndx) (by rw [upd_ne (Ne.symm nxx)]; exact nx)
  refine ⟨x, dx, b.one, b.other, rfl, upd_same, ⟨ok.o1, ok.o2⟩, ⟨ok.t1, ok.t2⟩, fun H1 sb hB => ⟨rfl, ?_⟩⟩
  have s1 : Same H H1 := fun c o e => sb c o (s0 c o e) (ne_of_none e nx)
  have m1 := hm.same s1
  refine ⟨_, rfl, pm, _, rfl, dget m1.dk m_first, _, rfl, pm, _, rfl, dget m1.dk m_size, _, rfl, pm, _, rfl, dget m1.dk m_lone, rfl, rfl, fun y dy ny ndy nyy => ?_⟩
  have s3 : Same H1 (upd (upd H1 dy (.own y)) y (.ins (He.ga K "Book") dy [])) := Same.upd1 (Same.upd1 (Same.refl _) ndy) (by rw [upd_ne (Ne.symm nyy)]; exact ny)
  refine ⟨y, dy, x, dx, pl, b, rfl, upd_same, s3 _ _ hB, s3 _ _ m1.lo, ok, fun H4 sb4 hN => ⟨rfl, ?_⟩⟩
  refine h y H4 (fun c o e => ?_) hN
  have e2 := s1 _ _ e
  exact sb4 c o (s3 c o e2) (ne_of_none e2 ny)
theorem erase_map {α β : Type} (f : α → β) : ∀ (l : List α) (i : Nat), (l.map f).eraseIdx i = (l.eraseIdx i).map f
  | [], _ => rfl
  | _ :: _, 0 => rfl
  | a :: l, i + 1 => congrArg (f a :: ·) (erase_map f l i)
theorem erase_perm : ∀ (l : List Int) (i : Nat) (h : i < l.length), (l[i] :: l.eraseIdx i).Perm l
  | [], _, h => by cases h
  | a :: l, 0, _ => List.Perm.refl _
  | a :: l, i + 1, h =>
    have hi : i < l.length := by simpa using h
    (List.Perm.swap a l[i] (l.eraseIdx i)).trans (List.Perm.cons a (erase_perm l i hi))
abbrev rLenV (K : PySem.W.Frag) : List V → Hp → VK → Prop := fun xs H Q => ∃ x n, xs = [x] ∧ LenV K x H n ∧ Q (.int n) H
/-- the same things in a drawn order -/
def spMixed (K : PySem.W.Frag) : Sp := fun vs H Q _ => ∃ (l q : Addr) (ns : List Int) (n : Int), vs = [.ref l, .ref q] ∧ SrcAt H l n ∧ n < 900000 ∧ H q = some (.lst (ns.map V.int)) ∧ q ≠ l ∧ ns.length ≤ 1000 ∧
  ∀ p (ms : List Int) H', SameBut l H H' → SrcAt H' l (n + 1000) → H' p = some (.lst (ms.map V.int)) → p ≠ l → ms.Perm ns → Q (.ref p) H'
theorem c_mixed (T : Env K mg) : Cal P w K mg base 2 (He.fAd K D_law_mixed.at_) ["_law_source_here", "_law_some"] (spMixed K) := by
  obtain ⟨fd, F⟩ := T.d_law_mixed
  have sc : FnScope ["_law_source_here", "_law_some", "_law_left", "_law_k"] ["_law_source_here", "_law_some"] (defScope S_law_mixed) := ⟨rfl, rfl, rfl, by decide +kernel, rfl, by decide +kernel, by decide +kernel⟩
  refine mkCal F sc (fun _ _ _ _ _ _ us hl => match us, hl with | [_, _], _ => rfl) (fun vs H Q E h => by obtain ⟨a, b, c, d, rfl, _⟩ := h; rfl) (fun cdv A outer s H vs Q E hr h => ?_)
  obtain ⟨l, q, ns, n, rfl, hw, hn, hq, ql, hl, h⟩ := h
  refine ⟨_, pss_cons (ps_set (i := 2) sc.nd rfl (Or.inr rfl) (pe_callTy call_list_of rfl T.b_list (by decide +kernel) (pa_cons (pv 1) pa_nil)))
    (pss_one (ps_ret (pe_lc (own := [("_law_k", 3)]) (g := gName 3) (tt := tYes) (te := tBM K "list" rPopAt (tVar 2) (tCons (tCall spNext [] E0 (tCons (tVar 0) (tCons (tCB (rLenV K) (tCons (tVar 2) tNil)) tNil))) tNil)) rfl sc.nd (pi_range1 rfl T.b_range (pa_cons (pe_callB call_len rfl T.b_len (by decide +kernel) (pa_cons (pv 2) pa_nil)) pa_nil))
      (blkOk_by (own := [("_law_k", 3)]) (N := ["_law_source_here", "_law_some", "_law_left", "_law_k"]) (sc := defScope S_law_mixed) (by decide +kernel)) (fun _ _ _ _ _ => pg_name (i := 3) sc.nd rfl (Or.inl rfl)) (fun _ _ _ _ _ => pts_nil)
      (fun _ _ _ _ _ => by exact (pe_bm PySem.F.plainAttrs_list PySem.F.slot_list_pop PySem.F.type_list_pop mt_popAt (pv 2) (pa_cons (pe_c (c_next T) (hr.mono (by decide)) T.g_law_next (pa_cons (pv 0) (pa_cons (pe_callB call_len rfl T.b_len (by decide +kernel) (pa_cons (pv 2) pa_nil)) pa_nil))) pa_nil)))))), ?_⟩
  refine ⟨_, rfl, q, _, rfl, .inl (SqL.of hq), fun t nt => ?_⟩
  have s1 := @Same.new H t (.lst (ns.map V.int)) nt
  have hw1 := hw.same s1
  have tl : t ≠ l := (hw.ne nt).symm
  have ht1 := @upd_same H t (.lst (ns.map V.int))
  have e1 : ∀ c o, H c = some o → c ≠ t := fun c o e => ne_of_none e nt
  generalize upd H t (.lst (ns.map V.int)) = H1 at s1 hw1 ht1 ⊢
  refine ⟨_, rfl, _, _, rfl, .inl ⟨_, SqL.of ht1, rfl⟩, _, rfl, by omega, by rw [List.length_map]; omega, fun D nD => ?_⟩
  have Dl : D ≠ l := (hw1.ne nD).symm
  have Dt : D ≠ t := fun z => by rw [z, ht1] at nD; cases nD
  refine lc_range (lo := 0) (n := ((((ns.map V.int).length : Nat) : Int)).toNat) (fun i H' => ∃ ls ms : List Int, (∀ c o, H1 c = some o → c ≠ l → c ≠ t → H' c = some o) ∧ SrcAt H' l (n + (i : Int)) ∧ H' t = some (.lst (ls.map V.int)) ∧ H' D = some (.lst (ms.map V.int)) ∧ ms.length = i ∧ (ms ++ ls).Perm ns)
    ⟨ns, [], fun c o e _ _ => Same.new nD _ _ e, (hw1.same (Same.new nD)).le (by omega), Same.new nD _ _ ht1, upd_same, rfl, List.Perm.refl _⟩ ?_ ?_
  · rintro i H' hi ⟨ls, ms, sm, wl, ht, hD, ml, pm⟩
    have il : i < ns.length := by
      rw [List.length_map] at hi
      omega
    have lsl : ls.length = ns.length - i := by
      have := pm.length_eq
      rw [List.length_append, ml] at this
      omega
    refine ⟨rfl, _, rfl, .inl ⟨rfl, _, SqL.of ht⟩, _, rfl, _, rfl, _, _, rfl, .inl ⟨_, SqL.of ht, rfl⟩, l, _, _, rfl, wl, by rw [List.length_map]; omega, by rw [List.length_map]; omega, by omega, fun d H2 s2 w2 d0 d1 => ?_⟩
    rw [List.length_map] at d1
    have ht2 := s2 _ _ ht tl
    have hD2 := s2 _ _ hD Dl
    have dn : d.toNat < ls.length := by omega
    have sq : seqIndex? d (ls.map V.int).length = some d.toNat := by
      unfold seqIndex?
      rw [List.length_map, if_neg (by omega : ¬ d < 0)]
      simp only [d0, d1, decide_true, Bool.and_self, if_true]
    refine ⟨t, _, d, d.toNat, .int ls[d.toNat], rfl, rfl, ht2, by omega, by omega, sq, by rw [List.getElem?_map, List.getElem?_eq_getElem dn]; rfl, ?_⟩
    have hD3 : (upd H2 t (.lst ((ls.map V.int).eraseIdx d.toNat))) D = some (.lst (ms.map V.int)) := by
      rw [upd_ne Dt]
      exact hD2
    refine ⟨_, hD3, by rw [List.length_map, size16]; omega, ls.eraseIdx d.toNat, ms ++ [ls[d.toNat]], fun c o e cl ct => ?_, ?_, ?_, ?_, ?_, ?_⟩
    · rw [upd_ne (ne_of_none e nD), upd_ne ct]
      exact s2 _ _ (sm c o e cl ct) cl
    · exact ((w2.upd tl.symm).upd Dl.symm).le (by omega)
    · rw [upd_ne (Ne.symm Dt), upd_same]
      congr 2
      exact erase_map V.int ls d.toNat
    · rw [upd_same, List.map_append]
      rfl
    · rw [List.length_append, ml]
      rfl
    · have pe : (ls[d.toNat] :: ls.eraseIdx d.toNat).Perm ls := erase_perm ls d.toNat dn
      rw [List.append_assoc]
      exact (List.Perm.append_left ms pe).trans pm
  · rintro H' ⟨ls, ms, sm, wl, ht, hD, ml, pm⟩
    have lz : ls = [] := by
      have := pm.length_eq
      rw [List.length_append, ml, List.length_map] at this
      exact List.eq_nil_of_length_eq_zero (by omega)
    rw [lz, List.append_nil] at pm
    refine h D ms H' (fun c o e cl => sm c o (s1 _ _ e) cl (e1 c o e)) (wl.le (by rw [List.length_map]; omega)) hD Dl pm
end
end Bt
namespace Bt
open PySem PySem.Spec PyProof.Rows L2
open Bm (tiesE rowS rowG IsLink Conn)
/-! ### beats put in -/
theorem cut4_hi (xs : List V) : cutV xs none (some 4) = xs.take 4 := by
  unfold cutV
  have e0 : HT.sIx xs.length 0 none = 0 := rfl
  have e1 : HT.sIx xs.length xs.length (some 4) = min 4 xs.length := HT.sIx_nat xs.length xs.length 4
  rw [e0, e1, List.drop_zero, Nat.sub_zero]
  rcases Nat.le_total 4 xs.length with c | c
  · rw [Nat.min_eq_left c]
  · rw [Nat.min_eq_right c, List.take_of_length_le (Nat.le_refl _), List.take_of_length_le c]
theorem cut4_lo (xs : List V) : cutV xs (some 4) none = xs.drop 4 := by
  unfold cutV
  have e0 : HT.sIx xs.length xs.length none = xs.length := rfl
  have e1 : HT.sIx xs.length 0 (some 4) = min 4 xs.length := HT.sIx_nat xs.length 0 4
  rw [e0, e1]
  rcases Nat.le_total 4 xs.length with c | c
  · rw [Nat.min_eq_left c]
    exact List.take_of_length_le (by rw [List.length_drop]; exact Nat.le_refl _)
  · rw [Nat.min_eq_right c, List.drop_eq_nil_of_le (Nat.le_refl _), List.drop_eq_nil_of_le c, List.take_nil]
/-- beats that may be put in, each tying anew -/
structure PutOk (b : BookD) (told : List Int) : Prop where
  ok : BookOk (b.put (b.singles ++ told))
  free : (tiesE b.rows (b.rel ++ told.map fun t => t - b.begin_)).length = (tiesE b.rows b.rel).length + told.length
theorem rel_put (b : BookD) (ns : List Int) : (b.put (b.singles ++ ns)).rel = b.rel ++ ns.map fun t => t - b.begin_ := by
  show (b.singles ++ ns).map (fun t => t - b.begin_) = _
  rw [List.map_append]
theorem BookOk.mem {b : BookD} {ns ms : List Int} (ok : BookOk (b.put ns)) (l : ms.length ≤ ns.length) (nd : ms.Nodup) (m : ∀ x ∈ ms, x ∈ ns) : BookOk (b.put ms) :=
  ⟨ok.o1, ok.o2, ok.t1, ok.t2, ok.g1, ok.g2, ok.m1, ok.m2, Nat.le_trans l ok.sl, fun s hs => ok.sb s (m s hs), nd⟩
theorem PutOk.perm {b : BookD} {told ms : List Int} (p : PutOk b told) (h : ms.Perm told) : PutOk b ms := by
  have pp : (b.singles ++ ms).Perm (b.singles ++ told) := List.Perm.append_left _ h
  refine ⟨p.ok.mem (Nat.le_of_eq pp.length_eq) (pp.nodup_iff.mpr p.ok.sn) fun x hx => pp.mem_iff.mp hx, ?_⟩
  have := Bm.free_perm (r := b.rows) (ss := b.rel) (h.map fun t => t - b.begin_) (by rw [p.free, List.length_map])
  rw [this, List.length_map]
theorem PutOk.take {b : BookD} {ms : List Int} (p : PutOk b ms) (i : Nat) : BookOk (b.put (b.singles ++ ms.take i)) := by
  have sub : (b.singles ++ ms.take i).Sublist (b.singles ++ ms) := List.Sublist.append (List.Sublist.refl _) (List.take_sublist _ _)
  exact p.ok.mem sub.length_le (p.ok.sn.sublist sub) fun x hx => sub.subset hx
theorem PutOk.rank {b : BookD} {ms : List Int} (p : PutOk b ms) (i : Nat) (hi : i ≤ ms.length) : ((tiesE b.rows (b.put (b.singles ++ ms.take i)).rel).length : Int) = (tiesE b.rows b.rel).length + (i : Int) := by
  have h := Bm.free_take (r := b.rows) (ss := b.rel) (l := ms.map fun t => t - b.begin_) (by rw [p.free, List.length_map]) i
  rw [rel_put, List.map_take, h, List.length_take, List.length_map]
  omega
theorem PutOk.notSure {b : BookD} {ms : List Int} (p : PutOk b ms) {i : Nat} {t : Int} (hi : ms[i]? = some t) : ¬ Sure (b.put (b.singles ++ ms.take i)) t := by
  have h := Bm.free_at (r := b.rows) (ss := b.rel) (l := ms.map fun t => t - b.begin_) (by rw [p.free, List.length_map]) (i := i) (t := t - b.begin_) (by rw [List.getElem?_map, hi]; rfl)
  intro z
  unfold Sure at z
  rw [rel_put, List.map_take] at z
  exact h z
theorem sure_mem {b : BookD} {t : Int} (h : t ∈ b.singles) : Sure b t := Bm.Conn.edge (r := b.rows) (ss := b.rel) (List.mem_map.mpr ⟨t, h, rfl⟩)
section
variable {P : Program} {w : World} {K : PySem.W.Frag} {mg : Str → Option Value} {base : Heap}
def spPutIn (K : PySem.W.Frag) : Sp := fun vs H Q _ => ∃ (l pm px pt : Addr) (b : BookD) (told : List Int) (n : Int), vs = [.ref l, .ref pm, .ref px, .ref pt] ∧ SrcAt H l n ∧ n < 800000 ∧ BookAt K H px b ∧ BookOk b ∧ H pt = some (.lst (told.map V.int)) ∧ pt ≠ l ∧ PutOk b told ∧
  ∀ x (ms : List Int) H', SameBut l H H' → SrcAt H' l (n + 1000) → BookAt K H' x (b.put (b.singles ++ ms)) → ms.Perm told → Q (.ref x) H'
theorem c_put_in (T : Env K mg) : Cal P w K mg base 12 (He.fAd K D_law_put_in.at_) ["_law_source_here", "_law_m", "_law_book", "_law_told"] (spPutIn K) := by
  obtain ⟨fd, F⟩ := T.d_law_put_in
  obtain ⟨fdB, cB⟩ := c_Book_init (P := P) (w := w) (base := base) T
  have sc : FnScope ["_law_source_here", "_law_m", "_law_book", "_law_told", "_law_mixed_here", "_law_beat", "_law_more"] ["_law_source_here", "_law_m", "_law_book", "_law_told"] (defScope S_law_put_in) := ⟨rfl, rfl, rfl, by decide +kernel, rfl, by decide +kernel, by decide +kernel⟩
  refine mkCal F sc (fun _ _ _ _ _ _ us hl => match us, hl with | [_, _, _, _], _ => rfl) (fun vs H Q E h => by obtain ⟨a, b, c, d, e, f, g, rfl, _⟩ := h; rfl) (fun cdv A outer s H vs Q E hr h => ?_)
  obtain ⟨l, pm, px, pt, b, told, n, rfl, hw, hn, hb, ok, ht, ptl, po, h⟩ := h
  have hr2 : Room 2 _ := hr.mono (by decide)
  have hr6 : Room 6 _ := hr.mono (by decide)
  have hr8 : Room 8 _ := hr.mono (by decide)
  have hr10 : Room 10 _ := hr.mono (by decide)
  refine ⟨_, pss_cons (ps_set (i := 4) sc.nd rfl (Or.inl rfl) (pe_c (c_mixed T) hr2 T.g_law_mixed (pa_cons (pv 0) (pa_cons (pv 3) pa_nil))))
    (pss_cons (ps_for PassesOwn.never rfl (pi_list (pe_slice sl_list (pv 4) po_none (po_some pe_int))) (pg_name (i := 5) sc.nd rfl (Or.inl rfl))
      (pss_cons (ps_set (i := 6) sc.nd rfl (Or.inl rfl) (pe_c (c_with_single T) hr8 T.g_with_single (pa_cons (pv 2) (pa_cons (pv 5) pa_nil))))
      (pss_cons (ps_if (PW.pt (pw_or (pt_val (pe_c (c_sure T) hr T.g_sure (pa_cons (pv 2) (pa_cons (pv 5) pa_nil)))) (pw_or (pt_not (pt_val (pe_c (c_sure T) hr T.g_sure (pa_cons (pv 6) (pa_cons (pv 5) pa_nil)))))
        (pw_or1 (pt_cmpR op_ne (pe_c (c_fewest T) hr10 T.g_fewest (pa_cons (pv 6) pa_nil)) (pe_op op_sub (pe_c (c_fewest T) hr10 T.g_fewest (pa_cons (pv 2) pa_nil)) pe_int) (nomark _)))))) (pss_one (ps_ret pe_non)) pss_nil)
      (pss_one (ps_set (i := 2) sc.nd rfl (Or.inl rfl) (pv 6))))))
    (pss_one (ps_ret (mkBook cB T.k_Book hr6 T.g_Book (pa_cons (pe_fld (pv 2) rfl) pa_nil) (pk_cons (pe_fld (pv 2) rfl) (pk_cons (pe_fld (pv 2) rfl)
      (pk_cons (pe_cut (pe_op op_catA (pe_fld (pv 2) rfl) (pe_callTy call_tuple_of rfl T.b_tuple (by decide +kernel) (pa_cons (pe_slice sl_list (pv 4) (po_some pe_int) po_none) pa_nil)))) pk_nil))))))), ?_⟩
  have tlen : told.length ≤ 100 := by
    have := po.ok.sl
    simp only [BookD.put, List.length_append] at this
    omega
  refine ⟨_, rfl, _, rfl, l, pt, told, n, rfl, hw, by omega, ht, ptl, by omega, fun q ms H1 s1 w1 hq ql pmm => ?_⟩
  have hb1 := hb.butS hw s1
  have pom := po.perm pmm
  have mlen : ms.length ≤ 100 := by rw [pmm.length_eq]; exact tlen
  refine ⟨_, rfl, _, rfl, q, _, rfl, SqL.of hq, fun r nr => ?_⟩
  have s2 := @Same.new H1 r (.lst (cutV (ms.map V.int) none (some 4))) nr
  have rv : (upd H1 r (.lst (cutV (ms.map V.int) none (some 4)))) r = some (.lst ((ms.take 4).map V.int)) := by rw [upd_same, cut4_hi, List.map_take]
  have w2 := w1.same s2
  have hb2 := hb1.same s2
  have hq2 := s2 _ _ hq
  have z2 := s1.then s2
  generalize upd H1 r (.lst (cutV (ms.map V.int) none (some 4))) = H2 at s2 rv w2 hb2 hq2 z2 ⊢
  refine ⟨r, rfl, ⟨_, SqL.of rv⟩, for_list (K := K) (a := r) (xs := (ms.take 4).map V.int) (fun i σ H' => ∃ (xb : Addr) (v5 v6 : Option V), σ = [some (.ref l), some (.ref pm), some (.ref xb), some (.ref pt), some (.ref q), v5, v6] ∧ Same H2 H' ∧ BookAt K H' xb (b.put (b.singles ++ ms.take i)))
    ⟨px, none, none, rfl, Same.refl _, by rw [List.take_zero, List.append_nil]; exact hb2⟩ (fun i σ H' _ z => by obtain ⟨_, _, _, _, sm, _⟩ := z; exact SqL.of (sm _ _ rv)) ?_ ?_⟩
  · rintro i y σ H' hy ⟨xb, v5, v6, rfl, sm, hbi⟩
    obtain ⟨t, hti, rfl⟩ := int_at hy
    have i4 : i < 4 ∧ ms[i]? = some t := by
      rw [List.getElem?_take] at hti
      by_cases c : i < 4
      · rw [if_pos c] at hti
        exact ⟨c, hti⟩
      · rw [if_neg c] at hti
        cases hti
    have hmi := i4.2
    have il := (List.getElem?_eq_some_iff.mp hmi).1
    have et : ms.take (i + 1) = ms.take i ++ [t] := by rw [List.take_add_one, hmi]; rfl
    have okn := pom.take (i + 1)
    have okb := pom.take i
    have e1 : b.singles ++ ms.take (i + 1) = (b.put (b.singles ++ ms.take i)).singles ++ [t] := by
      rw [et, ← List.append_assoc]
      rfl
    have tn : t ∉ (b.put (b.singles ++ ms.take i)).singles := by
      have nd := okn.sn
      rw [show (b.put (b.singles ++ ms.take (i + 1))).singles = b.singles ++ ms.take (i + 1) from rfl, e1] at nd
      have := (List.nodup_append.mp nd).2.2
      intro z
      exact this t z t (List.mem_singleton.mpr rfl) rfl
    have r0 := pom.rank i (by omega)
    have r1 := pom.rank (i + 1) (by omega)
    have ns := pom.notSure hmi
    have eb : (b.put (b.singles ++ ms.take i)).put ((b.put (b.singles ++ ms.take i)).singles ++ [t]) = b.put (b.singles ++ ms.take (i + 1)) := by
      rw [← e1]
      rfl
    refine ⟨_, rfl, _, rfl, xb, b.put (b.singles ++ ms.take i), t, rfl, hbi, tn, by rw [eb]; exact okn, fun xm H3 s3 hbm => ?_⟩
    rw [eb] at hbm
    refine ⟨_, rfl, _, rfl, xb, b.put (b.singles ++ ms.take i), t, rfl, hbi.same s3, okb, fun H4 k s4 hk => ⟨k, rfl, ?_⟩⟩
    have : k = false := by
      cases k with
      | false => rfl
      | true => exact absurd (hk.mp rfl) ns
    subst this
    refine ite_ff rfl ?_
    have ts : t ∈ (b.put (b.singles ++ ms.take (i + 1))).singles := by
      show t ∈ b.singles ++ ms.take (i + 1)
      rw [et]
      exact List.mem_append_right _ (List.mem_append_right _ (List.mem_singleton.mpr rfl))
    refine ⟨_, rfl, _, rfl, xm, b.put (b.singles ++ ms.take (i + 1)), t, rfl, hbm.same s4, okn, fun H5 k s5 hk => ⟨k, rfl, ?_⟩⟩
    have : k = true := hk.mpr (sure_mem ts)
    subst this
    refine ite_ff rfl ?_
    have s45 := s4.trans s5
    refine ⟨_, rfl, xm, _, rfl, hbm.same s45, okn, fun H6 s6 => ?_⟩
    refine ⟨_, rfl, xb, _, rfl, (hbi.same s3).same (s45.trans s6), okb, fun H7 s7 => ?_⟩
    refine ⟨_, _, rfl, rfl, rfl, _, rfl, ite_ff ?_ ?_⟩
    · have : lotsN (b.put (b.singles ++ ms.take (i + 1))) - (b.put (b.singles ++ ms.take (i + 1))).rows.shared = lotsN (b.put (b.singles ++ ms.take i)) - (b.put (b.singles ++ ms.take i)).rows.shared - 1 := by
        show b.rows.small - b.rows.bound + (b.rows.great - b.rows.hung) - ((tiesE b.rows (b.put (b.singles ++ ms.take (i + 1))).rel).length : Nat) - b.rows.shared = b.rows.small - b.rows.bound + (b.rows.great - b.rows.hung) - ((tiesE b.rows (b.put (b.singles ++ ms.take i)).rel).length : Nat) - b.rows.shared - 1
        omega
      rw [this]
      simp
    · refine ⟨_, rfl, xm, _, _, rfl, sm.trans (((s3.trans s45).trans s6).trans s7), ?_⟩
      exact hbm.same ((s45.trans s6).trans s7)
  · rintro σ H' ⟨xb, v5, v6, rfl, sm, hbi⟩
    rw [List.length_map] at hbi
    have e4 : ms.take (ms.take 4).length = ms.take 4 := by
      rw [List.length_take]
      rcases Nat.le_total 4 ms.length with c | c
      · rw [Nat.min_eq_left c]
      · rw [Nat.min_eq_right c, List.take_of_length_le (Nat.le_refl _), List.take_of_length_le c]
    rw [e4] at hbi
    have bl : b.singles.length ≤ 100 := ok.sl
    obtain ⟨dxk, pb, dxb, ps, k1, k2, k3⟩ := id hbi
    refine ⟨_, rfl, _, _, _, _, _, rfl, k1, T.c_Book, T.n_Book_belts, lk_Book_belts, _, rfl, _, _, _, _, _, rfl, k1, T.c_Book, T.n_Book_begin, lk_Book_begin, _, rfl, _, _, _, _, _, rfl, k1, T.c_Book, T.n_Book_many, lk_Book_many, ?_⟩
    refine ⟨fun v H3 => ∃ z, v = .ref z ∧ Same H' H3 ∧ H3 z = some (.tup ((b.singles ++ ms).map V.int)), ?_, ?_⟩
    · refine ⟨_, rfl, _, _, _, _, _, rfl, k1, T.c_Book, T.n_Book_singles, lk_Book_singles, _, rfl, _, rfl, q, _, rfl, SqL.of (sm _ _ hq2), fun r1 nr1 => ?_⟩
      have t1 := @Same.new H' r1 (.lst (cutV (ms.map V.int) (some 4) none)) nr1
      have r1v : (upd H' r1 (.lst (cutV (ms.map V.int) (some 4) none))) r1 = some (.lst ((ms.drop 4).map V.int)) := by rw [upd_same, cut4_lo, List.map_drop]
      generalize upd H' r1 (.lst (cutV (ms.map V.int) (some 4) none)) = G1 at t1 r1v ⊢
      refine ⟨r1, _, rfl, .inl ⟨SqL.of r1v, fun r2 nr2 => ?_⟩⟩
      have t2 := @Same.new G1 r2 (.tup ((ms.drop 4).map V.int)) nr2
      have r2v := @upd_same G1 r2 (.tup ((ms.drop 4).map V.int))
      generalize upd G1 r2 (.tup ((ms.drop 4).map V.int)) = G2 at t2 r2v ⊢
      have t12 := t1.trans t2
      have k3' : G2 ps = some (.tup ((b.singles ++ ms.take 4).map V.int)) := t12 _ _ k3
      refine ⟨ps, r2, _, _, rfl, rfl, SqT.of k3', SqT.of r2v, ?_, fun e => ?_, fun _ e => ?_, fun _ _ z nz => ?_⟩
      · rw [List.length_map, List.length_map, List.length_append, List.length_take, List.length_drop, size16]
        omega
      · refine ⟨r2, rfl, t12, ?_⟩
        have e := List.append_eq_nil_iff.mp (List.map_eq_nil_iff.mp e)
        have ed : ms.drop 4 = ms := by
          have := List.take_append_drop 4 ms
          rw [e.2, List.nil_append] at this
          exact this
        rw [r2v, ed, e.1]
        rfl
      · refine ⟨ps, rfl, t12, ?_⟩
        have e := List.map_eq_nil_iff.mp e
        have ed : ms.take 4 = ms := by
          have := List.take_append_drop 4 ms
          rw [e, List.append_nil] at this
          exact this
        rw [k3', ed]
      · refine ⟨z, rfl, t12.trans (Same.new nz), ?_⟩
        rw [upd_same, ← List.map_append, List.append_assoc, List.take_append_drop]
    · rintro v H3 ⟨z, rfl, s3, hz⟩
      refine ⟨rfl, rfl, fun y dy ny ndy nyy => ?_⟩
      have s4 : Same H3 (upd (upd H3 dy (.own y)) y (.ins (He.ga K "Book") dy [])) := Same.upd1 (Same.upd1 (Same.refl _) ndy) (by rw [upd_ne (Ne.symm nyy)]; exact ny)
      refine ⟨y, dy, pb, dxb, z, b.put (b.singles ++ ms), rfl, upd_same, s4 _ _ (s3 _ _ k2), s4 _ _ hz, pom.ok, fun H4 sb4 hN => ⟨rfl, ?_⟩⟩
      have s5 : Same H3 H4 := fun c o e => sb4 c o (s4 c o e) (ne_of_none e ny)
      exact h y ms H4 (((z2.then sm).then s3).then s5) (((w2.same sm).same s3).same s5) hN pmm
end
end Bt
namespace Bt
open PySem PySem.Spec PyProof.Rows L2
/-! ### great books as drawn -/
structure Great62 (b : BookD) (wh en : Int) : Prop where
  o1 : 1 ≤ b.one
  o2 : b.one ≤ 10 ^ 30
  t1 : 1 ≤ b.other
  t2 : b.other ≤ 10 ^ 30
  g1 : -(10 ^ 51) ≤ b.begin_
  g2 : b.begin_ ≤ 10 ^ 51
  m1 : 0 ≤ b.many
  m2 : b.many ≤ 10 ^ 31
  sl : b.singles.length ≤ 3
  sb : ∀ s ∈ b.singles, -(10 ^ 53) ≤ s ∧ s ≤ 10 ^ 53
  sn : b.singles.Nodup
  hw : wh = roundN b.one b.other
  he : en = b.one + b.other - ((Int.gcd b.one b.other : Nat) : Int)
theorem round_b {a b : Int} (a1 : 1 ≤ a) (a2 : a ≤ 10 ^ 30) (b1 : 1 ≤ b) (b2 : b ≤ 10 ^ 30) : 0 < roundN a b ∧ roundN a b ≤ 10 ^ 60 := by
  refine ⟨roundN_pos a1 b1, ?_⟩
  have g0 : 0 < ((Int.gcd a b : Nat) : Int) := by
    have : 0 < Int.gcd a b := Int.gcd_pos_of_ne_zero_left _ (by omega)
    omega
  have q0 : 0 ≤ a / ((Int.gcd a b : Nat) : Int) := Int.ediv_nonneg (by omega) (by omega)
  have q1 : a / ((Int.gcd a b : Nat) : Int) ≤ a := Int.ediv_le_self _ (by omega)
  have := prod_b q0 (by omega : a / ((Int.gcd a b : Nat) : Int) ≤ 10 ^ 30) (by omega : 0 ≤ b) b2
  unfold roundN
  omega
section
variable {P : Program} {w : World} {K : PySem.W.Frag} {mg : Str → Option Value} {base : Heap}
def spLawGreat : Sp := fun vs H Q _ => ∃ l : Addr, vs = [.ref l] ∧ SrcAt H l 0 ∧ ∀ (pm pc pl : Addr) (b : BookD) (wh en : Int) (H' : Hp), SameBut l H H' → SrcAt H' l 300 → MAt H' pm pc pl b wh en → Great62 b wh en → pc ≠ l → H pm = none → Q (.ref pm) H'
theorem c_law_great (T : Env K mg) : Cal P w K mg base 3 (He.fAd K D_law_great.at_) ["_law_source_here"] spLawGreat := by
  obtain ⟨fd, F⟩ := T.d_law_great
  have sc : FnScope ["_law_source_here", "_law_part", "_law_top", "_law_cups", "_law_whole", "_law_enough", "_law_size", "_law_first", "_law_lone", "_law_k", "_law_beat"] ["_law_source_here"] (defScope S_law_great) := ⟨rfl, rfl, rfl, by decide +kernel, rfl, by decide +kernel, by decide +kernel⟩
  refine mkCal F sc (fun _ _ _ _ _ _ us hl => match us, hl with | [_], _ => rfl) (fun vs H Q E h => by obtain ⟨a, rfl, _⟩ := h; rfl) (fun cdv A outer s H vs Q E hr h => ?_)
  obtain ⟨l, rfl, hw, h⟩ := h
  have hr1 : Room 1 _ := hr.mono (by decide)
  refine ⟨_, pss_cut (ps_set (i := 1) sc.nd rfl (Or.inl rfl) (pe_c (c_one T) hr T.g_law_one (pa_cons (pv 0) (pa_cons (pe_lst (pa_cons pe_int (pa_cons pe_int (pa_cons (pe_op op_add pe_int (pe_c (c_next T) hr1 T.g_law_next (pa_cons (pv 0) (pa_cons pe_int pa_nil))))
      (pa_cons (pe_op op_add pe_int (pe_c (c_next T) hr1 T.g_law_next (pa_cons (pv 0) (pa_cons (pe_op op_pow pe_int pe_int) pa_nil)))) pa_nil))))) pa_nil))))
    (pss_cut (ps_set (i := 2) sc.nd rfl (Or.inl rfl) (pe_c (c_one T) hr T.g_law_one (pa_cons (pv 0) (pa_cons (pe_lst (pa_cons pe_int (pa_cons (pe_op op_pow pe_int pe_int) (pa_cons (pe_op op_fdivW (pe_op op_pow pe_int pe_int) (pv 1)) pa_nil)))) pa_nil))))
    (pss_cut (ps_set (i := 3) sc.nd rfl (Or.inl rfl) (pe_lst (pa_cons (pe_op op_mulW (pv 1) (pe_op op_add pe_int (pe_c (c_next T) hr1 T.g_law_next (pa_cons (pv 0) (pa_cons (pv 2) pa_nil))))) (pa_cons (pe_op op_mulW (pv 1) (pe_op op_add pe_int (pe_c (c_next T) hr1 T.g_law_next (pa_cons (pv 0) (pa_cons (pv 2) pa_nil))))) pa_nil))))
    (pss_cut (ps_if (pt_cmpR op_eq (pe_c (c_next T) hr1 T.g_law_next (pa_cons (pv 0) (pa_cons pe_int pa_nil))) pe_int (nomark _))
      (pss_one (ps_asg (pe_callB (call_min2 rfl) rfl T.b_min (by decide +kernel) (pa_cons (pe_op op_pow pe_int pe_int) (pa_cons (pe_op op_add (pe_ix ix_list (pv 3) pe_int (fun _ _ => rfl)) (pe_op op_mulW (pv 1) (pe_c (c_next T) hr1 T.g_law_next (pa_cons (pv 0) (pa_cons pe_int pa_nil))))) pa_nil))) (pg_sub (pv 3) pe_int set_list))) pss_nil)
    (pss_cut (ps_set (i := 4) sc.nd rfl (Or.inl rfl) (pe_op op_mulW (pe_op op_fdivW (pe_ix ix_list (pv 3) pe_int (fun _ _ => rfl)) (pe_c (c_law_common T) hr1 T.g_law_common (pa_cons (pe_ix ix_list (pv 3) pe_int (fun _ _ => rfl)) (pa_cons (pe_ix ix_list (pv 3) pe_int (fun _ _ => rfl)) pa_nil)))) (pe_ix ix_list (pv 3) pe_int (fun _ _ => rfl))))
    (pss_cut (ps_set (i := 5) sc.nd rfl (Or.inl rfl) (pe_op op_sub (pe_op op_add (pe_ix ix_list (pv 3) pe_int (fun _ _ => rfl)) (pe_ix ix_list (pv 3) pe_int (fun _ _ => rfl))) (pe_c (c_law_common T) hr1 T.g_law_common (pa_cons (pe_ix ix_list (pv 3) pe_int (fun _ _ => rfl)) (pa_cons (pe_ix ix_list (pv 3) pe_int (fun _ _ => rfl)) pa_nil)))))
    (pss_cut (ps_set (i := 6) sc.nd rfl (Or.inl rfl) (pe_c (c_one T) hr T.g_law_one (pa_cons (pv 0) (pa_cons (pe_lst (pa_cons (pe_op op_sub (pv 5) (pe_c (c_next T) hr1 T.g_law_next (pa_cons (pv 0) (pa_cons pe_int pa_nil)))) (pa_cons (pe_c (c_next T) hr1 T.g_law_next (pa_cons (pv 0) (pa_cons (pe_op op_add (pv 5) pe_int) pa_nil)))
      (pa_cons (pe_callB (cr_max rfl) rfl T.b_max (by decide +kernel) (pa_cons (pv 3) pa_nil)) (pa_cons pe_int (pa_cons (pe_callB (cr_min rfl) rfl T.b_min (by decide +kernel) (pa_cons (pv 3) pa_nil)) pa_nil)))))) pa_nil))))
    (pss_cut (ps_set (i := 6) sc.nd rfl (Or.inl rfl) (pe_callB (call_max2 rfl) rfl T.b_max (by decide +kernel) (pa_cons pe_int (pa_cons (pv 6) pa_nil))))
    (pss_cut (ps_set (i := 7) sc.nd rfl (Or.inl rfl) (pe_c (c_one T) hr T.g_law_one (pa_cons (pv 0) (pa_cons (pe_lst (pa_cons pe_int (pa_cons (pe_c (c_next T) hr1 T.g_law_next (pa_cons (pv 0) (pa_cons (pe_op op_pow pe_int pe_int) pa_nil))) (pa_cons (pe_op op_sub pe_int (pe_c (c_next T) hr1 T.g_law_next (pa_cons (pv 0) (pa_cons (pe_op op_pow pe_int pe_int) pa_nil)))) pa_nil)))) pa_nil))))
    (pss_cut (ps_set (i := 8) sc.nd rfl (Or.inl rfl) (pe_lst pa_nil))
    (pss_cons (ps_for PassesOwn.never rfl (pi_range1 rfl T.b_range (pa_cons (pe_c (c_one T) hr T.g_law_one (pa_cons (pv 0) (pa_cons (pe_lst (pa_cons pe_int (pa_cons pe_int (pa_cons pe_int (pa_cons pe_int pa_nil))))) pa_nil))) pa_nil)) (pg_name (i := 9) sc.nd rfl (Or.inl rfl))
      (pss_cut (ps_set (i := 10) sc.nd rfl (Or.inl rfl) (pe_op op_add (pe_op op_add (pv 7) (pv 6)) (pe_c (c_one T) hr T.g_law_one (pa_cons (pv 0) (pa_cons (pe_lst (pa_cons (pe_c (c_next T) hr1 T.g_law_next (pa_cons (pv 0) (pa_cons pe_int pa_nil)))
          (pa_cons (pe_c (c_next T) hr1 T.g_law_next (pa_cons (pv 0) (pa_cons (pe_callB (call_min2 rfl) rfl T.b_min (by decide +kernel) (pa_cons (pv 4) (pa_cons (pe_op op_pow pe_int pe_int) pa_nil))) pa_nil))) (pa_cons (pe_un un_neg pe_int) pa_nil)))) pa_nil)))))
      (pss_one (ps_if (pt_cmpR op_notIn_seq (pv 10) (pv 8) rfl) (pss_one (ps_expr (pe_bm PySem.F.plainAttrs_list PySem.F.slot_list_append PySem.F.type_list_append mt_append (pv 8) (pa_cons (pv 10) pa_nil)))) pss_nil))))
    (pss_one (ps_ret (pe_disp (pps_cons pe_str (pv 3) (pps_cons pe_str (pv 4) (pps_cons pe_str (pv 7) (pps_cons pe_str (pv 6) (pps_cons pe_str (pe_callTy call_tuple_of rfl T.b_tuple (by decide +kernel) (pa_cons (pv 8) pa_nil)) (pps_cons pe_str (pv 5) pps_nil)))))) (by rfl) (by rfl) (fun z => by cases z) (by decide)))))))))))))), ?_⟩
  have pw : ∀ k : Nat, k ≤ 90 → CPow 10 (k : Int) := fun k hk => ⟨by omega, by omega, by decide⟩
  refine ⟨fun σ' H' => ∃ part : Int, σ' = [some (.ref l), some (.int part), none, none, none, none, none, none, none, none, none] ∧ SameBut l H H' ∧ SrcAt H' l 10 ∧ 1 ≤ part ∧ part ≤ 10 ^ 14, ?_, ?_⟩
  · refine ⟨_, rfl, _, rfl, l, _, _, rfl, hw, by decide, by decide, by decide, fun d1 H1 s1 w1 d10 d11 => ⟨_, _, rfl, rfl, _, rfl, _, _, rfl, rfl, pw 14 (by decide), l, _, _, rfl, w1, by decide, by decide, by decide, fun d2 H2 s2 w2 d20 d21 => ⟨_, _, rfl, rfl, (by show 4 ≤ sizeLine; decide), fun q nq => ?_⟩⟩⟩
    have d21 : d2 < 10 ^ 14 := d21
    have t2 := @Same.new H2 q (.lst [.int 1, .int 1, .int (1 + d1), .int (1 + d2)]) nq
    refine ⟨l, q, _, _, rfl, w2.same t2, upd_same, (w2.ne nq).symm, by show 0 < 4; decide, by show 4 ≤ 10000; decide, by decide, fun x H3 s3 w3 mx => ?_⟩
    have sA := ((s1.trans s2).then t2).trans s3
    simp only [List.mem_cons, List.not_mem_nil, or_false] at mx
    rcases mx with e | e | e | e
    · exact ⟨1, by subst e; rfl, sA, w3.le (by decide), by decide, by decide⟩
    · exact ⟨1, by subst e; rfl, sA, w3.le (by decide), by decide, by decide⟩
    · exact ⟨1 + d1, by subst e; rfl, sA, w3.le (by decide), by omega, by omega⟩
    · exact ⟨1 + d2, by subst e; rfl, sA, w3.le (by decide), by omega, by omega⟩
  rintro σ1 H1 ⟨part, rfl, z1, w1, p1, p2⟩
  refine ⟨fun σ' H' => ∃ top : Int, σ' = [some (.ref l), some (.int part), some (.int top), none, none, none, none, none, none, none, none] ∧ SameBut l H1 H' ∧ SrcAt H' l 20 ∧ 1 ≤ top ∧ part * top ≤ 10 ^ 30 ∧ top ≤ 10 ^ 30, ?_, ?_⟩
  · refine ⟨_, rfl, _, _, rfl, rfl, pw 9 (by decide), _, _, rfl, rfl, pw 30 (by decide), _, rfl, _, _, rfl, rfl, wdiv (by omega) (by omega), (by show 3 ≤ sizeLine; decide), fun q nq => ?_⟩
    have t2 := @Same.new H1 q (.lst [.int 40, .int (10 ^ 9), .int (10 ^ 30 / part)]) nq
    refine ⟨l, q, [.int 40, .int (10 ^ 9), .int (10 ^ 30 / part)], _, rfl, w1.same t2, upd_same, (w1.ne nq).symm, by show 0 < 3; decide, by show 3 ≤ 10000; decide, by decide, fun x H3 s3 w3 mx => ?_⟩
    have sA := (SameBut.of (p := l) t2).trans s3
    simp only [List.mem_cons, List.not_mem_nil, or_false] at mx
    have q1 : 1 ≤ 10 ^ 30 / part := by
      have := Int.ediv_le_ediv (by omega : 0 < part) (by omega : part ≤ 10 ^ 30)
      rw [Int.ediv_self (by omega)] at this
      exact this
    have q2 : part * (10 ^ 30 / part) ≤ 10 ^ 30 := Int.mul_ediv_self_le (by omega)
    have q3 : 10 ^ 30 / part ≤ 10 ^ 30 := Int.ediv_le_self _ (by decide)
    rcases mx with e | e | e
    · exact ⟨40, by subst e; rfl, sA, w3.le (by decide), by decide, by omega, by decide⟩
    · exact ⟨10 ^ 9, by subst e; rfl, sA, w3.le (by decide), by decide, by omega, by decide⟩
    · exact ⟨10 ^ 30 / part, by subst e; rfl, sA, w3.le (by decide), q1, q2, q3⟩
  rintro σ2 H2 ⟨top, rfl, z12, w2, tp1, tp2, tp3⟩
  have z2 := z1.trans z12
  have cupb : ∀ d, 0 ≤ d → d < top → 1 ≤ part * (1 + d) ∧ part * (1 + d) ≤ 10 ^ 30 := fun d d0 d1 => by
    have h1 : part * (1 + d) ≤ part * top := Int.mul_le_mul_of_nonneg_left (by omega) (by omega)
    have h2 : part * 1 ≤ part * (1 + d) := Int.mul_le_mul_of_nonneg_left (by omega) (by omega)
    omega
  refine ⟨fun σ' H' => ∃ (pc : Addr) (a c : Int), σ' = [some (.ref l), some (.int part), some (.int top), some (.ref pc), none, none, none, none, none, none, none] ∧ SameBut l H2 H' ∧ SrcAt H' l 30 ∧ H' pc = some (.lst [.int a, .int c]) ∧ pc ≠ l ∧ H2 pc = none ∧ (1 ≤ a ∧ a ≤ 10 ^ 30) ∧ (1 ≤ c ∧ c ≤ 10 ^ 30), ?_, ?_⟩
  · refine ⟨_, rfl, _, rfl, _, rfl, l, _, _, rfl, w2, by omega, by omega, by decide, fun d1 H3 s3 w3 d10 d11 => ⟨_, _, rfl, rfl, _, _, rfl, rfl, wmul (by omega) (by omega) (by omega) (by omega), _, rfl, _, rfl, _, rfl, l, _, _, rfl, w3, by omega, by omega, by decide, fun d2 H4 s4 w4 d20 d21 => ⟨_, _, rfl, rfl, _, _, rfl, rfl, wmul (by omega) (by omega) (by omega) (by omega), (by show 2 ≤ sizeLine; decide), fun q nq => ?_⟩⟩⟩
    have ql : q ≠ l := (w4.ne nq).symm
    have t4 := @Same.new H4 q (.lst [.int (part * (1 + d1)), .int (part * (1 + d2))]) nq
    refine ⟨q, part * (1 + d1), part * (1 + d2), rfl, (s3.trans s4).then t4, (w4.same t4).le (by decide), upd_same, ql, ?_, cupb d1 d10 d11, cupb d2 d20 d21⟩
    rcases (s3.trans s4).freeS w4 nq with z | z
    · exact absurd z ql
    · exact z
  rintro σ3 H3 ⟨pc, a, c0, rfl, z23, w3, hpc, pcl, npc, ⟨a1, a2⟩, c1, c2⟩
  have npcH : H pc = none := by
    rcases z2.freeS w2 npc with z | z
    · exact absurd z pcl
    · exact z
  have z3 := z2.trans z23
  refine ⟨fun σ' H' => ∃ (c : Int), σ' = [some (.ref l), some (.int part), some (.int top), some (.ref pc), none, none, none, none, none, none, none] ∧ SameBut l H H' ∧ SrcAt H' l 40 ∧ H' pc = some (.lst [.int a, .int c]) ∧ (1 ≤ c ∧ c ≤ 10 ^ 30), ?_, ?_⟩
  · refine ⟨_, rfl, l, _, _, rfl, w3, by decide, by decide, by decide, fun d H4 s4 w4 d0 d1 => ⟨rfl, _, rfl, ?_⟩⟩
    have hpc4 := s4 _ _ hpc pcl
    by_cases e : d = 0
    · refine ite_tt (decide_eq_true (by rw [e])) ?_
      refine ⟨_, _, rfl, rfl, pw 30 (by decide), _, rfl, pc, _, _, _, rfl, rfl, SqL.of hpc4, atI_nat (j := 0) rfl, _, rfl, _, rfl, l, _, _, rfl, w4, by decide, by decide, by decide, fun g H5 s5 w5 g0 g1 => ⟨_, _, rfl, rfl, wmul (by omega) (by omega) (by omega) (by omega), _, _, rfl, rfl, _, _, rfl, ?_⟩⟩
      have hpc5 := s5 _ _ hpc4 pcl
      have pg0 := Int.mul_nonneg (by omega : 0 ≤ part) g0
      have e30 : (10 : Int) ^ (30 : Int).toNat = 10 ^ 30 := rfl
      obtain ⟨m, hm, m1, m2⟩ : ∃ m : Int, (if a + part * g < 10 ^ (30 : Int).toNat then a + part * g else 10 ^ (30 : Int).toNat) = m ∧ 1 ≤ m ∧ m ≤ 10 ^ 30 := ⟨_, rfl, by rw [e30]; split <;> omega, by rw [e30]; split <;> omega⟩
      rw [hm]
      refine ⟨_, rfl, pc, _, _, 1, rfl, rfl, hpc5, rfl, ?_⟩
      refine ⟨m, rfl, fun b o z ne => ?_, (w5.upd pcl.symm).le (by decide), upd_same, m1, m2⟩
      rw [upd_ne (ne_of_none z npcH)]
      exact (z3.trans (s4.trans s5)) b o z ne
    · exact ite_ff (decide_eq_false (fun z => e (by injection z))) ⟨c0, rfl, z3.trans s4, w4.le (by decide), hpc4, c1, c2⟩
  clear z3 z23 hpc w3 c1 c2 z2 z12 w2 z1 w1
  rintro σ4 H4 ⟨c, rfl, z4, w4, hpc, c1, c2⟩
  have gp : 0 < ((Int.gcd a c : Nat) : Int) := by
    have : 0 < Int.gcd a c := Int.gcd_pos_of_ne_zero_left _ (by omega)
    omega
  have ga : ((Int.gcd a c : Nat) : Int) ≤ a := Int.gcd_le_left _ (by omega)
  have rb := round_b a1 a2 c1 c2
  have q0 : 0 ≤ a / ((Int.gcd a c : Nat) : Int) := Int.ediv_nonneg (by omega) (by omega)
  have q1 : a / ((Int.gcd a c : Nat) : Int) ≤ a := Int.ediv_le_self _ (by omega)
  have ic : SqL K H4 pc [.int a, .int c] := SqL.of hpc
  refine ⟨fun σ' H' => H' = H4 ∧ σ' = [some (.ref l), some (.int part), some (.int top), some (.ref pc), some (.int (roundN a c)), none, none, none, none, none, none], ?_, ?_⟩
  · exact ⟨_, rfl, pc, _, _, _, rfl, rfl, ic, atI_nat (j := 0) rfl, _, rfl, pc, _, _, _, rfl, rfl, ic, atI_nat (j := 0) rfl, _, rfl, pc, _, _, _, rfl, rfl, ic, atI_nat (j := 1) rfl, a, c, rfl, by omega, by omega, _, _, rfl, rfl, wdiv gp (by omega), _, rfl, pc, _, _, _, rfl, rfl, ic, atI_nat (j := 1) rfl, _, _, rfl, rfl, wmul (by omega) (by omega) (by omega) (by omega), rfl, rfl⟩
  rintro σ5 H5 ⟨rfl, rfl⟩
  refine ⟨fun σ' H' => H' = H5 ∧ σ' = [some (.ref l), some (.int part), some (.int top), some (.ref pc), some (.int (roundN a c)), some (.int (a + c - ((Int.gcd a c : Nat) : Int))), none, none, none, none, none], ?_, ?_⟩
  · exact ⟨_, rfl, pc, _, _, _, rfl, rfl, ic, atI_nat (j := 0) rfl, _, rfl, pc, _, _, _, rfl, rfl, ic, atI_nat (j := 1) rfl, _, _, rfl, rfl, _, rfl, pc, _, _, _, rfl, rfl, ic, atI_nat (j := 0) rfl, _, rfl, pc, _, _, _, rfl, rfl, ic, atI_nat (j := 1) rfl, a, c, rfl, by omega, by omega, _, _, rfl, rfl, rfl, rfl⟩
  rintro σ6 H6 ⟨rfl, rfl⟩
  obtain ⟨en, hen⟩ : ∃ en, a + c - ((Int.gcd a c : Nat) : Int) = en := ⟨_, rfl⟩
  obtain ⟨wh, hwh⟩ : ∃ wh, roundN a c = wh := ⟨_, rfl⟩
  rw [hen, hwh]
  rw [hwh] at rb
  refine ⟨fun σ' H' => ∃ sz : Int, σ' = [some (.ref l), some (.int part), some (.int top), some (.ref pc), some (.int wh), some (.int en), some (.int sz), none, none, none, none] ∧ SameBut l H6 H' ∧ SrcAt H' l 60 ∧ sz ≤ 3 * 10 ^ 30, ?_, ?_⟩
  · refine ⟨_, rfl, _, rfl, _, rfl, l, _, _, rfl, w4, by decide, by decide, by decide, fun d1 H1 s1 w1 d10 d11 => ⟨_, _, rfl, rfl, _, rfl, _, rfl, _, _, rfl, rfl, l, _, _, rfl, w1, by omega, by omega, by decide, fun d2 H2 s2 w2 d20 d21 => ?_⟩⟩
    have hp2 := s2 _ _ (s1 _ _ hpc pcl) pcl
    refine ⟨_, rfl, pc, [a, c], rfl, SqL.of hp2, by show 0 < 2; decide, fun mx hx1 hx2 => ?_⟩
    refine ⟨_, rfl, pc, [a, c], rfl, SqL.of hp2, by show 0 < 2; decide, fun mn hn1 hn2 => ⟨(by show 5 ≤ sizeLine; decide), fun q nq => ?_⟩⟩
    have t2 := @Same.new H2 q (.lst [.int (en - d1), .int d2, .int mx, .int 0, .int mn]) nq
    refine ⟨l, q, _, _, rfl, w2.same t2, upd_same, (w2.ne nq).symm, by show 0 < 5; decide, by show 5 ≤ 10000; decide, by decide, fun x H3 s3 w3 mm => ?_⟩
    have sA := ((s1.trans s2).then t2).trans s3
    have hmx : mx = a ∨ mx = c := by simpa using hx1
    have hmn : mn = a ∨ mn = c := by simpa using hn1
    simp only [List.mem_cons, List.not_mem_nil, or_false] at mm
    rcases mm with e | e | e | e | e
    · exact ⟨_, by subst e; rfl, sA, w3.le (by decide), by omega⟩
    · exact ⟨_, by subst e; rfl, sA, w3.le (by decide), by omega⟩
    · exact ⟨_, by subst e; rfl, sA, w3.le (by decide), by omega⟩
    · exact ⟨_, by subst e; rfl, sA, w3.le (by decide), by omega⟩
    · exact ⟨_, by subst e; rfl, sA, w3.le (by decide), by omega⟩
  rintro σ7 H7 ⟨sz0, rfl, z67, w7, sz1⟩
  refine ⟨fun σ' H' => H' = H7 ∧ ∃ sz : Int, σ' = [some (.ref l), some (.int part), some (.int top), some (.ref pc), some (.int wh), some (.int en), some (.int sz), none, none, none, none] ∧ 0 ≤ sz ∧ sz ≤ 3 * 10 ^ 30, ?_, ?_⟩
  · exact ⟨_, rfl, _, _, rfl, rfl, _, rfl, by split <;> omega, by split <;> omega⟩
  rintro σ8 H8 ⟨rfl, sz, rfl, sz0', sz1'⟩
  have z8 := z4.trans z67
  have hpc8 := z67 _ _ hpc pcl
  refine ⟨fun σ' H' => ∃ fi : Int, σ' = [some (.ref l), some (.int part), some (.int top), some (.ref pc), some (.int wh), some (.int en), some (.int sz), some (.int fi), none, none, none] ∧ SameBut l H8 H' ∧ SrcAt H' l 80 ∧ -(10 ^ 50) ≤ fi ∧ fi ≤ 10 ^ 50, ?_, ?_⟩
  · refine ⟨_, rfl, _, rfl, _, _, rfl, rfl, pw 40 (by decide), l, _, _, rfl, w7, by decide, by decide, by decide, fun d1 H1 s1 w1 d10 d11 => ⟨_, rfl, _, _, rfl, rfl, pw 50 (by decide), l, _, _, rfl, w1, by decide, by decide, by decide, fun d2 H2 s2 w2 d20 d21 => ⟨_, _, rfl, rfl, (by show 3 ≤ sizeLine; decide), fun q nq => ?_⟩⟩⟩
    have d11 : d1 < 10 ^ 40 := d11
    have d21 : d2 < 10 ^ 50 := d21
    have t2 := @Same.new H2 q (.lst [.int 0, .int d1, .int (0 - d2)]) nq
    refine ⟨l, q, _, _, rfl, w2.same t2, upd_same, (w2.ne nq).symm, by show 0 < 3; decide, by show 3 ≤ 10000; decide, by decide, fun x H3 s3 w3 mm => ?_⟩
    have sA := ((s1.trans s2).then t2).trans s3
    simp only [List.mem_cons, List.not_mem_nil, or_false] at mm
    rcases mm with e | e | e
    · exact ⟨_, by subst e; rfl, sA, w3.le (by decide), by omega, by omega⟩
    · exact ⟨_, by subst e; rfl, sA, w3.le (by decide), by omega, by omega⟩
    · exact ⟨_, by subst e; rfl, sA, w3.le (by decide), by omega, by omega⟩
  rintro σ9 H9 ⟨fi, rfl, z89, w9, f1, f2⟩
  have z9 := z8.trans z89
  have hpc9 := z89 _ _ hpc8 pcl
  clear z8 z89 z4 z67 hpc hpc8 w4 w7 ic
  refine ⟨fun σ' H' => ∃ pa : Addr, σ' = [some (.ref l), some (.int part), some (.int top), some (.ref pc), some (.int wh), some (.int en), some (.int sz), some (.int fi), some (.ref pa), none, none] ∧ Same H9 H' ∧ H9 pa = none ∧ H' pa = some (.lst []), ?_, ?_⟩
  · exact ⟨(by show 0 ≤ sizeLine; decide), fun q nq => ⟨q, rfl, Same.new nq, nq, upd_same⟩⟩
  rintro σA HA ⟨pa, rfl, t9, npa, hpa⟩
  have zA := z9.then t9
  have wA := w9.same t9
  have hpcA := t9 _ _ hpc9
  have pal : pa ≠ l := (w9.ne npa).symm
  have npaH : H pa = none := by
    rcases z9.freeS w9 npa with z | z
    · exact absurd z pal
    · exact z
  have pcpa : pc ≠ pa := ne_of_none hpc9 npa
  clear z9 w9 hpc9 t9 npa
  refine ⟨_, rfl, (by show 4 ≤ sizeLine; decide), fun q nq => ?_⟩
  have tA := @Same.new HA q (.lst [.int 0, .int 0, .int 1, .int 3]) nq
  refine ⟨l, q, _, _, rfl, wA.same tA, upd_same, (wA.ne nq).symm, by show 0 < 4; decide, by show 4 ≤ 10000; decide, by decide, fun x HB sB wB mx => ?_⟩
  obtain ⟨cnt, rfl, cn0, cn1⟩ : ∃ f : Int, x = .int f ∧ 0 ≤ f ∧ f ≤ 3 := by
    simp only [List.mem_cons, List.not_mem_nil, or_false] at mx
    rcases mx with e | e | e | e
    · exact ⟨0, e, by omega, by omega⟩
    · exact ⟨0, e, by omega, by omega⟩
    · exact ⟨1, e, by omega, by omega⟩
    · exact ⟨3, e, by omega, by omega⟩
  have zB := (zA.then tA).trans sB
  have hpcB := sB _ _ (tA _ _ hpcA) pcl
  have hpaB := sB _ _ (tA _ _ hpa) pal
  refine ⟨cnt, rfl, by omega, by omega, for_range (n := cnt.toNat) (fun i σ H' => ∃ (ns : List Int) (v9 v10 : Option V), σ = [some (.ref l), some (.int part), some (.int top), some (.ref pc), some (.int wh), some (.int en), some (.int sz), some (.int fi), some (.ref pa), v9, v10] ∧
      SameBut l H H' ∧ SrcAt H' l (100 + 10 * (i : Int)) ∧ H' pc = some (.lst [.int a, .int c]) ∧ H' pa = some (.lst (ns.map V.int)) ∧ ns.length ≤ i ∧ ns.Nodup ∧ ∀ s ∈ ns, -(10 ^ 53) ≤ s ∧ s ≤ 10 ^ 53)
    ⟨[], none, none, rfl, zB, wB.le (by omega), hpcB, hpaB, Nat.le_refl _, List.nodup_nil, fun s hs => (by cases hs)⟩ ?_ ?_⟩
  · rintro i σ H' hi ⟨ns, v9, v10, rfl, sm, wl, hpc, hp, hl, hnd, hb⟩
    refine ⟨fun σ' H2 => ∃ t : Int, σ' = [some (.ref l), some (.int part), some (.int top), some (.ref pc), some (.int wh), some (.int en), some (.int sz), some (.int fi), some (.ref pa), some (.int (0 + (i : Int))), some (.int t)] ∧ SameBut l H' H2 ∧ SrcAt H2 l (100 + 10 * (i : Int) + 10) ∧ -(10 ^ 53) ≤ t ∧ t ≤ 10 ^ 53, ?_, ?_⟩
    · refine ⟨_, rfl, _, rfl, _, _, rfl, rfl, _, rfl, _, rfl, l, _, _, rfl, wl, by decide, by decide, by omega, fun d1 H1 s1 w1 d10 d11 => ?_⟩
      refine ⟨_, rfl, _, rfl, _, _, rfl, rfl, pw 50 (by decide), _, _, rfl, ?_⟩
      have e50 : (10 : Int) ^ (50 : Int).toNat = 10 ^ 50 := rfl
      obtain ⟨m, hm, m1, m2⟩ : ∃ m : Int, (if (10 : Int) ^ (50 : Int).toNat < wh then (10 : Int) ^ (50 : Int).toNat else wh) = m ∧ 0 < m ∧ m ≤ 10 ^ 50 := ⟨_, rfl, by rw [e50]; split <;> omega, by rw [e50]; split <;> omega⟩
      rw [hm]
      refine ⟨l, _, _, rfl, w1, m1, by omega, by omega, fun d2 H2 s2 w2 d20 d21 => ⟨_, rfl, (by show 3 ≤ sizeLine; decide), fun q nq => ?_⟩⟩
      have t2 := @Same.new H2 q (.lst [.int d1, .int d2, .int (-1)]) nq
      refine ⟨l, q, [.int d1, .int d2, .int (-1)], _, rfl, w2.same t2, upd_same, (w2.ne nq).symm, by show 0 < 3; decide, by show 3 ≤ 10000; decide, by omega, fun x H3 s3 w3 mm => ?_⟩
      have sA := ((s1.trans s2).then t2).trans s3
      obtain ⟨f, rfl, f0, f1'⟩ : ∃ f : Int, x = .int f ∧ -1 ≤ f ∧ f ≤ 10 ^ 50 := by
        simp only [List.mem_cons, List.not_mem_nil, or_false] at mm
        rcases mm with e | e | e
        · exact ⟨d1, e, by omega, by omega⟩
        · exact ⟨d2, e, by omega, by omega⟩
        · exact ⟨-1, e, by omega, by omega⟩
      exact ⟨_, _, rfl, rfl, _, rfl, sA, w3.le (by omega), by omega, by omega⟩
    rintro σ2 H2 ⟨t, rfl, s2, w2, t1, t2⟩
    have hp2 := s2 _ _ hp pal
    have hpc2 := s2 _ _ hpc pcl
    have sm2 := sm.trans s2
    refine ⟨_, rfl, _, rfl, pa, _, rfl, .inl (SqL.of hp2), rfl, flat_ints _, _, rfl, ?_⟩
    rw [if_pos rfl, inV_ints]
    by_cases ct : t ∈ ns
    · exact ite_ff (by rw [decide_eq_true ct]; rfl) ⟨ns, _, _, rfl, sm2, w2.le (by omega), hpc2, hp2, by omega, hnd, hb⟩
    · refine ite_tt (by rw [decide_eq_false ct]; rfl) ?_
      refine ⟨_, rfl, .inl ⟨rfl, _, SqL.of hp2⟩, _, rfl, pa, _, _, rfl, rfl, hp2, (by rw [List.length_map, size16]; omega), ns ++ [t], _, _, rfl, fun b o z ne => ?_, (w2.upd pal.symm).le (by omega), ?_, ?_, ?_, ?_, fun s hs => ?_⟩
      · rw [upd_ne (ne_of_none z npaH)]
        exact sm2 b o z ne
      · show (L2.upd H2 pa _) pc = _
        rw [upd_ne pcpa]
        exact hpc2
      · rw [upd_same, List.map_append]
        rfl
      · rw [List.length_append]
        show ns.length + 1 ≤ i + 1
        omega
      · refine List.nodup_append.mpr ⟨hnd, by simp, fun x hx y hy e => ?_⟩
        rw [List.mem_singleton.mp hy] at e
        exact ct (e ▸ hx)
      · rcases List.mem_append.mp hs with hs | hs
        · exact hb s hs
        · rw [List.mem_singleton.mp hs]
          exact ⟨t1, t2⟩
  · rintro σ H' ⟨ns, v9, v10, rfl, sm, wl, hpc, hp, hl, hnd, hb⟩
    have hl3 : ns.length ≤ 3 := by omega
    refine fun pm npm => ?_
    have tp := @Same.new H' pm (.dK []) npm
    have pmv := @upd_same H' pm (.dK [])
    refine ⟨_, rfl, _, rfl, _, rfl, _, rfl, _, rfl, pa, _, rfl, .inl ⟨SqL.of (tp _ _ hp), fun pl npl => ⟨_, rfl, ?_⟩⟩⟩
    have tq := @Same.new (L2.upd H' pm (.dK [])) pl (.tup (ns.map V.int)) npl
    refine ⟨tq _ _ pmv, mK pc wh fi sz pl en, rfl, (show 6 ≤ 15 by decide), ?_⟩
    rw [m_merge]
    have pml : pm ≠ l := (wl.ne npm).symm
    have npmH : H pm = none := by
      rcases sm.freeS wl npm with z | z
      · exact absurd z pml
      · exact z
    have keep : Same H' (L2.upd (L2.upd (L2.upd H' pm (.dK [])) pl (.tup (ns.map V.int))) pm (.dK (mK pc wh fi sz pl en))) := fun b o z => by
      have ne := ne_of_none z npm
      rw [upd_ne ne]
      exact tq _ _ (tp _ _ z)
    have plpm : pl ≠ pm := fun z => by
      rw [z, upd_same] at npl
      cases npl
    refine h pm pc pl ⟨a, c, fi, sz, ns⟩ wh en _ (sm.then keep) ((wl.same keep).le (by omega)) ⟨upd_same, keep _ _ hpc, ?_⟩ ⟨a1, a2, c1, c2, by show -(10 ^ 51) ≤ fi; omega, by show fi ≤ 10 ^ 51; omega, sz0', by show sz ≤ 10 ^ 31; omega, hl3, hb, hnd, hwh.symm, hen.symm⟩ pcl npmH
    rw [upd_ne plpm]
    exact upd_same
end
end Bt
namespace Bt
open PySem PySem.Spec PyProof.Rows L2
open Bm (tiesE rowS rowG IsLink Conn MendOk FullT pairsH headOf)
/-! ### a mended book: plain -/
theorem mend_exists (r : Bm.RowsD) (ss : List Int) (lo : Int) : ∀ n : Nat, ∃ F, MendOk r ss lo (lo + (n : Int)) F
  | 0 => ⟨[], (show lo + ((0 : Nat) : Int) = lo by omega).symm ▸ MendOk.nil⟩
  | n + 1 => by
    obtain ⟨F, m⟩ := mend_exists r ss lo n
    have e : lo + ((n + 1 : Nat) : Int) = lo + (n : Int) + 1 := by omega
    rw [e]
    by_cases c : Conn (IsLink r (ss ++ F)) (rowS r (lo + (n : Int))) (rowG r (lo + (n : Int)))
    · exact ⟨F, m.skip c⟩
    · exact ⟨_, m.put (by omega) c⟩
theorem mend_len {r : Bm.RowsD} {ss : List Int} {lo hi : Int} {F : List Int} (m : MendOk r ss lo hi F) (h : lo ≤ hi) : (F.length : Int) ≤ hi - lo := by
  have := Bm.nodup_le m.nd (m := Bm.zr lo hi) fun x hx => Bm.zr_mem.mpr (m.sub x hx)
  rw [Bm.zr_len] at this
  omega
theorem enough_round {a b : Int} (ha : 1 ≤ a) (hb : 1 ≤ b) : min a b + max a b - ((Int.gcd a b : Nat) : Int) ≤ roundN a b := by
  have g0 : 0 < ((Int.gcd a b : Nat) : Int) := by
    have : 0 < Int.gcd a b := Int.gcd_pos_of_ne_zero_left _ (by omega)
    omega
  have d1 : ((Int.gcd a b : Nat) : Int) ∣ a := Int.gcd_dvd_left ..
  have d2 : ((Int.gcd a b : Nat) : Int) ∣ b := Int.gcd_dvd_right ..
  have e := (roundN_eq ha hb).1
  have q1 := Int.ediv_pos_of_pos_of_dvd (by omega : 0 < a) (by omega) d1
  have q2 := Int.ediv_pos_of_pos_of_dvd (by omega : 0 < b) (by omega) d2
  have h1 := Int.mul_ediv_cancel' d1
  have h2 := Int.mul_ediv_cancel' d2
  generalize ((Int.gcd a b : Nat) : Int) = g at *
  have k : 0 ≤ g * ((a / g - 1) * (b / g - 1)) := Int.mul_nonneg (by omega) (Int.mul_nonneg (by omega) (by omega))
  have k2 : g * ((a / g - 1) * (b / g - 1)) = a * (b / g) - b - a + g := by
    have : (a / g - 1) * (b / g - 1) = a / g * (b / g) - b / g - a / g + 1 := by
      rw [Int.sub_mul, Int.mul_sub, Int.one_mul, Int.mul_one]
      omega
    rw [this, Int.mul_add, Int.mul_sub, Int.mul_sub, Int.mul_one, ← Int.mul_assoc, h1, h2]
  omega
section
variable {b : BookD} (ok : BookOk b)
include ok
theorem round_mod (x : Int) : x % roundN b.one b.other % b.rows.small = x % b.rows.small ∧ x % roundN b.one b.other % b.rows.great = x % b.rows.great := by
  have h1 := (roundN_eq ok.o1 ok.t1).1
  have d1 : b.one ∣ roundN b.one b.other := ⟨_, h1⟩
  have d2 : b.other ∣ roundN b.one b.other := Int.dvd_mul_left _ _
  have hs : b.rows.small ∣ roundN b.one b.other := by
    show min b.one b.other ∣ _
    rcases Int.le_total b.one b.other with c | c
    · rw [Int.min_eq_left c]
      exact d1
    · rw [Int.min_eq_right c]
      exact d2
  have hg : b.rows.great ∣ roundN b.one b.other := by
    show max b.one b.other ∣ _
    rcases Int.le_total b.one b.other with c | c
    · rw [Int.max_eq_right c]
      exact d2
    · rw [Int.max_eq_left c]
      exact d1
  exact ⟨Int.emod_emod_of_dvd _ hs, Int.emod_emod_of_dvd _ hg⟩
/-- a told beat ties what its place in the stretch ties -/
theorem told_rows (t : Int) : rowS b.rows ((b.begin_ + t) % roundN b.one b.other - b.begin_) = rowS b.rows t ∧ rowG b.rows ((b.begin_ + t) % roundN b.one b.other - b.begin_) = rowG b.rows t := by
  have hm := round_mod ok (b.begin_ + t)
  have e : ∀ m : Int, (b.begin_ + t) % roundN b.one b.other % m = (b.begin_ + t) % m → ((b.begin_ + t) % roundN b.one b.other - b.begin_) % m = t % m := fun m h => by
    rw [Int.sub_emod, h, ← Int.sub_emod]
    congr 1
    omega
  exact ⟨Bm.rowS_congr (e _ hm.1), Bm.rowG_congr (e _ hm.2)⟩
end
/-- a book, and beats told that mend it -/
structure Mend62 (b : BookD) (F told : List Int) : Prop where
  ok : BookOk b
  len : b.singles.length + F.length ≤ 100
  mo : MendOk b.rows b.rel (min b.many (enoughN b)) (enoughN b) F
  pm : told.Perm (F.map fun t => (b.begin_ + t) % roundN b.one b.other)
section
variable {b : BookD} {F told : List Int} (m : Mend62 b F told)
include m
theorem Mend62.tlen : told.length = F.length := by rw [m.pm.length_eq, List.length_map]
theorem Mend62.bd : ∀ x ∈ told, 0 ≤ x ∧ x < roundN b.one b.other := fun x hx => by
  obtain ⟨t, _, rfl⟩ := List.mem_map.mp (m.pm.mem_iff.mp hx)
  have rp := roundN_pos m.ok.o1 m.ok.t1
  exact ⟨Int.emod_nonneg _ (by omega), Int.emod_lt_of_pos _ rp⟩
theorem Mend62.nd : told.Nodup := by
  refine m.pm.nodup_iff.mpr (Bm.map_nodup m.mo.nd fun x hx y hy e => ?_)
  have h1 := m.mo.sub x hx
  have h2 := m.mo.sub y hy
  have m1 := m.ok.m1
  have er := enough_round m.ok.o1 m.ok.t1
  have ee : enoughN b = min b.one b.other + max b.one b.other - ((Int.gcd b.one b.other : Nat) : Int) := rfl
  have e0 : 0 ≤ enoughN b := by
    have ro := m.ok.rows
    have := ro.s0
    have := ro.sg
    have := ro.bs
    have := ro.b0
    unfold enoughN
    omega
  have d := Int.emod_emod_of_dvd_sub' e
  obtain ⟨k, hk⟩ := d
  have rp := roundN_pos m.ok.o1 m.ok.t1
  have lo0 : 0 ≤ min b.many (enoughN b) := by omega
  have b1 : x - y < roundN b.one b.other := by omega
  have b2 : -(roundN b.one b.other) < x - y := by omega
  have hk : x - y = roundN b.one b.other * k := by omega
  have k0 : k = 0 := by
    rcases Int.lt_trichotomy k 0 with c | c | c
    · have := Int.mul_le_mul_of_nonneg_left (by omega : k ≤ -1) (by omega : 0 ≤ roundN b.one b.other)
      omega
    · exact c
    · have := Int.mul_le_mul_of_nonneg_left (by omega : 1 ≤ k) (by omega : 0 ≤ roundN b.one b.other)
      omega
  rw [k0, Int.mul_zero] at hk
  omega
where
  Int.emod_emod_of_dvd_sub' {x y c n : Int} (e : (c + x) % n = (c + y) % n) : n ∣ (c + x) - (c + y) := Int.dvd_of_emod_eq_zero (Int.emod_eq_emod_iff_emod_sub_eq_zero.mp e)
/-- what the told beats tie, F's do, and the other way -/
theorem Mend62.conn {ms : List Int} (hm : ms.Perm told) : (∀ t ∈ b.rel ++ F, Conn (IsLink b.rows (b.rel ++ ms.map fun t => t - b.begin_)) (rowS b.rows t) (rowG b.rows t)) ∧
    (∀ t ∈ b.rel ++ ms.map (fun t => t - b.begin_), Conn (IsLink b.rows (b.rel ++ F)) (rowS b.rows t) (rowG b.rows t)) := by
  constructor
  · intro t ht
    rcases List.mem_append.mp ht with h | h
    · exact Conn.edge (List.mem_append_left _ h)
    · have e := told_rows m.ok t
      have h2 : (b.begin_ + t) % roundN b.one b.other ∈ ms := hm.mem_iff.mpr (m.pm.mem_iff.mpr (List.mem_map.mpr ⟨t, h, rfl⟩))
      have c := Conn.edge (r := b.rows) (ss := b.rel ++ ms.map fun t => t - b.begin_) (t := (b.begin_ + t) % roundN b.one b.other - b.begin_) (List.mem_append_right _ (List.mem_map.mpr ⟨_, h2, rfl⟩))
      rw [e.1, e.2] at c
      exact c
  · intro t ht
    rcases List.mem_append.mp ht with h | h
    · exact Conn.edge (List.mem_append_left _ h)
    · obtain ⟨x, hx, rfl⟩ := List.mem_map.mp h
      obtain ⟨f, hf, rfl⟩ := List.mem_map.mp (m.pm.mem_iff.mp (hm.mem_iff.mp hx))
      have e := told_rows m.ok f
      rw [e.1, e.2]
      exact Conn.edge (List.mem_append_right _ hf)
theorem Mend62.putOk : PutOk b told := by
  have ok := m.ok
  have rb := round_b ok.o1 ok.o2 ok.t1 ok.t2
  have tl := m.tlen
  have ln := m.len
  have dis : ∀ s ∈ b.singles, ∀ t ∈ told, s ≠ t := by
    intro s hs t ht e
    subst e
    obtain ⟨f, hf, ef⟩ := List.mem_map.mp (m.pm.mem_iff.mp ht)
    obtain ⟨i, hi⟩ := List.getElem?_of_mem hf
    have nc := Bm.free_at m.mo.rk hi
    apply nc
    have er := told_rows ok f
    have c := Conn.edge (r := b.rows) (ss := b.rel ++ F.take i) (t := s - b.begin_) (List.mem_append_left _ (List.mem_map.mpr ⟨s, hs, rfl⟩))
    rw [← ef, er.1, er.2] at c
    exact c
  refine ⟨⟨ok.o1, ok.o2, ok.t1, ok.t2, ok.g1, ok.g2, ok.m1, ok.m2, ?_, fun s hs => ?_, ?_⟩, ?_⟩
  · show (b.singles ++ told).length ≤ 100
    rw [List.length_append]
    omega
  · rcases List.mem_append.mp hs with z | z
    · exact ok.sb s z
    · have := m.bd s z
      omega
  · exact List.nodup_append.mpr ⟨ok.sn, m.nd, dis⟩
  · have h := Bm.rank_congr (m.conn (List.Perm.refl told)).1 (m.conn (List.Perm.refl told)).2
    rw [← h, m.mo.rk, tl]
variable {ms : List Int} (hm : ms.Perm told)
include hm
theorem Mend62.full : FullT b.rows (b.put (b.singles ++ ms)).rel := by
  have f := m.mo.full m.ok.rows (stretch_lo m.ok)
  intro t h0 h1
  rw [rel_put]
  exact Bm.conn_of (m.conn hm).1 (f t h0 h1)
theorem Mend62.lots : lotsN (b.put (b.singles ++ ms)) = b.rows.shared := by
  have h := Bm.full_rank m.ok.rows (m.full hm)
  show b.rows.small - b.rows.bound + (b.rows.great - b.rows.hung) - ((tiesE b.rows (b.put (b.singles ++ ms)).rel).length : Nat) = _
  omega
theorem Mend62.sure (t : Int) : Sure (b.put (b.singles ++ ms)) t := Bm.full_all m.ok.rows (m.full hm) (t - b.begin_)
theorem Mend62.round : pairsH b.rows (headOf (tiesE b.rows (b.put (b.singles ++ ms)).rel)) = roundN b.one b.other := by
  rw [Bm.pairs_full m.ok.rows (m.full hm), (roundN_eq m.ok.o1 m.ok.t1).2]
  rfl
/-- one left out -/
theorem Mend62.lame {x : Int} (hx : x ∈ ms) : lotsN (b.put ((b.singles ++ ms).filter fun s => decide (s ≠ x))) - b.rows.shared = 1 ∧ ¬ Sure (b.put ((b.singles ++ ms).filter fun s => decide (s ≠ x))) x ∧
    pairsH b.rows (headOf (tiesE b.rows (b.put ((b.singles ++ ms).filter fun s => decide (s ≠ x))).rel)) < roundN b.one b.other := by
  have po := m.putOk.perm hm
  have xs : x ∉ b.singles := fun z => (List.nodup_append.mp po.ok.sn).2.2 x z x hx rfl
  have es : b.singles.filter (fun s => decide (s ≠ x)) = b.singles := List.filter_eq_self.mpr fun s hs => decide_eq_true fun e => xs (e ▸ hs)
  have nm : ms.Nodup := (List.nodup_append.mp po.ok.sn).2.1
  have er : (b.put ((b.singles ++ ms).filter fun s => decide (s ≠ x))).rel = b.rel ++ (ms.filter fun s => decide (s ≠ x)).map fun t => t - b.begin_ := by
    rw [List.filter_append, es, rel_put]
  have pmx : (ms.filter (fun s => decide (s ≠ x)) ++ [x]).Perm ms := by
    refine (List.perm_ext_iff_of_nodup (List.nodup_append.mpr ⟨nm.filter _, by simp, fun a ha c hc e => ?_⟩) nm).mpr fun a => ?_
    · rw [List.mem_singleton.mp hc] at e
      exact of_decide_eq_true (List.mem_filter.mp ha).2 e
    · rw [List.mem_append, List.mem_filter, List.mem_singleton]
      constructor
      · rintro (z | z)
        · exact z.1
        · rw [z]
          exact hx
      · intro z
        by_cases c : a = x
        · exact .inr c
        · exact .inl ⟨z, decide_eq_true c⟩
  have hl := pmx.length_eq
  rw [List.length_append] at hl
  have hl : (ms.filter fun s => decide (s ≠ x)).length + 1 = ms.length := hl
  have hr : (tiesE b.rows (b.rel ++ (ms.filter fun s => decide (s ≠ x)).map (fun t => t - b.begin_) ++ [x - b.begin_])).length = (tiesE b.rows b.rel).length + ((ms.filter fun s => decide (s ≠ x)).map fun t => t - b.begin_).length + 1 := by
    rw [List.length_map, List.append_assoc]
    have h1 := po.free
    have h2 := Bm.rank_mem (r := b.rows) (ss := b.rel ++ ((ms.filter fun s => decide (s ≠ x)).map (fun t => t - b.begin_) ++ [x - b.begin_])) (ss' := b.rel ++ ms.map fun t => t - b.begin_) fun t => by
      have : ((ms.filter fun s => decide (s ≠ x)).map (fun t => t - b.begin_) ++ [x - b.begin_]) = (ms.filter (fun s => decide (s ≠ x)) ++ [x]).map fun t => t - b.begin_ := by
        rw [List.map_append]
        rfl
      rw [this, List.mem_append, List.mem_append, (pmx.map fun t => t - b.begin_).mem_iff]
    rw [h2, h1]
    omega
  obtain ⟨k1, k2⟩ := Bm.free_less hr
  have h1 := po.free
  rw [List.length_map] at k1
  have ns : ¬ Sure (b.put ((b.singles ++ ms).filter fun s => decide (s ≠ x))) x := by
    intro z
    unfold Sure at z
    rw [er] at z
    exact k2 z
  refine ⟨?_, ns, ?_⟩
  · have hl := m.lots hm
    have e1 : lotsN (b.put (b.singles ++ ms)) = b.rows.small - b.rows.bound + (b.rows.great - b.rows.hung) - ((tiesE b.rows (b.put (b.singles ++ ms)).rel).length : Nat) := rfl
    have e2 : lotsN (b.put ((b.singles ++ ms).filter fun s => decide (s ≠ x))) = b.rows.small - b.rows.bound + (b.rows.great - b.rows.hung) - ((tiesE b.rows (b.put ((b.singles ++ ms).filter fun s => decide (s ≠ x))).rel).length : Nat) := rfl
    rw [e2, er, k1]
    rw [e1, rel_put, h1] at hl
    omega
  · rw [← m.round hm]
    refine Bm.pairs_less m.ok.rows (fun a c z => z.sub fun t ht => ?_) (t := x - b.begin_) (by rw [er]; exact k2) ?_
    · obtain ⟨s, hs, rfl⟩ := List.mem_map.mp ht
      exact List.mem_map.mpr ⟨s, (List.mem_filter.mp hs).1, rfl⟩
    · exact m.sure hm x
end
end Bt
namespace Bt
open PySem PySem.Spec PyProof.Rows L2
open Bm (tiesE rowS rowG MendOk pairsH headOf)
def rEqInts (K : PySem.W.Frag) : R2 := fun x y H Q => ∃ (a b : Addr) (ns ms : List Int), x = .ref a ∧ y = .ref b ∧ SqL K H a (ns.map V.int) ∧ SqL K H b (ms.map V.int) ∧ Q (.bl (decide (ns = ms))) H
theorem op_eqInts {X : Cx} (hu : X.A.units + 64 < cLine) : OpR X (compareOp .Eq) (rEqInts X.K) := by
  intro pins s σ H x y v u Q I rx ry h
  obtain ⟨a, b, ns, ms, rfl, rfl, ha, hb, q⟩ := h
  cases rx
  cases ry
  obtain ⟨as, r1, p1, _⟩ := I.list ha
  obtain ⟨bs, r2, p2, _⟩ := I.list hb
  exact PySem.W.ke_eq_ints p1.isList p2.isList (ints_vals r1) (ints_vals r2) hu ⟨.bl _, H, I, rfl, q⟩
abbrev rLeI : R2 := rI0 fun i j => .bl (decide (i ≤ j))
abbrev rLtI : R2 := rI0 fun i j => .bl (decide (i < j))
abbrev rAbsI : List V → Hp → VK → Prop := fun xs H Q => ∃ i, xs = [.int i] ∧ Q (.int (if i < 0 then -i else i)) H
abbrev rPowI : R2 := rI CPow fun i j => .int (i ^ j.toNat)
/-- two rising lists of the same numbers -/
theorem rising_eq {ns ms : List Int} (hn : ns.Pairwise (· < ·)) (hm : ms.Pairwise (· < ·)) (h : ∀ k, k ∈ ns ↔ k ∈ ms) : ns = ms := by
  have n1 : ns.Nodup := hn.imp fun h => Int.ne_of_lt h
  have n2 : ms.Nodup := hm.imp fun h => Int.ne_of_lt h
  have p := (List.perm_ext_iff_of_nodup n1 n2).mpr h
  exact p.eq_of_pairwise (le := fun a b => a ≤ b) (fun a b _ _ h1 h2 => Int.le_antisymm h1 h2) (hn.imp fun h => Int.le_of_lt h) (hm.imp fun h => Int.le_of_lt h)
end Bt
namespace Bt
open PySem PySem.Spec PyProof.Rows L2
open Bm (tiesE rowS rowG MendOk pairsH headOf)
section
variable {P : Program} {w : World} {K : PySem.W.Frag} {mg : Str → Option Value} {base : Heap}
theorem Great62.book {b0 : BookD} {wh en mz : Int} (g : Great62 b0 wh en) (m0 : 0 ≤ mz) (m1 : mz ≤ 10 ^ 31) : BookOk { b0 with many := mz } :=
  ⟨g.o1, g.o2, g.t1, g.t2, by show -(10 ^ 60) ≤ b0.begin_; have := g.g1; omega, by show b0.begin_ ≤ 10 ^ 60; have := g.g2; omega, m0, m1, by show b0.singles.length ≤ 100; have := g.sl; omega, fun s hs => by have := g.sb s hs; omega, g.sn⟩
theorem enough_eq (b : BookD) : enoughN b = b.one + b.other - ((Int.gcd b.one b.other : Nat) : Int) := by
  show min b.one b.other + max b.one b.other - ((Int.gcd b.one b.other : Nat) : Int) = _
  omega
def spRight : Sp := fun vs H Q _ => ∃ l : Addr, vs = [.ref l] ∧ SrcAt H l 0 ∧ ∀ H', SameBut l H H' → Q (.bl true) H'
set_option maxHeartbeats 16000000 in
theorem c_right (T : Env K mg) : Cal P w K mg base 15 (He.fAd K D_law_right.at_) ["_law_source_here"] spRight := by
  obtain ⟨fd, F⟩ := T.d_law_right
  have sc : FnScope ["_law_source_here", "_law_m", "_law_short", "_law_beat", "_law_book", "_law_told", "_law_mended", "_law_some", "_law_lame"] ["_law_source_here"] (defScope S_law_right) := ⟨rfl, rfl, rfl, by decide +kernel, rfl, by decide +kernel, by decide +kernel⟩
  refine mkCal F sc (fun _ _ _ _ _ _ us hl => match us, hl with | [_], _ => rfl) (fun vs H Q E h => by obtain ⟨a, rfl, _⟩ := h; rfl) (fun cdv A outer st H vs Q E hr h => ?_)
  obtain ⟨l, rfl, hw, h⟩ := h
  have hr1 : Room 1 _ := hr.mono (by decide)
  have hr2 : Room 2 _ := hr.mono (by decide)
  have hr3 : Room 3 _ := hr.mono (by decide)
  have hr7 : Room 7 _ := hr.mono (by decide)
  have hr8 : Room 8 _ := hr.mono (by decide)
  have hr10 : Room 10 _ := hr.mono (by decide)
  have hr11 : Room 11 _ := hr.mono (by decide)
  have hr12 : Room 12 _ := hr.mono (by decide)
  have hu := hu_of hr
  refine ⟨_, pss_cons (ps_set (i := 1) sc.nd rfl (Or.inr rfl) (pe_c (c_law_great T) hr3 T.g_law_great (pa_cons (pv 0) pa_nil)))
    (pss_cut (ps_set (i := 2) sc.nd rfl (Or.inl rfl) (pe_c (c_one T) hr2 T.g_law_one (pa_cons (pv 0) (pa_cons (pe_lst (pa_cons (pe_c (c_next T) hr1 T.g_law_next (pa_cons (pv 0) (pa_cons pe_int pa_nil))) (pa_cons pe_int
      (pa_cons (pe_op op_sub pe_int (pe_callB call_len rfl T.b_len (by decide +kernel) (pa_cons (pe_dget hu (pv 1) pe_str (fun _ _ => rfl)) pa_nil))) (pa_cons (pe_op op_add pe_int (pe_c (c_next T) hr1 T.g_law_next (pa_cons (pv 0) (pa_cons pe_int pa_nil)))) pa_nil))))) pa_nil))))
    (pss_cut (ps_dput hu (pv 1) pe_str (pe_callB (call_max2 rfl) rfl T.b_max (by decide +kernel) (pa_cons pe_int (pa_cons (pe_op op_sub (pe_dget hu (pv 1) pe_str (fun _ _ => rfl)) (pv 2)) pa_nil))) rfl)
    (pss_cut (ps_dput hu (pv 1) pe_str (pe_callTy call_tuple_of rfl T.b_tuple (by decide +kernel) (pa_cons (pe_lc (own := [("_law_beat", 3)]) (g := gName 3) (tt := tTest (tOp rLeI (tCB rAbsI (tCons (tVar 3) tNil)) (tOp rPowI (tC (.int 10)) (tC (.int 55))))) (te := tVar 3) rfl sc.nd (pi_tup (pe_dget hu (pv 1) pe_str (fun _ _ => rfl)))
        (blkOk_by (own := [("_law_beat", 3)]) (N := ["_law_source_here", "_law_m", "_law_short", "_law_beat", "_law_book", "_law_told", "_law_mended", "_law_some", "_law_lame"]) (sc := defScope S_law_right) (by decide +kernel)) (fun _ _ _ _ _ => pg_name (i := 3) sc.nd rfl (Or.inl rfl))
        (fun _ _ _ _ _ => by exact (pts_one (pt_cmpR op_le (pe_callB call_abs rfl T.b_abs (by decide +kernel) (pa_cons (pv 3) pa_nil)) (pe_op op_pow pe_int pe_int) (nomark _)))) (fun _ _ _ _ _ => pv 3)) pa_nil)) rfl)
    (pss_cons (ps_set (i := 4) sc.nd rfl (Or.inl rfl) (pe_c (c_made T) hr7 T.g_law_made (pa_cons (pv 1) pa_nil)))
    (pss_cons (ps_set (i := 5) sc.nd rfl (Or.inl rfl) (pe_c (c_mending T) hr11 T.g_mending (pa_cons (pv 4) pa_nil)))
    (pss_cut (ps_if (PW.pt (pw_or (pt_cmpR (op_neInts hr.units) (pv 5) (pe_cut (pe_callB (cr_sortedSetI rfl) rfl T.b_sorted (by decide +kernel) (pa_cons (pe_callTy (cr_setL rfl) rfl T.b_set (by decide +kernel) (pa_cons (pv 5) pa_nil)) pa_nil))) (nomark _))
      (pw_or1 (pt_cmpR (op_neInts hr.units) (pe_lc (own := [("_law_beat", 3)]) (g := gName 3) (tt := tNot (tTest (tChain rLeI rLtI (tC (.int 0)) (tVar 3) (tDGet (tVar 1) (tC (.str "whole")))))) (te := tVar 3) rfl sc.nd (pi_list (pv 5))
        (blkOk_by (own := [("_law_beat", 3)]) (N := ["_law_source_here", "_law_m", "_law_short", "_law_beat", "_law_book", "_law_told", "_law_mended", "_law_some", "_law_lame"]) (sc := defScope S_law_right) (by decide +kernel)) (fun _ _ _ _ _ => pg_name (i := 3) sc.nd rfl (Or.inl rfl))
        (fun _ _ _ _ _ => by exact (pts_one (pt_not (pt_chain op_le op_lt pe_int (pv 3) (pe_dget hu (pv 1) pe_str (fun _ _ => rfl)))))) (fun _ _ _ _ _ => pv 3)) (pe_lst pa_nil) (nomark _))))) (pss_one (ps_ret pe_bl)) pss_nil)
    (pss_cons (ps_set (i := 6) sc.nd rfl (Or.inr rfl) (pe_c (c_put_in T) hr12 T.g_law_put_in (pa_cons (pv 0) (pa_cons (pv 1) (pa_cons (pv 4) (pa_cons (pv 5) pa_nil))))))
    (pss_cut (ps_if (PW.pt (pw_or (pt_cmpR op_isN (pv 6) pe_non (nomark _)) (pw_or (pt_cmpR op_ne (pe_c (c_fewest T) hr10 T.g_fewest (pa_cons (pv 6) pa_nil)) pe_int (nomark _))
      (pw_or1 (pt_cmpR (op_neInts hr.units) (pe_c (c_mending T) hr11 T.g_mending (pa_cons (pv 6) pa_nil)) (pe_lst pa_nil) (nomark _)))))) (pss_one (ps_ret pe_bl)) pss_nil)
    (pss_cut (ps_if (PW.pt (pw_or (pt_cmpR op_ne (pe_c (c_how_many_lots T) hr10 T.g_how_many_lots (pa_cons (pv 6) pa_nil)) (pe_c (c_law_common T) hr1 T.g_law_common (pa_cons (pe_ix ix_list (pe_dget hu (pv 1) pe_str (fun _ _ => rfl)) pe_int (fun _ _ => rfl)) (pa_cons (pe_ix ix_list (pe_dget hu (pv 1) pe_str (fun _ _ => rfl)) pe_int (fun _ _ => rfl)) pa_nil))) (nomark _))
      (pw_or1 (pt_cmpR op_ne (pe_c (c_in_round T) hr10 T.g_in_round (pa_cons (pv 6) pa_nil)) (pe_dget hu (pv 1) pe_str (fun _ _ => rfl)) (nomark _))))) (pss_one (ps_ret pe_bl)) pss_nil)
    (pss_cut (ps_set (i := 7) sc.nd rfl (Or.inl rfl) (pe_lst (pa_cons (pe_c (c_next T) hr1 T.g_law_next (pa_cons (pv 0) (pa_cons (pe_dget hu (pv 1) pe_str (fun _ _ => rfl)) pa_nil))) (pa_cons (pe_op op_sub pe_int (pe_c (c_next T) hr1 T.g_law_next (pa_cons (pv 0) (pa_cons (pe_op op_pow pe_int pe_int) pa_nil))))
      (pa_cons (pe_op op_add (pe_dget hu (pv 1) pe_str (fun _ _ => rfl)) (pe_dget hu (pv 1) pe_str (fun _ _ => rfl))) (pa_cons (pe_op op_sub (pe_dget hu (pv 1) pe_str (fun _ _ => rfl)) pe_int) pa_nil))))))
    (pss_cut (ps_if (pt_cmpR (op_neInts hr.units) (pe_lc (own := [("_law_beat", 3)]) (g := gName 3) (tt := tNot (tB (tCall (spSure K) [] E0 (tCons (tVar 6) (tCons (tVar 3) tNil))))) (te := tVar 3) rfl sc.nd (pi_list (pv 7))
        (blkOk_by (own := [("_law_beat", 3)]) (N := ["_law_source_here", "_law_m", "_law_short", "_law_beat", "_law_book", "_law_told", "_law_mended", "_law_some", "_law_lame"]) (sc := defScope S_law_right) (by decide +kernel)) (fun _ _ _ _ _ => pg_name (i := 3) sc.nd rfl (Or.inl rfl))
        (fun _ _ _ _ _ => by exact (pts_one (pt_not (pt_val (pe_c (c_sure T) (hr11.mono (by decide)) T.g_sure (pa_cons (pv 6) (pa_cons (pv 3) pa_nil))))))) (fun _ _ _ _ _ => pv 3)) (pe_lst pa_nil) (nomark _)) (pss_one (ps_ret pe_bl)) pss_nil)
    (pss_cons (ps_if (pt_cmpR (op_eqInts hr.units) (pv 5) (pe_lst pa_nil) (nomark _)) (pss_one (ps_ret (pe_cmpR op_eq (pe_c (c_in_round T) hr10 T.g_in_round (pa_cons (pv 4) pa_nil)) (pe_dget hu (pv 1) pe_str (fun _ _ => rfl)) (nomark _)))) pss_nil)
    (pss_cons (ps_set (i := 3) sc.nd rfl (Or.inl rfl) (pe_c (c_one T) hr2 T.g_law_one (pa_cons (pv 0) (pa_cons (pv 5) pa_nil))))
    (pss_cons (ps_set (i := 8) sc.nd rfl (Or.inl rfl) (pe_c (c_without_single T) hr8 T.g_without_single (pa_cons (pv 6) (pa_cons (pv 3) pa_nil))))
    (pss_one (ps_ret (pe_and (pe_cmpR op_eq (pe_c (c_fewest T) hr10 T.g_fewest (pa_cons (pv 8) pa_nil)) pe_int (nomark _)) (pe_and (pe_not (pe_c (c_sure T) hr11 T.g_sure (pa_cons (pv 8) (pa_cons (pv 3) pa_nil))))
      (pe_one (pe_cmpR op_lt (pe_c (c_in_round T) hr10 T.g_in_round (pa_cons (pv 8) pa_nil)) (pe_dget hu (pv 1) pe_str (fun _ _ => rfl)) (nomark _))))))))))))))))))))), ?_⟩
  have pw : ∀ k : Nat, k ≤ 90 → CPow 10 (k : Int) := fun k hk => ⟨by omega, by omega, by decide⟩
  refine ⟨_, rfl, l, rfl, hw, fun pm pc pl b0 wh en H1 s1 w1 hm gr pcl npm => ?_⟩
  have pml : pm ≠ l := by
    obtain ⟨_, _, _, hl, _⟩ := w1
    exact ne_of hm.dk hl (by intro z; cases z)
  have sl3 := gr.sl
  have rb := round_b gr.o1 gr.o2 gr.t1 gr.t2
  have ehw := gr.hw
  have ehe := gr.he
  have g1 := Int.gcd_le_left (a := b0.one) b0.other (by have := gr.o1; omega)
  have g0 : 0 < ((Int.gcd b0.one b0.other : Nat) : Int) := by
    have : 0 < Int.gcd b0.one b0.other := Int.gcd_pos_of_ne_zero_left _ (by have := gr.o1; omega)
    omega
  have o1 := gr.o1
  have o2 := gr.o2
  have t1 := gr.t1
  have t2 := gr.t2
  refine ⟨fun σ' H' => ∃ short : Int, σ' = [some (.ref l), some (.ref pm), some (.int short), none, none, none, none, none, none] ∧ SameBut l H1 H' ∧ SrcAt H' l 310 ∧ 0 ≤ short ∧ short + (b0.singles.length : Nat) ≤ 100, ?_, ?_⟩
  · refine ⟨_, rfl, _, rfl, l, _, _, rfl, w1, by decide, by decide, by decide, fun d1 H2 s2 w2 d10 d11 => ?_⟩
    have m2 := hm.but w1 pcl s2
    refine ⟨_, rfl, pm, _, rfl, dget m2.dk m_lone, _, _, rfl, .inr ⟨_, SqT.of m2.lo, rfl⟩, _, _, rfl, rfl, ?_⟩
    refine ⟨_, rfl, l, _, _, rfl, w2, by decide, by decide, by decide, fun d2 H3 s3 w3 d20 d21 => ⟨_, _, rfl, rfl, (by show 4 ≤ sizeLine; decide), fun q nq => ?_⟩⟩
    have t3 := @Same.new H3 q (.lst [.int d1, .int 97, .int (100 - (((b0.singles.map V.int).length : Nat) : Int)), .int (90 + d2)]) nq
    refine ⟨l, q, _, _, rfl, w3.same t3, upd_same, (w3.ne nq).symm, by show 0 < 4; decide, by show 4 ≤ 10000; decide, by decide, fun x H4 s4 w4 mx => ?_⟩
    have sA := ((s2.trans s3).then t3).trans s4
    have lm : (b0.singles.map V.int).length = b0.singles.length := List.length_map _
    simp only [List.mem_cons, List.not_mem_nil, or_false] at mx
    rcases mx with e | e | e | e
    · exact ⟨_, by subst e; rfl, sA, w4.le (by decide), by omega, by omega⟩
    · exact ⟨_, by subst e; rfl, sA, w4.le (by decide), by omega, by omega⟩
    · exact ⟨_, by subst e; rfl, sA, w4.le (by decide), by omega, by omega⟩
    · exact ⟨_, by subst e; rfl, sA, w4.le (by decide), by omega, by omega⟩
  rintro σ1 H2 ⟨short, rfl, s2, w2, sh0, sh1⟩
  have m2 := hm.but w1 pcl s2
  have z2 := s1.trans s2
  clear hm s2 w1
  refine ⟨fun σ' H' => ∃ mz : Int, σ' = [some (.ref l), some (.ref pm), some (.int short), none, none, none, none, none, none] ∧ SameBut l H H' ∧ SrcAt H' l 310 ∧ MAt H' pm pc pl { b0 with many := mz } wh en ∧ 0 ≤ mz ∧ mz ≤ en ∧ en - mz ≤ short, ?_, ?_⟩
  · refine ⟨_, rfl, pm, _, rfl, dget m2.dk m_enough, _, rfl, _, _, rfl, rfl, _, _, rfl, ?_⟩
    obtain ⟨mz, hmz, z0, z1, z3⟩ : ∃ mz : Int, (if en - short > 0 then en - short else 0) = mz ∧ 0 ≤ mz ∧ mz ≤ en ∧ en - mz ≤ short := ⟨_, rfl, by split <;> omega, by split <;> omega, by split <;> omega⟩
    rw [hmz]
    refine ⟨_, rfl, pm, _, rfl, dput m2.dk (by show 6 < sizeLine; decide) m_put_size, mz, rfl, fun b o e ne => ?_, w2.upd pml.symm, ⟨upd_same, ?_, ?_⟩, z0, z1, z3⟩
    · rw [upd_ne (ne_of_none e npm)]
      exact z2 b o e ne
    · show (L2.upd H2 pm _) pc = _
      rw [upd_ne (ne_of m2.cu m2.dk (by intro z; cases z))]
      exact m2.cu
    · show (L2.upd H2 pm _) pl = _
      rw [upd_ne (ne_of m2.lo m2.dk (by intro z; cases z))]
      exact m2.lo
  clear z2 m2 w2
  rintro σ2 H3 ⟨mz, rfl, z3, w3, m3, mz0, mz1, mz2⟩
  obtain ⟨b, hbd⟩ : ∃ b, b = ({ b0 with many := mz } : BookD) := ⟨_, rfl⟩
  have bok : BookOk b := by
    rw [hbd]
    exact gr.book mz0 (by omega)
  have ebm : b.many = mz := by rw [hbd]
  have ebs : b.singles = b0.singles := by rw [hbd]
  have een : enoughN b = en := by rw [enough_eq, hbd, ehe]
  have ewh : wh = roundN b.one b.other := by rw [hbd]; exact ehw
  have ebl : b.singles.length ≤ 3 := by rw [ebs]; exact sl3
  have bsb : ∀ s ∈ b.singles, -(10 ^ 53) ≤ s ∧ s ≤ 10 ^ 53 := by rw [ebs]; exact gr.sb
  rw [← hbd] at m3
  refine ⟨fun σ' H' => ∃ pl2 : Addr, σ' = [some (.ref l), some (.ref pm), some (.int short), none, none, none, none, none, none] ∧ SameBut l H H' ∧ SrcAt H' l 310 ∧ MAt H' pm pc pl2 b wh en, ?_, ?_⟩
  · refine ⟨_, rfl, pm, _, rfl, dget m3.dk m_lone, pl, rfl, ⟨_, SqT.of m3.lo⟩, fun D nD => ?_⟩
    refine lc_tup (K := K) (a := pl) (xs := b.singles.map V.int) (fun i H' => Same H3 H' ∧ H' D = some (.lst ((b.singles.take i).map V.int))) ⟨Same.new nD, upd_same⟩ (fun i H' _ z => Same.seqT z.1 (SqT.of m3.lo)) ?_ ?_
    · rintro i y H' hy ⟨sm, hD⟩
      obtain ⟨v, hv, rfl⟩ := int_at hy
      have il := (List.getElem?_eq_some_iff.mp hv).1
      have bv := bsb v (List.mem_of_getElem? hv)
      refine ⟨rfl, _, rfl, _, rfl, _, _, rfl, rfl, pw 55 (by decide), _, _, rfl, rfl, _, rfl, ite_tt (decide_eq_true ?_) ⟨_, rfl, _, hD, ?_, fun c0 o z => ?_, ?_⟩⟩
      · show (if v < 0 then -v else v) ≤ (10 : Int) ^ 55
        split <;> omega
      · rw [List.length_map, List.length_take, size16]
        omega
      · rw [upd_ne (ne_of_none z nD)]
        exact sm c0 o z
      · rw [upd_same, List.take_add_one, hv, List.map_append]
        rfl
    · rintro H4 ⟨s4, hD⟩
      rw [List.length_map, List.take_length] at hD
      have m4 := m3.same s4
      have w4 := w3.same s4
      refine ⟨D, _, rfl, .inl ⟨SqL.of hD, fun q nq => ?_⟩⟩
      have t4 := @Same.new H4 q (.tup (b.singles.map V.int)) nq
      have m5 := m4.same t4
      have qv := @upd_same H4 q (.tup (b.singles.map V.int))
      refine ⟨_, rfl, pm, _, rfl, dput m5.dk (by show 6 < sizeLine; decide) m_put_lone, q, rfl, fun c o e ne => ?_, (w4.same t4).upd pml.symm, ⟨upd_same, ?_, ?_⟩⟩
      · rw [upd_ne (ne_of_none e npm)]
        exact t4 _ _ (s4 _ _ (z3 c o e ne))
      · rw [upd_ne (ne_of m5.cu m5.dk (by intro z; cases z))]
        exact m5.cu
      · rw [upd_ne (ne_of qv m5.dk (by intro z; cases z))]
        exact qv
  clear z3 w3 m3
  rintro σ3 H4 ⟨pl2, rfl, z4, w4, m4⟩
  refine ⟨_, rfl, pm, pc, pl2, b, wh, en, rfl, m4, bok, fun px H5 s5 hb5 => ?_⟩
  have lo0 : min b.many (enoughN b) = mz := by omega
  obtain ⟨Fe, moe⟩ := mend_exists b.rows b.rel (min b.many (enoughN b)) (enoughN b - min b.many (enoughN b)).toNat
  have ehi : min b.many (enoughN b) + (((enoughN b - min b.many (enoughN b)).toNat : Nat) : Int) = enoughN b := by omega
  rw [ehi] at moe
  have ece := moe.count bok.rows (stretch_lo bok)
  have ele := mend_len moe (by omega)
  have hcond : lotsN b - b.rows.shared + (b.singles.length : Nat) ≤ 100 := by
    have e1 : lotsN b - b.rows.shared = (Fe.length : Int) := ece
    rw [e1, ebs]
    omega
  have hcond2 : enoughN b - min b.many (enoughN b) ≤ 200 := by omega
  clear moe ece ele Fe
  refine ⟨_, rfl, px, b, rfl, hb5, bok, hcond, hcond2, fun pt H6 Fm told s6 mo pmt pwt ht npt => ?_⟩
  have z6 := (z4.then s5).then s6
  have w6 := (w4.same s5).same s6
  have m6 := (m4.same s5).same s6
  have hb6 := hb5.same s6
  have ptl : pt ≠ l := ((w4.same s5).ne npt).symm
  have hlen : b.singles.length + Fm.length ≤ 100 := by
    have ec := mo.count bok.rows (stretch_lo bok)
    have e1 : lotsN b - b.rows.shared = (Fm.length : Int) := ec
    omega
  have me : Mend62 b Fm told := ⟨bok, hlen, mo, pmt⟩
  have tlen : told.length ≤ 100 := by rw [me.tlen]; omega
  have trise : told.Pairwise (· < ·) := by
    have nd := me.nd
    rw [List.nodup_iff_pairwise_ne] at nd
    exact (pwt.and nd).imp fun ⟨h1, h2⟩ => by omega
  clear z4 w4 m4 s5 hb5 s6
  refine ⟨fun σ' H' => σ' = [some (.ref l), some (.ref pm), some (.int short), none, some (.ref px), some (.ref pt), none, none, none] ∧ Same H6 H', ?_, ?_⟩
  · refine ⟨_, rfl, fun v H7 => ∃ p', v = .ref p' ∧ Same H6 H7 ∧ H7 p' = some (.lst (told.map V.int)), ?_, ?_⟩
    · refine ⟨_, rfl, pt, told, rfl, SqL.of ht, by omega, fun q c' nq hc' => ?_⟩
      refine ⟨q, _, c', rfl, upd_same, by omega, fun ns p' pwn memn hln np' => ?_⟩
      have ens : told = ns := rising_eq trise pwn fun k => by rw [memn k]; simp
      refine ⟨p', rfl, (Same.new nq).trans (Same.new np'), ?_⟩
      rw [upd_same, ens]
    rintro v H7 ⟨p', rfl, s7, hp'⟩
    have ht7 := s7 _ _ ht
    have m7 := m6.same s7
    refine ⟨pt, p', told, told, rfl, rfl, SqL.of ht7, SqL.of hp', _, rfl, ite_ff (by simp) ?_⟩
    refine ⟨_, rfl, pt, rfl, ⟨_, SqL.of ht7⟩, fun D nD => ?_⟩
    refine lc_list (K := K) (a := pt) (xs := told.map V.int) (fun i H' => Same H7 H' ∧ H' D = some (.lst [])) ⟨Same.new nD, upd_same⟩ (fun i H' _ z => SqL.of (z.1 _ _ ht7)) ?_ ?_
    · rintro i y H' hy ⟨sm, hD⟩
      obtain ⟨v, hv, rfl⟩ := int_at hy
      have bv := me.bd v (List.mem_of_getElem? hv)
      refine ⟨rfl, _, rfl, _, _, rfl, rfl, _, rfl, ite_tt (decide_eq_true bv.1) ⟨_, rfl, pm, _, rfl, dget (m7.same sm).dk m_whole, _, _, rfl, rfl, _, rfl, ?_⟩⟩
      rw [decide_eq_true (by rw [ewh]; exact bv.2)]
      exact ite_ff rfl ⟨sm, hD⟩
    · rintro H8 ⟨s8, hD⟩
      refine ⟨(by show 0 ≤ sizeLine; decide), fun z nz => ⟨D, z, [], [], rfl, rfl, SqL.of ((Same.new nz) _ _ hD), SqL.of upd_same, _, rfl, ite_ff (by simp) ⟨rfl, (s7.trans s8).trans (Same.new nz)⟩⟩⟩
  rintro σ4 H7 ⟨rfl, s7⟩
  have z7 := z6.then s7
  have w7 := w6.same s7
  have m7 := m6.same s7
  have hb7 := hb6.same s7
  have ht7 := s7 _ _ ht
  clear z6 w6 m6 hb6 ht s7
  refine ⟨_, rfl, _, rfl, _, rfl, _, rfl, l, pm, px, pt, b, told, _, rfl, w7, by omega, hb7, bok, ht7, ptl, me.putOk, fun xm ms H8 s8 w8 hbm pmm => ?_⟩
  have z8 := z7.trans s8
  have m8 := m7.but w7 pcl s8
  have hb8 := hb7.butS w7 s8
  have ht8 := s8 _ _ ht7 ptl
  have okm : BookOk (b.put (b.singles ++ ms)) := (me.putOk.perm pmm).ok
  have lots := me.lots pmm
  clear z7 w7 m7 hb7 ht7 s8
  refine ⟨fun σ' H' => σ' = [some (.ref l), some (.ref pm), some (.int short), none, some (.ref px), some (.ref pt), some (.ref xm), none, none] ∧ Same H8 H', ?_, ?_⟩
  · refine ⟨_, rfl, rfl, _, rfl, ite_ff (decide_eq_false (fun z => by cases z)) ?_⟩
    refine ⟨_, rfl, xm, _, rfl, hbm, okm, fun H9 s9 => ⟨rfl, _, rfl, ite_ff ?_ ?_⟩⟩
    · have : lotsN (b.put (b.singles ++ ms)) - (b.put (b.singles ++ ms)).rows.shared = 0 := by
        rw [lots]
        show b.rows.shared - b.rows.shared = 0
        omega
      rw [this]
      simp
    have hc1 : lotsN (b.put (b.singles ++ ms)) - (b.put (b.singles ++ ms)).rows.shared + ((b.put (b.singles ++ ms)).singles.length : Nat) ≤ 100 := by
      have h1 := okm.sl
      have h2 : (b.put (b.singles ++ ms)).rows.shared = b.rows.shared := rfl
      rw [lots, h2]
      omega
    refine ⟨_, rfl, xm, b.put (b.singles ++ ms), rfl, hbm.same s9, okm, hc1, hcond2, fun q2 HA F2 told2 sA mo2 pm2 pw2 hq2 nq2 => ?_⟩
    have hF2 : F2.length = 0 := by
      have ec := mo2.count okm.rows (stretch_lo okm)
      have e1 : lotsN (b.put (b.singles ++ ms)) - (b.put (b.singles ++ ms)).rows.shared = (F2.length : Int) := ec
      have h2 : (b.put (b.singles ++ ms)).rows.shared = b.rows.shared := rfl
      rw [lots, h2] at e1
      omega
    have ht2 : told2 = [] := List.eq_nil_of_length_eq_zero (by rw [pm2.length_eq, List.length_map, hF2])
    rw [ht2] at hq2
    refine ⟨(by show 0 ≤ sizeLine; decide), fun z nz => ⟨q2, z, [], [], rfl, rfl, SqL.of ((Same.new nz) _ _ hq2), SqL.of upd_same, _, rfl, ite_ff (by simp) ⟨rfl, (s9.trans sA).trans (Same.new nz)⟩⟩⟩
  rintro σ5 H9 ⟨rfl, s9⟩
  have rnd := me.round pmm
  refine ⟨fun σ' H' => σ' = [some (.ref l), some (.ref pm), some (.int short), none, some (.ref px), some (.ref pt), some (.ref xm), none, none] ∧ Same H8 H', ?_, ?_⟩
  · have hbm9 := hbm.same s9
    have m9 := m8.same s9
    refine ⟨_, rfl, xm, _, rfl, hbm9, okm, fun HA sA => ?_⟩
    have mA := m9.same sA
    have e1 : b.one = b0.one := by rw [hbd]
    have e2 : b.other = b0.other := by rw [hbd]
    refine ⟨_, rfl, pm, _, rfl, dget mA.dk m_cups, pc, _, _, _, rfl, rfl, SqL.of mA.cu, atI_nat (j := 0) rfl, _, rfl, pm, _, rfl, dget mA.dk m_cups, pc, _, _, _, rfl, rfl, SqL.of mA.cu, atI_nat (j := 1) rfl, b.one, b.other, rfl, by omega, by omega, rfl, _, rfl, ite_ff ?_ ?_⟩
    · have : lotsN (b.put (b.singles ++ ms)) = ((Int.gcd b.one b.other : Nat) : Int) := by
        rw [lots]
        rfl
      rw [this]
      simp
    refine ⟨_, rfl, xm, _, rfl, hbm9.same sA, okm, fun HB sB => ⟨_, rfl, pm, _, rfl, dget (mA.same sB).dk m_whole, rfl, _, rfl, ite_ff ?_ ⟨rfl, (s9.trans sA).trans sB⟩⟩⟩
    have : pairsH (b.put (b.singles ++ ms)).rows (headOf (tiesE (b.put (b.singles ++ ms)).rows (b.put (b.singles ++ ms)).rel)) = wh := by
      rw [ewh]
      exact rnd
    rw [this]
    simp
  clear s9
  rintro σ6 H9 ⟨rfl, s9⟩
  have z9 := z8.then s9
  have w9 := w8.same s9
  have m9 := m8.same s9
  have hb9 := hb8.same s9
  have hbm9 := hbm.same s9
  have ht9 := s9 _ _ ht8
  clear z8 w8 m8 hb8 hbm ht8 s9
  rw [← ehw] at rb
  refine ⟨fun σ' H' => ∃ (ps : Addr) (ts : List Int), σ' = [some (.ref l), some (.ref pm), some (.int short), none, some (.ref px), some (.ref pt), some (.ref xm), some (.ref ps), none] ∧ SameBut l H9 H' ∧ SrcAt H' l 1500 ∧ H' ps = some (.lst (ts.map V.int)) ∧ ts.length ≤ 10, ?_, ?_⟩
  · refine ⟨_, rfl, _, rfl, pm, _, rfl, dget m9.dk m_whole, l, _, _, rfl, w9, rb.1, by omega, by decide, fun d1 HA sA wA d10 d11 => ?_⟩
    have mA := m9.but w9 pcl sA
    refine ⟨_, rfl, _, _, rfl, rfl, pw 60 (by decide), l, _, _, rfl, wA, by decide, by decide, by decide, fun d2 HB sB wB d20 d21 => ⟨_, _, rfl, rfl, ?_⟩⟩
    have mB := mA.but wA pcl sB
    refine ⟨_, rfl, pm, _, rfl, dget mB.dk m_first, _, rfl, pm, _, rfl, dget mB.dk m_size, _, _, rfl, rfl, _, rfl, pm, _, rfl, dget mB.dk m_first, _, _, rfl, rfl, (by show 4 ≤ sizeLine; decide), fun q nq => ?_⟩
    exact ⟨q, [d1, 0 - d2, b.begin_ + b.many, b.begin_ - 1], rfl, (sA.trans sB).then (Same.new nq), (wB.same (Same.new nq)).le (by decide), upd_same, by show 4 ≤ 10; decide⟩
  rintro σ7 HA ⟨ps, ts, rfl, sA, wA, hps, hts⟩
  have zA := z9.trans sA
  have mA := m9.but w9 pcl sA
  have hbA := hb9.butS w9 sA
  have hbmA := hbm9.butS w9 sA
  have htA := sA _ _ ht9 ptl
  clear z9 w9 m9 hb9 hbm9 ht9 sA
  refine ⟨fun σ' H' => σ' = [some (.ref l), some (.ref pm), some (.int short), none, some (.ref px), some (.ref pt), some (.ref xm), some (.ref ps), none] ∧ Same HA H', ?_, ?_⟩
  · refine ⟨_, rfl, ps, rfl, ⟨_, SqL.of hps⟩, fun D nD => ?_⟩
    refine lc_list (K := K) (a := ps) (xs := ts.map V.int) (fun i H' => Same HA H' ∧ H' D = some (.lst [])) ⟨Same.new nD, upd_same⟩ (fun i H' _ z => SqL.of (z.1 _ _ hps)) ?_ ?_
    · rintro i y H' hy ⟨sm, hD⟩
      obtain ⟨v, hv, rfl⟩ := int_at hy
      refine ⟨rfl, _, rfl, _, rfl, xm, _, v, rfl, hbmA.same sm, okm, fun HB k sB hk => ⟨k, rfl, ?_⟩⟩
      have : k = true := hk.mpr (me.sure pmm v)
      subst this
      exact ite_ff rfl ⟨sm.trans sB, sB _ _ hD⟩
    · rintro HB ⟨sB, hD⟩
      refine ⟨(by show 0 ≤ sizeLine; decide), fun z nz => ⟨D, z, [], [], rfl, rfl, SqL.of ((Same.new nz) _ _ hD), SqL.of upd_same, _, rfl, ite_ff (by simp) ⟨rfl, sB.trans (Same.new nz)⟩⟩⟩
  rintro σ8 HB ⟨rfl, sB⟩
  have zB := zA.then sB
  have wB := wA.same sB
  have mB := mA.same sB
  have hbB := hbA.same sB
  have hbmB := hbmA.same sB
  have htB := sB _ _ htA
  clear zA wA mA hbA hbmA htA sB hps
  refine ⟨_, rfl, (by show 0 ≤ sizeLine; decide), fun z nz => ⟨pt, z, told, [], rfl, rfl, SqL.of ((Same.new nz) _ _ htB), SqL.of upd_same, _, rfl, ?_⟩⟩
  have sC := @Same.new HB z (.lst []) nz
  have zC := zB.then sC
  have wC := wB.same sC
  have mC := mB.same sC
  have hbC := hbB.same sC
  have hbmC := hbmB.same sC
  have htC := sC _ _ htB
  generalize L2.upd HB z (.lst []) = HC at zC wC mC hbC hbmC htC ⊢
  by_cases ct : told = []
  · refine ite_tt (decide_eq_true ct) ?_
    refine ⟨_, rfl, px, b, rfl, hbC, bok, fun HD sD => ⟨_, rfl, pm, _, rfl, dget (mC.same sD).dk m_whole, rfl, ?_⟩⟩
    have hF : Fm = [] := by
      have := me.tlen
      rw [ct] at this
      exact List.eq_nil_of_length_eq_zero this.symm
    have hms : ms = [] := List.eq_nil_of_length_eq_zero (by rw [pmm.length_eq, ct]; rfl)
    have : pairsH b.rows (headOf (tiesE b.rows b.rel)) = wh := by
      rw [ewh, ← rnd, hms, List.append_nil]
      rfl
    rw [this, decide_eq_true rfl]
    exact h HD (zC.then sD)
  refine ite_ff (decide_eq_false ct) ?_
  have tpos : 0 < told.length := by
    rcases Nat.eq_zero_or_pos told.length with c | c
    · exact absurd (List.eq_nil_of_length_eq_zero c) ct
    · exact c
  refine ⟨_, rfl, _, rfl, l, pt, _, _, rfl, wC, htC, ptl, by rw [List.length_map]; exact tpos, by rw [List.length_map]; omega, by decide, fun x HD sD wD mx => ?_⟩
  obtain ⟨y, hy, rfl⟩ := List.mem_map.mp mx
  have mD := mC.but wC pcl sD
  have hbmD := hbmC.butS wC sD
  have zD := zC.trans sD
  have hym : y ∈ ms := pmm.mem_iff.mpr hy
  obtain ⟨l1, l2, l3⟩ := me.lame pmm hym
  have okl := okm.filter fun s => decide (s ≠ y)
  refine ⟨_, rfl, _, rfl, xm, b.put (b.singles ++ ms), y, rfl, hbmD, okm, List.mem_append_right _ hym, fun xl HE sE hbl => ?_⟩
  have hbl : BookAt K HE xl (b.put ((b.singles ++ ms).filter fun s => decide (s ≠ y))) := hbl
  have okl : BookOk (b.put ((b.singles ++ ms).filter fun s => decide (s ≠ y))) := okl
  have mE := mD.same sE
  refine ⟨_, rfl, xl, _, rfl, hbl, okl, fun HF sF => ⟨rfl, _, rfl, ite_tt (decide_eq_true ?_) ?_⟩⟩
  · show V.int (lotsN (b.put ((b.singles ++ ms).filter fun s => decide (s ≠ y))) - b.rows.shared) = V.int 1
    rw [l1]
  refine ⟨_, rfl, _, rfl, xl, _, y, rfl, hbl.same sF, okl, fun HG k sG hk => ⟨k, rfl, ?_⟩⟩
  have : k = false := by
    cases k with
    | false => rfl
    | true => exact absurd (hk.mp rfl) l2
  subst this
  refine ⟨_, rfl, ite_tt rfl ?_⟩
  have sFG := sF.trans sG
  refine ⟨_, rfl, xl, _, rfl, hbl.same sFG, okl, fun HI sI => ⟨_, rfl, pm, _, rfl, dget ((mE.same sFG).same sI).dk m_whole, _, _, rfl, rfl, ?_⟩⟩
  have fin : decide (pairsH (b.put ((b.singles ++ ms).filter fun s => decide (s ≠ y))).rows (headOf (tiesE (b.put ((b.singles ++ ms).filter fun s => decide (s ≠ y))).rows (b.put ((b.singles ++ ms).filter fun s => decide (s ≠ y))).rel)) < wh) = true := by
    refine decide_eq_true ?_
    rw [ewh]
    exact l3
  have hf := h HI (((zD.then sE).then sFG).then sI)
  rw [← fin] at hf
  exact hf
end
end Bt
namespace Bt
open PySem PySem.Spec PyProof.Rows L2
def spLaw (K : PySem.W.Frag) : Sp := fun vs H Q _ => ∃ (a : Addr) (ns : List Int), vs = [.ref a] ∧ SqL K H a (ns.map V.int) ∧ ns.length ≤ 63 ∧ ∀ H', Q (.bl true) H'
theorem ok_law {P : Program} {w : World} {K : PySem.W.Frag} {mg : Str → Option Value} {base : Heap} (T : Env K mg) {fd : FuncData} (F : FunD K "law" "law" (defArgs S_law) (defBody S_law) (defScope S_law) [] [] (He.fAd K D_law.at_) fd) :
    FnOk P w K mg base CX0 20 (He.fAd K D_law.at_) fd ["_law_script"] (spLaw K) := by
  have sc : FnScope ["_law_script", "_law_k"] ["_law_script"] (defScope S_law) := ⟨rfl, rfl, rfl, by decide +kernel, rfl, by decide +kernel, by decide +kernel⟩
  refine F.ok sc (fun vs H Q E h => by obtain ⟨a, b, rfl, _⟩ := h; rfl) (fun cdv A outer s H vs Q E hr h => ?_)
  obtain ⟨a, ns, rfl, ha, hl, h⟩ := h
  have hr2 : Room 2 _ := hr.mono (by decide)
  have hr15 : Room 15 _ := hr.mono (by decide)
  suffices z : ∃ t, PSs (cxOf CX0 P w K mg base ["_law_script", "_law_k"] "law" (defScope S_law) (He.fAd K D_law.at_) cdv A outer s H E).nox (defBody S_law) t ∧ t { nx := fun _ H' => Q .non H', rt := Q } (start ["_law_script", "_law_k"] [.ref a]) H by
    obtain ⟨t, h1, h2⟩ := z
    exact ⟨t, h1.nox, h2⟩
  refine ⟨_, pss_cons (ps_for PassesOwn.never rfl (pi_range1 rfl T.b_range (pa_cons (pe_callB (call_max2 rfl) rfl T.b_max (by decide +kernel) (pa_cons pe_int (pa_cons (pe_callB (call_min2 rfl) rfl T.b_min (by decide +kernel) (pa_cons pe_int (pa_cons (pe_callB call_len rfl T.b_len (by decide +kernel) (pa_cons (pv 0) pa_nil)) pa_nil))) pa_nil))) pa_nil)) (pg_name (i := 1) sc.nd rfl (Or.inl rfl))
      (pss_one (ps_if (pt_not (pt_val (pe_c (c_right T) hr15 T.g_law_right (pa_cons (pe_c (c_source T) hr2 T.g_law_source (pa_cons (pv 0) (pa_cons (pv 1) pa_nil))) pa_nil)))) (pss_one (ps_ret pe_bl)) pss_nil)))
    (pss_one (ps_ret pe_bl)), ?_⟩
  refine ⟨_, rfl, _, _, rfl, .inl ⟨_, ha, rfl⟩, _, _, rfl, _, _, rfl, ?_⟩
  obtain ⟨m, hm, m0, m1⟩ : ∃ m : Int, (if (if (((ns.map V.int).length : Nat) : Int) < 3 then (((ns.map V.int).length : Nat) : Int) else 3) > 1 then (if (((ns.map V.int).length : Nat) : Int) < 3 then (((ns.map V.int).length : Nat) : Int) else 3) else 1) = m ∧ 1 ≤ m ∧ m ≤ 3 := ⟨_, rfl, by split <;> omega, by split <;> split <;> omega⟩
  rw [hm]
  refine ⟨m, rfl, by omega, by omega, for_range (n := m.toNat) (fun i σ H' => ∃ v1 : Option V, σ = [some (.ref a), v1] ∧ Same H H') ⟨none, rfl, Same.refl _⟩ ?_ ?_⟩
  · rintro i σ H' hi ⟨v1, rfl, sm⟩
    refine ⟨_, rfl, _, rfl, a, ns, _, rfl, sm.seq ha, hl, ⟨by omega, by omega⟩, fun l H1 s1 nl hw => ?_⟩
    refine ⟨l, rfl, hw, fun H2 sb => ⟨true, rfl, iteF ⟨_, rfl, fun c o e => ?_⟩⟩⟩
    exact sb _ _ (s1 _ _ (sm _ _ e)) (ne_of_none (sm _ _ e) nl)
  · rintro σ H' ⟨v1, rfl, sm⟩
    exact h H'
theorem facts {P : Program} {w : World} {K : PySem.W.Frag} {h : Heap} {mg : Str → Option Value} {f : Addr} (X : K.In h) (G : h.Ns mainGlobals mg) (hfa : mg ("law" : Str) = some (.ref f)) (c : obsX K = (true, He.valD fnL)) :
    ∃ fd : FuncData, (∀ (s : Shared) (v : Value), BindsTo s fd ⟨[v], []⟩ [("_law_script", v)]) ∧ ∀ base : Heap, K.In base → base.Ns mainGlobals mg → FnOk P w K mg base CX0 20 f fd ["_law_script"] (spLaw K) := by
  have T : Env K mg := ⟨congrArg Prod.snd c, congrArg Prod.fst c, ⟨h, X, G⟩⟩
  obtain ⟨fd, F⟩ := T.d_law
  have e := hfa.symm.trans T.g_law
  cases e
  have b := FunD.bindsA (ps := ["_law_script"]) F fun _ _ _ _ _ _ us hl => match us, hl with | [_], _ => rfl
  exact ⟨fd, fun s v => b s [v] rfl, fun base _ _ => ok_law T F⟩
end Bt
open PySem PySem.W PySem.Calls PyProof.Rows
set_option maxHeartbeats 0
theorem PySem.Challenge.cw_beltecho_k62_whole_great_books_mended_holds : PySem.Challenge.rw_beltecho_k62_whole_great_books_mended.Holds := by
  w_on; o_law
  refine HandSHeadRun.head_any (r := OpenLaw.row PySem.Challenge.rw_beltecho_k62_whole_great_books_mended) (q := Bt.qv) (H := Bt.hk) (ob := Bt.ob) (M := 8000) (loose := Bt.looseL) (d := HandSHeadRun.topDef (OpenLaw.row PySem.Challenge.rw_beltecho_k62_whole_great_books_mended).prog 61) (kwd := []) Bt.ob_eq
    (by kernel_rfl) (fun s => by kernel_rfl) Bt.run (by kernel_rfl) (by kernel_rfl) (by kernel_rfl) (by rfl) (by first | assumption | decide +kernel) (by decide +kernel) ⟨rfl, rfl, rfl, rfl, rfl, by decide +kernel⟩ ?hw ?hc
  case hw => w_witness2
  case hc =>
    refine L2.walk_ofE (l := PySem.Challenge.rw_beltecho_k62_whole_great_books_mended) (n := 63) (k := 20) (x := "_law_script") (CX := L2.CX0) rfl (by decide) (by kernel_rfl) ⟨rfl, by decide, by decide⟩ ?F (fun _ _ _ _ z => z)
    intro w mg fa h Y G hmg0
    obtain ⟨K, KX, c⟩ := Y
    have hmg : mg ("law" : PySem.Str) = some (.ref fa) := by
      have e : (HandSHeadRun.topDef (OpenLaw.row PySem.Challenge.rw_beltecho_k62_whole_great_books_mended).prog 61).name = ("law" : PySem.Str) := by kernel_rfl
      rw [← e]
      exact hmg0
    obtain ⟨fd, hb, hF⟩ := Bt.facts (P := (PySem.Challenge.rw_beltecho_k62_whole_great_books_mended).prog) (w := w) KX G hmg c
    exact ⟨K, fd, Bt.spLaw K, KX, hb, fun H a ns hl _ hS => ⟨a, ns, rfl, hS, hl, fun _ => rfl⟩, hF⟩
