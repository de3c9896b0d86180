import PyProof.Rows.All
import HandS.TupSets
import HandS.SortOrd
import HandS.SortRule
import HandS.SetBool
import HandS.DictComp
import HandS.DictTup
import HandS.Conv
import HandS.Wide
import HandS.TupLe
import HandS.TupAny
import HandS.IsInst
import HandS.Deep
import HandS.Star
import HandS.NoneIn
import HandS.Style
import HandS.Flow
import KE.SortData
import HandS.Evl
import HandS.Words
import HandS.Defaults
import HandS.Base
import HandS.Call
import HandS.Ends
import HandS.More
import HandS.WordsExc
import PySem.Challenge.RW_turnedpixels_k84_whole_pictures_by_sourc
import HandS.Iter
import OpenK.AllK
import Wide.All
import Wide.FinOn
import KE.KStateDown
import Lean
import HandS.Head0
import HandS.Head1
import HandS.Head2
import HandS.HeadEnd
import HandS.HeadHook1
import HandS.HeadHook2
set_option Elab.async false
set_option linter.all false
set_option maxRecDepth 100000
set_option maxHeartbeats 0
/-! Turned pixels, in plain Lean: rounding, images, sources, pixels that meet, pictures. -/
namespace TPm
abbrev Px := Int × Int
def sizeC (p q : Int) : Int := p * p + q * q
def lA (p q : Int) : Int := p * p - q * q
def lB (p q : Int) : Int := 2 * p * q
def near (n d : Int) : Int := (2 * n + d) / (2 * d)
def place (p q : Int) (z : Px) : Px := (lA p q * z.1 - lB p q * z.2, lB p q * z.1 + lA p q * z.2)
def img0 (p q : Int) (z : Px) : Px := (near (place p q z).1 (sizeC p q), near (place p q z).2 (sizeC p q))
def rot (z : Px) : Px := (-z.2, z.1)
def rotN : Nat → Px → Px
  | 0, z => z
  | n + 1, z => rot (rotN n z)
def quart (z : Px) (k : Int) : Px := rotN (k % 4).toNat z
def img (p q k : Int) (z : Px) : Px := quart (img0 p q z) k
def nbs (z : Px) : List Px := [(z.1 - 1, z.2), (z.1, z.2 - 1), (z.1, z.2 + 1), (z.1 + 1, z.2)]
def lt (z w : Px) : Prop := z.1 < w.1 ∨ z.1 = w.1 ∧ z.2 < w.2
instance (z w : Px) : Decidable (lt z w) := by unfold lt; infer_instance
structure Ok (p q : Int) : Prop where
  p0 : 0 < p
  lo : -p < q
  hi : q < p
  odd : (p + q) % 2 = 1
theorem Ok.neg {p q : Int} (h : Ok p q) : Ok p (-q) := ⟨h.p0, by have := h.hi; omega, by have := h.lo; omega, by have := h.odd; omega⟩
theorem Ok.cpos {p q : Int} (h : Ok p q) : 0 < sizeC p q := by
  have h1 : 0 < p * p := Int.mul_pos h.p0 h.p0
  have h2 : 0 ≤ q * q := by
    rcases Int.le_total 0 q with g | g
    · exact Int.mul_nonneg g g
    · exact Int.mul_nonneg_of_nonpos_of_nonpos g g
  unfold sizeC
  omega
theorem Ok.codd {p q : Int} (h : Ok p q) : sizeC p q % 2 = 1 := by
  obtain ⟨t, ht⟩ : ∃ t, p + q = 2 * t + 1 := ⟨(p + q) / 2, by have := h.odd; omega⟩
  have e : sizeC p q = 2 * (2 * t * t + 2 * t - p * q) + 1 := by
    unfold sizeC
    have : p = 2 * t + 1 - q := by omega
    subst this
    grind
  omega
theorem size_neg (p q : Int) : sizeC p (-q) = sizeC p q := by unfold sizeC; grind
theorem lA_neg (p q : Int) : lA p (-q) = lA p q := by unfold lA; grind
theorem lB_neg (p q : Int) : lB p (-q) = -lB p q := by unfold lB; grind
theorem legs_sq (p q : Int) : lA p q * lA p q + lB p q * lB p q = sizeC p q * sizeC p q := by unfold lA lB sizeC; grind

/-! ### rounding -/
theorem near_spec {n d : Int} (h0 : 0 < d) (h1 : d % 2 = 1) : -(d - 1) ≤ 2 * (n - d * near n d) ∧ 2 * (n - d * near n d) ≤ d - 1 := by
  have e := Int.emod_add_mul_ediv (2 * n + d) (2 * d)
  have r0 := Int.emod_nonneg (2 * n + d) (show 2 * d ≠ 0 by omega)
  have r1 := Int.emod_lt_of_pos (2 * n + d) (show 0 < 2 * d by omega)
  have e2 : 2 * d * ((2 * n + d) / (2 * d)) = 2 * (d * near n d) := by unfold near; rw [Int.mul_assoc]
  rw [e2] at e
  generalize d * near n d = X at *
  omega
theorem near_uniq {n d m : Int} (h0 : 0 < d) (h1 : d % 2 = 1) (a : -(d - 1) ≤ 2 * (n - d * m)) (b : 2 * (n - d * m) ≤ d - 1) : near n d = m := by
  obtain ⟨s, t⟩ := near_spec (n := n) h0 h1
  have key : ∀ k : Int, 1 ≤ k → d ≤ d * k := fun k hk => by
    have := Int.mul_le_mul_of_nonneg_left hk (Int.le_of_lt h0)
    omega
  rcases Int.lt_trichotomy (near n d) m with g | g | g
  · have := key (m - near n d) (by omega)
    rw [Int.mul_sub] at this
    omega
  · exact g
  · have := key (near n d - m) (by omega)
    rw [Int.mul_sub] at this
    omega
theorem near_neg {n d : Int} (h0 : 0 < d) (h1 : d % 2 = 1) : near (-n) d = -near n d := by
  obtain ⟨s, t⟩ := near_spec (n := n) h0 h1
  refine near_uniq h0 h1 ?_ ?_ <;> rw [Int.mul_neg] <;> omega

/-! ### quarter turns -/
theorem place_rot (p q : Int) (z : Px) : place p q (rot z) = rot (place p q z) := by
  unfold place rot
  refine Prod.ext ?_ ?_ <;> simp only [] <;> grind
theorem img0_rot {p q : Int} (h : Ok p q) (z : Px) : img0 p q (rot z) = rot (img0 p q z) := by
  have e : img0 p q (rot z) = (near (rot (place p q z)).1 (sizeC p q), near (rot (place p q z)).2 (sizeC p q)) := by
    unfold img0; rw [place_rot]
  rw [e]
  unfold rot img0
  refine Prod.ext ?_ rfl
  exact near_neg h.cpos h.codd
theorem img0_rotN {p q : Int} (h : Ok p q) : ∀ (n : Nat) (z : Px), img0 p q (rotN n z) = rotN n (img0 p q z)
  | 0, _ => rfl
  | n + 1, z => by
    show img0 p q (rot (rotN n z)) = rot (rotN n (img0 p q z))
    rw [img0_rot h, img0_rotN h n]
theorem rot_inj {z w : Px} (h : rot z = rot w) : z = w := by
  unfold rot at h
  injection h with h1 h2
  exact Prod.ext h2 (by omega)
theorem rotN_inj : ∀ {n : Nat} {z w : Px}, rotN n z = rotN n w → z = w
  | 0, _, _, h => h
  | _ + 1, _, _, h => rotN_inj (rot_inj h)
theorem rot4 (z : Px) : rot (rot (rot (rot z))) = z := by unfold rot; simp
theorem quart_inj {z w : Px} {k : Int} (h : quart z k = quart w k) : z = w := rotN_inj h
theorem quart_back (z : Px) (k : Int) : quart (quart z k) (-k % 4) = z := by
  unfold quart
  have h : k % 4 = 0 ∨ k % 4 = 1 ∨ k % 4 = 2 ∨ k % 4 = 3 := by omega
  rcases h with e | e | e | e
  · rw [e, show (-k % 4 % 4) = 0 by omega]; rfl
  · rw [e, show (-k % 4 % 4) = 3 by omega]; exact rot4 z
  · rw [e, show (-k % 4 % 4) = 2 by omega]; exact rot4 z
  · rw [e, show (-k % 4 % 4) = 1 by omega]; exact rot4 z
theorem quart_neg (z : Px) (k : Int) : quart z (-k) = quart z (-k % 4) := by
  unfold quart
  rw [show (-k % 4 % 4) = -k % 4 by omega]
theorem quart_fore (z : Px) (k : Int) : quart (quart z (-k)) k = z := by
  unfold quart
  have h : k % 4 = 0 ∨ k % 4 = 1 ∨ k % 4 = 2 ∨ k % 4 = 3 := by omega
  rcases h with e | e | e | e
  · rw [e, show (-k % 4) = 0 by omega]; rfl
  · rw [e, show (-k % 4) = 3 by omega]; exact rot4 z
  · rw [e, show (-k % 4) = 2 by omega]; exact rot4 z
  · rw [e, show (-k % 4) = 1 by omega]; exact rot4 z
theorem img_back {p q k : Int} (h : Ok p q) (z : Px) : img p (-q) (-k % 4) (img p q k z) = img0 p (-q) (img0 p q z) := by
  unfold img
  rw [show img0 p (-q) (quart (img0 p q z) k) = quart (img0 p (-q) (img0 p q z)) k from img0_rotN h.neg _ _, quart_back]
theorem img_iff {p q k : Int} (z g : Px) : img p q k z = g ↔ img0 p q z = quart g (-k) := by
  constructor
  · intro h
    rw [← h]
    unfold img
    rw [quart_neg, quart_back]
  · intro h
    unfold img
    rw [h, quart_fore]
theorem img_eq {p q k : Int} {z w : Px} : img p q k z = img p q k w ↔ img0 p q z = img0 p q w := ⟨quart_inj, fun h => by unfold img; rw [h]⟩

/-! ### pixels with one image -/
theorem brah (a b x y : Int) : (a * x - b * y) * (a * x - b * y) + (b * x + a * y) * (b * x + a * y) = (a * a + b * b) * (x * x + y * y) := by grind
theorem sqle {x m : Int} (h1 : x ≤ m) (h2 : -m ≤ x) : x * x ≤ m * m := by
  have : 0 ≤ (m - x) * (m + x) := Int.mul_nonneg (by omega) (by omega)
  grind
theorem small_of {a b c dx dy : Int} (hc : 0 < c) (h : a * a + b * b = c * c) (h1 : a * dx - b * dy ≤ c - 1) (h2 : -(c - 1) ≤ a * dx - b * dy) (h3 : b * dx + a * dy ≤ c - 1) (h4 : -(c - 1) ≤ b * dx + a * dy) : dx * dx + dy * dy ≤ 1 := by
  have e := brah a b dx dy
  have s1 := sqle h1 h2
  have s2 := sqle h3 h4
  rw [h] at e
  have : ¬ 2 ≤ dx * dx + dy * dy := by
    intro h2
    have := Int.mul_le_mul_of_nonneg_left h2 (show 0 ≤ c * c from Int.mul_nonneg (by omega) (by omega))
    grind
  omega
theorem unit_cases {dx dy : Int} (h : dx * dx + dy * dy ≤ 1) : (dx = 0 ∧ dy = 0) ∨ (dx = 1 ∧ dy = 0) ∨ (dx = -1 ∧ dy = 0) ∨ (dx = 0 ∧ dy = 1) ∨ (dx = 0 ∧ dy = -1) := by
  have sq : ∀ t : Int, 0 ≤ t * t := fun t => by
    rcases Int.le_total 0 t with g | g
    · exact Int.mul_nonneg g g
    · exact Int.mul_nonneg_of_nonpos_of_nonpos g g
  have bd : ∀ t : Int, t * t ≤ 1 → -1 ≤ t ∧ t ≤ 1 := fun t ht => by
    refine ⟨?_, ?_⟩
    · rcases Int.lt_or_le t (-1) with g | g
      · have := Int.mul_le_mul (show (2 : Int) ≤ -t by omega) (show (2 : Int) ≤ -t by omega) (by omega) (by omega)
        have e : -t * -t = t * t := by grind
        omega
      · exact g
    · rcases Int.lt_or_le 1 t with g | g
      · have := Int.mul_le_mul (show (2 : Int) ≤ t by omega) (show (2 : Int) ≤ t by omega) (by omega) (by omega)
        omega
      · exact g
  have a := sq dx
  have b := sq dy
  obtain ⟨x1, x2⟩ := bd dx (by omega)
  obtain ⟨y1, y2⟩ := bd dy (by omega)
  have hx : dx = -1 ∨ dx = 0 ∨ dx = 1 := by omega
  have hy : dy = -1 ∨ dy = 0 ∨ dy = 1 := by omega
  rcases hx with e | e | e <;> rcases hy with f | f | f <;> subst e <;> subst f <;> simp_all
/-- the differences of two pixels of one image -/
theorem meet_diff {p q : Int} (h : Ok p q) {z w : Px} (e : img0 p q z = img0 p q w) : (z.1 - w.1) * (z.1 - w.1) + (z.2 - w.2) * (z.2 - w.2) ≤ 1 := by
  have c0 := h.cpos
  have c1 := h.codd
  have e1 : near (place p q z).1 (sizeC p q) = near (place p q w).1 (sizeC p q) := congrArg Prod.fst e
  have e2 : near (place p q z).2 (sizeC p q) = near (place p q w).2 (sizeC p q) := congrArg Prod.snd e
  have a1 := near_spec (n := (place p q z).1) c0 c1
  have a2 := near_spec (n := (place p q w).1) c0 c1
  have b1 := near_spec (n := (place p q z).2) c0 c1
  have b2 := near_spec (n := (place p q w).2) c0 c1
  rw [e1] at a1
  rw [e2] at b1
  have d1 : lA p q * (z.1 - w.1) - lB p q * (z.2 - w.2) = (place p q z).1 - (place p q w).1 := by unfold place; simp only []; grind
  have d2 : lB p q * (z.1 - w.1) + lA p q * (z.2 - w.2) = (place p q z).2 - (place p q w).2 := by unfold place; simp only []; grind
  generalize sizeC p q * near (place p q w).1 (sizeC p q) = X at a1 a2
  generalize sizeC p q * near (place p q w).2 (sizeC p q) = Y at b1 b2
  exact small_of c0 (legs_sq p q) (by omega) (by omega) (by omega) (by omega)
theorem mem_nbs {z w : Px} : w ∈ nbs z ↔ (w.1 = z.1 - 1 ∧ w.2 = z.2) ∨ (w.1 = z.1 ∧ w.2 = z.2 - 1) ∨ (w.1 = z.1 ∧ w.2 = z.2 + 1) ∨ (w.1 = z.1 + 1 ∧ w.2 = z.2) := by
  unfold nbs
  simp only [List.mem_cons, List.not_mem_nil, or_false, Prod.ext_iff]
/-- two different pixels of one image are neighbours -/
theorem meet_nb {p q : Int} (h : Ok p q) {z w : Px} (e : img0 p q z = img0 p q w) (ne : z ≠ w) : w ∈ nbs z := by
  have u := unit_cases (meet_diff h e)
  rw [mem_nbs]
  have : ¬ (z.1 = w.1 ∧ z.2 = w.2) := fun g => ne (Prod.ext g.1 g.2)
  omega
/-- three never have one image -/
theorem meet_three {p q : Int} (h : Ok p q) {x y z : Px} (e1 : img0 p q x = img0 p q y) (e2 : img0 p q x = img0 p q z) : x = y ∨ x = z ∨ y = z := by
  by_cases h1 : x = y
  · exact .inl h1
  by_cases h2 : x = z
  · exact .inr (.inl h2)
  refine .inr (.inr ?_)
  have u1 := mem_nbs.mp (meet_nb h e1 h1)
  have u2 := mem_nbs.mp (meet_nb h e2 h2)
  have u3 := unit_cases (meet_diff h (e1.symm.trans e2))
  have : y.1 = z.1 ∧ y.2 = z.2 := by omega
  exact Prod.ext this.1 this.2
theorem not_nb_self (z : Px) : z ∉ nbs z := by
  rw [mem_nbs]
  omega
/-- the pixel that meets z -/
def mate (p q : Int) (z : Px) : Option Px := (nbs z).find? fun w => decide (img0 p q w = img0 p q z)
theorem mate_iff {p q : Int} (h : Ok p q) {z w : Px} : mate p q z = some w ↔ w ≠ z ∧ img0 p q w = img0 p q z := by
  unfold mate
  constructor
  · intro g
    have h1 := List.find?_some g
    have h2 := List.mem_of_find?_eq_some g
    exact ⟨fun e => not_nb_self z (e ▸ h2), of_decide_eq_true h1⟩
  · rintro ⟨ne, e⟩
    have hm := meet_nb h e.symm (Ne.symm ne)
    cases f : (nbs z).find? fun w => decide (img0 p q w = img0 p q z) with
    | none =>
      have := List.find?_eq_none.mp f w hm
      simp [e] at this
    | some v =>
      have h1 : img0 p q v = img0 p q z := of_decide_eq_true (List.find?_some (p := fun w => decide (img0 p q w = img0 p q z)) f)
      have h2 := List.mem_of_find?_eq_some f
      have nv : v ≠ z := fun e => not_nb_self z (e ▸ h2)
      rcases meet_three h (h1.trans e.symm) h1 with g | g | g
      · rw [g]
      · exact absurd g nv
      · exact absurd g ne
theorem conj_one {a b c : Int} (h : a * a + b * b = c * c) (z1 z2 g1 g2 w1 : Int) : c * c * (z1 - w1) = (a * (a * z1 - b * z2 - c * g1) + b * (b * z1 + a * z2 - c * g2)) + c * (a * g1 + b * g2 - c * w1) := by grind
theorem conj_two {a b c : Int} (h : a * a + b * b = c * c) (z1 z2 g1 g2 w2 : Int) : c * c * (z2 - w2) = (a * (b * z1 + a * z2 - c * g2) - b * (a * z1 - b * z2 - c * g1)) + c * (-(b * g1) + a * g2 - c * w2) := by grind
theorem conj_sq {a b c : Int} (h : a * a + b * b = c * c) (s t : Int) : (a * s + b * t) * (a * s + b * t) + (a * t - b * s) * (a * t - b * s) = c * c * (s * s + t * t) := by grind
theorem par_sq (x y : Int) (h : 0 ≤ (x - y) * (x - y)) : (x + y) * (x + y) ≤ 2 * (x * x) + 2 * (y * y) := by grind
theorem sq4 {x m : Int} (h1 : 2 * x ≤ m) (h2 : -m ≤ 2 * x) : 4 * (x * x) ≤ m * m := by
  have := sqle (x := 2 * x) h1 h2
  grind
theorem fold_big {c N x y s t u v : Int} (hx : x * x + y * y = c * c * s) (m1 : t ≤ 2 * (x * x) + 2 * (c * u * (c * u))) (m2 : N ≤ 2 * (y * y) + 2 * (c * v * (c * v))) : t + N ≤ c * c * (2 * s + 2 * (u * u + v * v)) := by grind
/-- the pixel whose sources are asked: near the place turned back -/
theorem source_near {p q : Int} (h : Ok p q) {z g : Px} (e : img0 p q z = g) : z = img0 p (-q) g ∨ z ∈ nbs (img0 p (-q) g) := by
  have c0 := h.cpos
  have c1 := h.codd
  have e1 : near (place p q z).1 (sizeC p q) = g.1 := congrArg Prod.fst e
  have e2 : near (place p q z).2 (sizeC p q) = g.2 := congrArg Prod.snd e
  have s1 := near_spec (n := (place p q z).1) c0 c1
  have s2 := near_spec (n := (place p q z).2) c0 c1
  rw [e1] at s1
  rw [e2] at s2
  have r1 := near_spec (n := (place p (-q) g).1) c0 c1
  have r2 := near_spec (n := (place p (-q) g).2) c0 c1
  have n1 : (img0 p (-q) g).1 = near (place p (-q) g).1 (sizeC p q) := by unfold img0; rw [size_neg]
  have n2 : (img0 p (-q) g).2 = near (place p (-q) g).2 (sizeC p q) := by unfold img0; rw [size_neg]
  rw [← n1] at r1
  rw [← n2] at r2
  generalize img0 p (-q) g = w at *
  have lsq := legs_sq p q
  have pz1 : (place p q z).1 = lA p q * z.1 - lB p q * z.2 := rfl
  have pz2 : (place p q z).2 = lB p q * z.1 + lA p q * z.2 := rfl
  have pg1 : (place p (-q) g).1 = lA p q * g.1 + lB p q * g.2 := by show lA p (-q) * g.1 - lB p (-q) * g.2 = _; rw [lA_neg, lB_neg]; grind
  have pg2 : (place p (-q) g).2 = -(lB p q * g.1) + lA p q * g.2 := by show lB p (-q) * g.1 + lA p (-q) * g.2 = _; rw [lA_neg, lB_neg]; grind
  rw [pz1] at s1
  rw [pz2] at s2
  rw [pg1] at r1
  rw [pg2] at r2
  generalize lA p q = a at *
  generalize lB p q = b at *
  generalize sizeC p q = c at *
  -- S, R: what rounding leaves
  obtain ⟨S1, hS1⟩ : ∃ S, S = a * z.1 - b * z.2 - c * g.1 := ⟨_, rfl⟩
  obtain ⟨S2, hS2⟩ : ∃ S, S = b * z.1 + a * z.2 - c * g.2 := ⟨_, rfl⟩
  obtain ⟨R1, hR1⟩ : ∃ R, R = a * g.1 + b * g.2 - c * w.1 := ⟨_, rfl⟩
  obtain ⟨R2, hR2⟩ : ∃ R, R = -(b * g.1) + a * g.2 - c * w.2 := ⟨_, rfl⟩
  rw [← hS1] at s1
  rw [← hS2] at s2
  rw [← hR1] at r1
  rw [← hR2] at r2
  -- c c (z - w) = conj S + c R
  have k1 : c * c * (z.1 - w.1) = (a * S1 + b * S2) + c * R1 := by subst hS1 hS2 hR1; exact conj_one lsq ..
  have k2 : c * c * (z.2 - w.2) = (a * S2 - b * S1) + c * R2 := by subst hS1 hS2 hR2; exact conj_two lsq ..
  have q1 : 4 * (S1 * S1) ≤ (c - 1) * (c - 1) := sq4 (by omega) (by omega)
  have q2 : 4 * (S2 * S2) ≤ (c - 1) * (c - 1) := sq4 (by omega) (by omega)
  have q3 : 4 * (R1 * R1) ≤ (c - 1) * (c - 1) := sq4 (by omega) (by omega)
  have q4 : 4 * (R2 * R2) ≤ (c - 1) * (c - 1) := sq4 (by omega) (by omega)
  have sq : ∀ t : Int, 0 ≤ t * t := fun t => by
    rcases Int.le_total 0 t with g | g
    · exact Int.mul_nonneg g g
    · exact Int.mul_nonneg_of_nonpos_of_nonpos g g
  have par : ∀ x y : Int, (x + y) * (x + y) ≤ 2 * (x * x) + 2 * (y * y) := fun x y => par_sq x y (sq _)
  have m1 := par (a * S1 + b * S2) (c * R1)
  have m2 := par (a * S2 - b * S1) (c * R2)
  rw [← k1] at m1
  rw [← k2] at m2
  have tt : (a * S1 + b * S2) * (a * S1 + b * S2) + (a * S2 - b * S1) * (a * S2 - b * S1) = c * c * (S1 * S1 + S2 * S2) := conj_sq lsq ..
  have cc : 0 < c * c := Int.mul_pos c0 c0
  obtain ⟨N, hN⟩ : ∃ N, N = (z.1 - w.1) * (z.1 - w.1) + (z.2 - w.2) * (z.2 - w.2) := ⟨_, rfl⟩
  have big : c * c * (c * c * N) ≤ c * c * (2 * (S1 * S1 + S2 * S2) + 2 * (R1 * R1 + R2 * R2)) := by
    have f := fold_big tt m1 m2
    have e : c * c * (c * c * N) = c * c * (z.1 - w.1) * (c * c * (z.1 - w.1)) + c * c * (z.2 - w.2) * (c * c * (z.2 - w.2)) := by subst hN; grind
    rw [e]
    exact f
  have big2 : c * c * N ≤ 2 * (S1 * S1 + S2 * S2) + 2 * (R1 * R1 + R2 * R2) := Int.le_of_mul_le_mul_left big cc
  have fin : N ≤ 1 := by
    have : ¬ 2 ≤ N := fun h2 => by
      have := Int.mul_le_mul_of_nonneg_left h2 (Int.le_of_lt cc)
      have e3 : (c - 1) * (c - 1) = c * c - 2 * c + 1 := by grind
      rw [e3] at q1 q2 q3 q4
      generalize c * c * N = X at *
      generalize c * c = Y at *
      omega
    omega
  rw [hN] at fin
  have u := unit_cases fin
  rw [mem_nbs]
  by_cases zw : z = w
  · exact .inl zw
  · refine .inr ?_
    have : ¬ (z.1 = w.1 ∧ z.2 = w.2) := fun g => zw (Prod.ext g.1 g.2)
    omega
/-- coming back, by the rest -/
def tU (p q : Int) (z : Px) : Px := (p * z.1 - q * z.2, q * z.1 + p * z.2)
def rest (p q : Int) (z : Px) : Px := ((tU p q z).1 - (tU p (-q) (img0 p q z)).1, (tU p q z).2 - (tU p (-q) (img0 p q z)).2)
def absI (i : Int) : Int := if i < 0 then -i else i
def backs (p q : Int) (z : Px) : Bool := decide (absI (tU p (-q) (rest p q z)).1 ≤ sizeC p (-q) / 2) && decide (absI (tU p (-q) (rest p q z)).2 ≤ sizeC p (-q) / 2)
theorem absI_le {i m : Int} : absI i ≤ m ↔ -m ≤ i ∧ i ≤ m := by
  unfold absI
  split <;> omega
theorem back_of_rest {p q : Int} (h : Ok p q) {z : Px} (b : backs p q z = true) : img0 p (-q) (img0 p q z) = z := by
  have c0 := h.cpos
  have c1 := h.codd
  unfold backs at b
  rw [Bool.and_eq_true, decide_eq_true_eq, decide_eq_true_eq, absI_le, absI_le, size_neg] at b
  obtain ⟨b1, b2⟩ := b
  generalize hw : img0 p q z = w at *
  have e1 : (tU p (-q) (rest p q z)).1 = sizeC p q * z.1 - (place p (-q) w).1 := by
    unfold rest tU place lA lB sizeC; simp only [hw]; grind
  have e2 : (tU p (-q) (rest p q z)).2 = sizeC p q * z.2 - (place p (-q) w).2 := by
    unfold rest tU place lA lB sizeC; simp only [hw]; grind
  rw [e1] at b1
  rw [e2] at b2
  unfold img0
  rw [size_neg]
  refine Prod.ext ?_ ?_
  · exact near_uniq c0 c1 (by omega) (by omega)
  · exact near_uniq c0 c1 (by omega) (by omega)

/-! ### sizes -/
def Bd (M : Int) (z : Px) : Prop := -M ≤ z.1 ∧ z.1 ≤ M ∧ -M ≤ z.2 ∧ z.2 ≤ M
theorem Bd.mono {M N : Int} {z : Px} (h : Bd M z) (l : M ≤ N) : Bd N z := ⟨by have := h.1; omega, by have := h.2.1; omega, by have := h.2.2.1; omega, by have := h.2.2.2; omega⟩
theorem Bd.rot {M : Int} {z : Px} (h : Bd M z) : Bd M (rot z) := by
  obtain ⟨a, b, c, d⟩ := h
  exact ⟨by show -M ≤ -z.2; omega, by show -z.2 ≤ M; omega, a, b⟩
theorem Bd.rotN {M : Int} : ∀ (n : Nat) {z : Px}, Bd M z → Bd M (rotN n z)
  | 0, _, h => h
  | n + 1, _, h => (Bd.rotN n h).rot
theorem Bd.quart {M : Int} {z : Px} (h : Bd M z) (k : Int) : Bd M (quart z k) := h.rotN _
theorem mul_bd {a c x M : Int} (h1 : -c ≤ a) (h2 : a ≤ c) (h3 : -M ≤ x) (h4 : x ≤ M) : -(c * M) ≤ a * x ∧ a * x ≤ c * M := by
  have hc : 0 ≤ c := by omega
  have hM : 0 ≤ M := by omega
  have p1 : 0 ≤ (c - a) * (M + x) := Int.mul_nonneg (by omega) (by omega)
  have p2 : 0 ≤ (c + a) * (M - x) := Int.mul_nonneg (by omega) (by omega)
  have p3 : 0 ≤ (c - a) * (M - x) := Int.mul_nonneg (by omega) (by omega)
  have p4 : 0 ≤ (c + a) * (M + x) := Int.mul_nonneg (by omega) (by omega)
  constructor <;> grind
theorem lA_bd (p q : Int) : -sizeC p q ≤ lA p q ∧ lA p q ≤ sizeC p q := by
  have sq : ∀ t : Int, 0 ≤ t * t := fun t => by
    rcases Int.le_total 0 t with g | g
    · exact Int.mul_nonneg g g
    · exact Int.mul_nonneg_of_nonpos_of_nonpos g g
  have := sq p
  have := sq q
  unfold sizeC lA
  omega
theorem lB_bd (p q : Int) : -sizeC p q ≤ lB p q ∧ lB p q ≤ sizeC p q := by
  have sq : ∀ t : Int, 0 ≤ t * t := fun t => by
    rcases Int.le_total 0 t with g | g
    · exact Int.mul_nonneg g g
    · exact Int.mul_nonneg_of_nonpos_of_nonpos g g
  have a := sq (p - q)
  have b := sq (p + q)
  unfold sizeC lB
  constructor <;> grind
theorem place_bd {p q M : Int} {z : Px} (h : Bd M z) : Bd (2 * (sizeC p q * M)) (place p q z) := by
  obtain ⟨a1, a2⟩ := lA_bd p q
  obtain ⟨b1, b2⟩ := lB_bd p q
  obtain ⟨x1, x2, y1, y2⟩ := h
  have u1 := mul_bd a1 a2 x1 x2
  have u2 := mul_bd b1 b2 y1 y2
  have u3 := mul_bd b1 b2 x1 x2
  have u4 := mul_bd a1 a2 y1 y2
  refine ⟨?_, ?_, ?_, ?_⟩ <;> show _ ≤ _ <;> unfold place <;> simp only [] <;> omega
theorem near_bd {n d M : Int} (h0 : 0 < d) (h1 : d % 2 = 1) (a : -(2 * (d * M)) ≤ n) (b : n ≤ 2 * (d * M)) : -(2 * M + 1) ≤ near n d ∧ near n d ≤ 2 * M + 1 := by
  obtain ⟨s, t⟩ := near_spec (n := n) h0 h1
  have e : d * (2 * M + 1) = 2 * (d * M) + d := by grind
  refine ⟨?_, ?_⟩
  · have : d * -(2 * M + 1) ≤ d * near n d := by rw [Int.mul_neg, e]; omega
    exact Int.le_of_mul_le_mul_left this h0
  · have : d * near n d ≤ d * (2 * M + 1) := by rw [e]; omega
    exact Int.le_of_mul_le_mul_left this h0
theorem img0_bd {p q M : Int} (h : Ok p q) {z : Px} (b : Bd M z) : Bd (2 * M + 1) (img0 p q z) := by
  obtain ⟨a1, a2, a3, a4⟩ := place_bd (p := p) (q := q) b
  have u := near_bd (M := M) h.cpos h.codd a1 a2
  have v := near_bd (M := M) h.cpos h.codd a3 a4
  exact ⟨u.1, u.2, v.1, v.2⟩
theorem img_bd {p q k M : Int} (h : Ok p q) {z : Px} (b : Bd M z) : Bd (2 * M + 1) (img p q k z) := (img0_bd h b).quart k
theorem nbs_bd {M : Int} {z w : Px} (b : Bd M z) (h : w ∈ nbs z) : Bd (M + 1) w := by
  obtain ⟨b1, b2, b3, b4⟩ := b
  rw [mem_nbs] at h
  exact ⟨by omega, by omega, by omega, by omega⟩
end TPm

/-! Turned pixels, in plain Lean: ascending lists, the pairs of a picture that meet. -/
namespace TPm
theorem lt_irr (z : Px) : ¬ lt z z := by unfold lt; omega
theorem lt_tr {x y z : Px} (a : lt x y) (b : lt y z) : lt x z := by unfold lt at *; omega
theorem lt_as {x y : Px} (a : lt x y) (b : lt y x) : False := lt_irr x (lt_tr a b)
theorem lt_tri (x y : Px) : lt x y ∨ x = y ∨ lt y x := by
  by_cases h : x = y
  · exact .inr (.inl h)
  · have : ¬ (x.1 = y.1 ∧ x.2 = y.2) := fun g => h (Prod.ext g.1 g.2)
    unfold lt
    omega
abbrev Asc (l : List Px) : Prop := l.Pairwise lt
theorem Asc.nodup {l : List Px} (h : Asc l) : l.Nodup := by
  refine List.Pairwise.imp (fun {a b} hab => ?_) h
  intro e
  subst e
  exact lt_irr a hab
theorem asc_ext : ∀ {l m : List Px}, Asc l → Asc m → (∀ z, z ∈ l ↔ z ∈ m) → l = m
  | [], [], _, _, _ => rfl
  | [], y :: m, _, _, h => absurd ((h y).mpr List.mem_cons_self) List.not_mem_nil
  | x :: l, [], _, _, h => absurd ((h x).mp List.mem_cons_self) List.not_mem_nil
  | x :: l, y :: m, hl, hm, h => by
    obtain ⟨l1, l2⟩ := List.pairwise_cons.mp hl
    obtain ⟨m1, m2⟩ := List.pairwise_cons.mp hm
    have e : x = y := by
      rcases List.mem_cons.mp ((h x).mp List.mem_cons_self) with g | g
      · exact g
      · rcases List.mem_cons.mp ((h y).mpr List.mem_cons_self) with k | k
        · exact k.symm
        · exact (lt_as (m1 x g) (l1 y k)).elim
    subst e
    have : l = m := asc_ext l2 m2 fun z => by
      constructor
      · intro hz
        rcases List.mem_cons.mp ((h z).mp (List.mem_cons_of_mem _ hz)) with g | g
        · subst g
          exact (lt_irr z (l1 z hz)).elim
        · exact g
      · intro hz
        rcases List.mem_cons.mp ((h z).mpr (List.mem_cons_of_mem _ hz)) with g | g
        · subst g
          exact (lt_irr z (m1 z hz)).elim
        · exact g
    rw [this]
theorem len_of_mem {l m : List Px} (hl : l.Nodup) (hm : m.Nodup) (h : ∀ z, z ∈ l ↔ z ∈ m) : l.length = m.length :=
  ((List.perm_ext_iff_of_nodup hl hm).mpr h).length_eq
theorem len_sub {α : Type} [DecidableEq α] : ∀ {l m : List α}, l.Nodup → (∀ z, z ∈ l → z ∈ m) → l.length ≤ m.length
  | [], _, _, _ => Nat.zero_le _
  | x :: l, m, hl, h => by
    obtain ⟨h1, h2⟩ := List.nodup_cons.mp hl
    have hx := h x List.mem_cons_self
    have ih := len_sub (m := m.erase x) h2 fun z hz => (List.mem_erase_of_ne (fun e : z = x => h1 (e ▸ hz))).mpr (h z (List.mem_cons_of_mem _ hz))
    rw [List.length_erase_of_mem hx] at ih
    have := List.length_pos_of_mem hx
    rw [List.length_cons]
    omega

/-! ### the pairs that meet -/
section
variable (f : Px → Px)
/-- the last pixel that has this image -/
def lastW (pre : List Px) (g : Px) : Option Px := pre.reverse.find? fun z => decide (f z = g)
theorem lastW_nil (g : Px) : lastW f [] g = none := rfl
theorem lastW_snoc (pre : List Px) (z g : Px) : lastW f (pre ++ [z]) g = if f z = g then some z else lastW f pre g := by
  unfold lastW
  rw [List.reverse_append]
  show List.find? _ (z :: pre.reverse) = _
  rw [List.find?_cons]
  by_cases h : f z = g
  · rw [if_pos h, decide_eq_true h]
  · rw [if_neg h, decide_eq_false h]
theorem lastW_some {pre : List Px} {g y : Px} (h : lastW f pre g = some y) : y ∈ pre ∧ f y = g :=
  ⟨List.mem_reverse.mp (List.mem_of_find?_eq_some h), of_decide_eq_true (List.find?_some (p := fun z => decide (f z = g)) h)⟩
theorem lastW_none {pre : List Px} {g : Px} (h : lastW f pre g = none) : ∀ y ∈ pre, f y ≠ g := fun y hy e => by
  have := List.find?_eq_none.mp h y (List.mem_reverse.mpr hy)
  simp [e] at this
def prN (l : List Px) : Nat → List (Px × Px)
  | 0 => []
  | i + 1 => prN l i ++ (match l[i]? with
    | some z => (match lastW f (l.take i) (f z) with | some y => [(y, z)] | none => [])
    | none => [])
def glN (l : List Px) : Nat → List Px
  | 0 => []
  | i + 1 => glN l i ++ (match l[i]? with
    | some z => (match lastW f (l.take i) (f z) with | some _ => [] | none => [f z])
    | none => [])
variable {f}
theorem prN_some {l : List Px} {i : Nat} {z y : Px} (h : l[i]? = some z) (g : lastW f (l.take i) (f z) = some y) : prN f l (i + 1) = prN f l i ++ [(y, z)] := by
  show prN f l i ++ _ = _
  rw [h]
  simp only [g]
theorem prN_none {l : List Px} {i : Nat} {z : Px} (h : l[i]? = some z) (g : lastW f (l.take i) (f z) = none) : prN f l (i + 1) = prN f l i := by
  show prN f l i ++ _ = _
  rw [h]
  simp only [g, List.append_nil]
theorem glN_some {l : List Px} {i : Nat} {z y : Px} (h : l[i]? = some z) (g : lastW f (l.take i) (f z) = some y) : glN f l (i + 1) = glN f l i := by
  show glN f l i ++ _ = _
  rw [h]
  simp only [g, List.append_nil]
theorem glN_none {l : List Px} {i : Nat} {z : Px} (h : l[i]? = some z) (g : lastW f (l.take i) (f z) = none) : glN f l (i + 1) = glN f l i ++ [f z] := by
  show glN f l i ++ _ = _
  rw [h]
  simp only [g]
theorem take_snoc {l : List Px} {i : Nat} {z : Px} (h : l[i]? = some z) : l.take (i + 1) = l.take i ++ [z] := by
  rw [List.take_add_one, h]
  rfl
theorem get_some {l : List Px} {i : Nat} (h : i < l.length) : ∃ z, l[i]? = some z := ⟨l[i], List.getElem?_eq_getElem h⟩
theorem pr_gl_len {l : List Px} : ∀ i, i ≤ l.length → (prN f l i).length + (glN f l i).length = i
  | 0, _ => rfl
  | i + 1, hi => by
    have ih := pr_gl_len (l := l) i (by omega)
    obtain ⟨z, hz⟩ := get_some (show i < l.length by omega)
    cases g : lastW f (l.take i) (f z) with
    | some y => rw [prN_some hz g, glN_some hz g, List.length_append]; simp only [List.length_singleton]; omega
    | none => rw [prN_none hz g, glN_none hz g, List.length_append]; simp only [List.length_singleton]; omega
theorem gl_mem {l : List Px} : ∀ i, i ≤ l.length → (glN f l i).Nodup ∧ ∀ g, g ∈ glN f l i ↔ ∃ z ∈ l.take i, f z = g
  | 0, _ => ⟨List.nodup_nil, fun g => by simp [glN]⟩
  | i + 1, hi => by
    obtain ⟨n, m⟩ := gl_mem (l := l) i (by omega)
    obtain ⟨z, hz⟩ := get_some (show i < l.length by omega)
    rw [take_snoc hz]
    cases g : lastW f (l.take i) (f z) with
    | some y =>
      rw [glN_some hz g]
      refine ⟨n, fun w => (m w).trans ⟨fun ⟨u, hu, e⟩ => ⟨u, List.mem_append_left _ hu, e⟩, fun ⟨u, hu, e⟩ => ?_⟩⟩
      rcases List.mem_append.mp hu with k | k
      · exact ⟨u, k, e⟩
      · rw [List.mem_singleton] at k
        subst k
        obtain ⟨a, b⟩ := lastW_some f g
        exact ⟨y, a, b.trans e⟩
    | none =>
      rw [glN_none hz g]
      have no := lastW_none f g
      refine ⟨?_, fun w => ?_⟩
      · rw [List.nodup_append]
        refine ⟨n, List.pairwise_singleton _ _, fun a ha b hb e => ?_⟩
        rw [List.mem_singleton] at hb
        subst hb e
        obtain ⟨u, hu, e⟩ := (m _).mp ha
        exact no u hu e
      · rw [List.mem_append, m w, List.mem_singleton]
        constructor
        · rintro (⟨u, hu, e⟩ | e)
          · exact ⟨u, List.mem_append_left _ hu, e⟩
          · exact ⟨z, List.mem_append_right _ (List.mem_singleton.mpr rfl), e.symm⟩
        · rintro ⟨u, hu, e⟩
          rcases List.mem_append.mp hu with k | k
          · exact .inl ⟨u, k, e⟩
          · rw [List.mem_singleton] at k
            subst k
            exact .inr e.symm
/-- each pair: the first stands ahead of the second, both have one image -/
theorem pr_mem {l : List Px} (hl : Asc l) : ∀ i, i ≤ l.length → ∀ pr ∈ prN f l i, pr.1 ∈ l ∧ pr.2 ∈ l ∧ lt pr.1 pr.2 ∧ f pr.1 = f pr.2
  | 0, _, pr, h => absurd h List.not_mem_nil
  | i + 1, hi, pr, h => by
    obtain ⟨z, hz⟩ := get_some (show i < l.length by omega)
    cases g : lastW f (l.take i) (f z) with
    | none =>
      rw [prN_none hz g] at h
      exact pr_mem hl i (by omega) pr h
    | some y =>
      rw [prN_some hz g] at h
      rcases List.mem_append.mp h with k | k
      · exact pr_mem hl i (by omega) pr k
      · rw [List.mem_singleton] at k
        subst k
        obtain ⟨a, b⟩ := lastW_some f g
        refine ⟨List.mem_of_mem_take a, List.mem_of_getElem? hz, ?_, b⟩
        have hp : (l.take i ++ [z]).Pairwise lt := by rw [← take_snoc hz]; exact hl.sublist (List.take_sublist _ _)
        exact (List.pairwise_append.mp hp).2.2 y a z (List.mem_singleton.mpr rfl)
theorem countP_or {α : Type} (P Q : α → Bool) : ∀ l : List α, (∀ x ∈ l, ¬ (P x = true ∧ Q x = true)) → l.countP (fun x => P x || Q x) = l.countP P + l.countP Q
  | [], _ => rfl
  | x :: l, h => by
    have ih := countP_or P Q l fun y hy => h y (List.mem_cons_of_mem _ hy)
    have hx := h x List.mem_cons_self
    rw [List.countP_cons, List.countP_cons, List.countP_cons, ih]
    cases a : P x <;> cases b : Q x
    · simp
    · simp; omega
    · simp; omega
    · exact absurd ⟨a, b⟩ hx
theorem countP_one {y : Px} : ∀ {l : List Px}, l.Nodup → y ∈ l → l.countP (fun x => decide (x = y)) = 1
  | [], _, h => absurd h List.not_mem_nil
  | x :: l, n, h => by
    obtain ⟨n1, n2⟩ := List.nodup_cons.mp n
    rw [List.countP_cons]
    by_cases e : x = y
    · subst e
      have : l.countP (fun x_1 => decide (x_1 = x)) = 0 := List.countP_eq_zero.mpr fun u hu k => n1 (of_decide_eq_true k ▸ hu)
      rw [this]
      simp
    · rcases List.mem_cons.mp h with k | k
      · exact absurd k.symm e
      · rw [countP_one n2 k]
        simp [e]
theorem countP_same {α : Type} {P Q : α → Bool} {l : List α} (h : ∀ x ∈ l, P x = Q x) : l.countP P = l.countP Q := by
  induction l with
  | nil => rfl
  | cons x l ih =>
    rw [List.countP_cons, List.countP_cons, ih fun y hy => h y (List.mem_cons_of_mem _ hy), h x List.mem_cons_self]
def hasM (f : Px → Px) (l : List Px) (x : Px) : Bool := l.any fun y => decide (y ≠ x) && decide (f y = f x)
theorem hasM_iff {l : List Px} {x : Px} : hasM f l x = true ↔ ∃ y ∈ l, y ≠ x ∧ f y = f x := by
  unfold hasM
  rw [List.any_eq_true]
  constructor
  · rintro ⟨y, hy, h⟩
    rw [Bool.and_eq_true] at h
    exact ⟨y, hy, of_decide_eq_true h.1, of_decide_eq_true h.2⟩
  · rintro ⟨y, hy, h1, h2⟩
    refine ⟨y, hy, ?_⟩
    rw [Bool.and_eq_true]
    exact ⟨decide_eq_true h1, decide_eq_true h2⟩
theorem hasM_snoc (l : List Px) (z x : Px) : hasM f (l ++ [z]) x = (hasM f l x || (decide (z ≠ x) && decide (f z = f x))) := by
  unfold hasM
  rw [List.any_append]
  simp
/-- twice as many pixels meet another one of the picture as there are pairs -/
theorem met_count {l : List Px} (hl : l.Nodup) (three : ∀ a b c, f a = f b → f a = f c → a = b ∨ a = c ∨ b = c) : ∀ i, i ≤ l.length → (l.take i).countP (hasM f (l.take i)) = 2 * (prN f l i).length
  | 0, _ => rfl
  | i + 1, hi => by
    have ih := met_count hl three i (by omega)
    obtain ⟨z, hz⟩ := get_some (show i < l.length by omega)
    have nd : (l.take i ++ [z]).Nodup := by rw [← take_snoc hz]; exact hl.sublist (List.take_sublist _ _)
    have zn : z ∉ l.take i := fun k => (List.nodup_append.mp nd).2.2 z k z (List.mem_singleton.mpr rfl) rfl
    have nd1 : (l.take i).Nodup := hl.sublist (List.take_sublist _ _)
    rw [take_snoc hz, List.countP_append]
    have hself : ([z] : List Px).countP (hasM f (l.take i ++ [z])) = if hasM f (l.take i) z = true then 1 else 0 := by
      rw [List.countP_cons, List.countP_nil, hasM_snoc]
      simp
    rw [hself]
    cases g : lastW f (l.take i) (f z) with
    | none =>
      rw [prN_none hz g]
      generalize l.take i = pre at *
      have no := lastW_none f g
      have h0 : ¬ hasM f pre z = true := fun k => by
        obtain ⟨y, hy, _, e⟩ := hasM_iff.mp k
        exact no y hy e
      rw [if_neg h0, ← ih]
      refine countP_same fun x hx => ?_
      rw [hasM_snoc, show decide (f z = f x) = false from decide_eq_false (fun e => no x hx e.symm), Bool.and_false, Bool.or_false]
    | some y =>
      rw [prN_some hz g, List.length_append, List.length_singleton]
      generalize l.take i = pre at *
      obtain ⟨hy, ey⟩ := lastW_some f g
      have yz : y ≠ z := fun e => zn (e ▸ hy)
      have h0 : hasM f pre z = true := hasM_iff.mpr ⟨y, hy, yz, ey⟩
      rw [if_pos h0]
      have e1 : pre.countP (hasM f (pre ++ [z])) = pre.countP (fun x => hasM f pre x || decide (x = y)) := countP_same fun x hx => by
        have xz : z ≠ x := fun e => zn (e ▸ hx)
        have q : decide (f z = f x) = decide (x = y) := by
          by_cases e : x = y
          · subst e
            rw [decide_eq_true rfl, decide_eq_true ey.symm]
          · rw [decide_eq_false e]
            refine decide_eq_false fun k => ?_
            rcases three z x y k ey.symm with t | t | t
            · exact xz t
            · exact yz t.symm
            · exact e t
        rw [hasM_snoc, q, decide_eq_true xz, Bool.true_and]
      have dis : ∀ x ∈ pre, ¬ (hasM f pre x = true ∧ decide (x = y) = true) := fun x hx h => by
        obtain ⟨h1, h2⟩ := h
        have e := of_decide_eq_true h2
        subst e
        obtain ⟨u, hu, ux, eu⟩ := hasM_iff.mp h1
        rcases three z x u ey.symm (ey.symm.trans eu.symm) with t | t | t
        · exact yz t.symm
        · exact zn (t ▸ hu)
        · exact ux t.symm
      rw [e1, countP_or _ _ pre dis, ih, countP_one nd1 hy]
      omega
end
end TPm

set_option exponentiation.threshold 4096
/-! Set tables of five sizes (the library's own tables of tuples end below 64): every slot is met on every way, what was put in is found again. -/
namespace TPs
open PySem PySem.Spec PyProof.Rows L2

/-! ### the round of i -> 5 i + 1, by a bitmap -/
def orbit (m : Nat) : Nat → Nat → Nat → Nat × Nat
  | 0, x, b => (x, b)
  | n + 1, x, b => orbit m n ((x * 5 + 1) % (m + 1)) (b ||| (1 <<< x))
theorem lcgI_front (m x : Nat) : ∀ k, lcgI m ((x * 5 + 1) % (m + 1)) k = lcgI m x (k + 1)
  | 0 => rfl
  | k + 1 => by
    have e := lcgI_front m x k
    show (lcgI m ((x * 5 + 1) % (m + 1)) k * 5 + 1) % (m + 1) = (lcgI m x (k + 1) * 5 + 1) % (m + 1)
    rw [e]
theorem lcgI_plus (m x a : Nat) : ∀ k, lcgI m (lcgI m x a) k = lcgI m x (a + k)
  | 0 => rfl
  | k + 1 => by
    have e := lcgI_plus m x a k
    show (lcgI m (lcgI m x a) k * 5 + 1) % (m + 1) = (lcgI m x (a + k) * 5 + 1) % (m + 1)
    rw [e]
theorem orbit_end (m : Nat) : ∀ n x b, (orbit m n x b).1 = lcgI m x n
  | 0, _, _ => rfl
  | n + 1, x, b => (orbit_end m n _ _).trans (lcgI_front m x n)
theorem orbit_bit (m j : Nat) : ∀ n x b, (orbit m n x b).2.testBit j = true → b.testBit j = true ∨ ∃ k, k < n ∧ lcgI m x k = j
  | 0, _, _, h => .inl h
  | n + 1, x, b, h => by
    rcases orbit_bit m j n _ _ h with g | ⟨k, hk, e⟩
    · rw [Nat.testBit_or, Bool.or_eq_true] at g
      rcases g with g | g
      · exact .inl g
      · refine .inr ⟨0, Nat.succ_pos _, ?_⟩
        rw [Nat.shiftLeft_eq, Nat.one_mul, Nat.testBit_two_pow] at g
        exact of_decide_eq_true g
    · exact .inr ⟨k + 1, Nat.succ_lt_succ hk, (lcgI_front m x k).symm.trans e⟩
/-- the tables' sizes less one -/
def Msk (m : Nat) : Prop := m = 7 ∨ m = 31 ∨ m = 127 ∨ m = 511 ∨ m = 2047
theorem orbit_7 : orbit 7 8 0 0 = (0, 2 ^ 8 - 1) := by decide +kernel
theorem orbit_31 : orbit 31 32 0 0 = (0, 2 ^ 32 - 1) := by decide +kernel
theorem orbit_127 : orbit 127 128 0 0 = (0, 2 ^ 128 - 1) := by decide +kernel
theorem orbit_511 : orbit 511 512 0 0 = (0, 2 ^ 512 - 1) := by decide +kernel
theorem orbit_2047 : orbit 2047 2048 0 0 = (0, 2 ^ 2048 - 1) := by decide +kernel
theorem Msk.orbit {m : Nat} (h : Msk m) : TPs.orbit m (m + 1) 0 0 = (0, 2 ^ (m + 1) - 1) := by
  rcases h with e | e | e | e | e <;> subst e
  · exact orbit_7
  · exact orbit_31
  · exact orbit_127
  · exact orbit_511
  · exact orbit_2047
theorem Msk.odd {m : Nat} (h : Msk m) : m % 2 = 1 := by rcases h with e | e | e | e | e <;> subst e <;> rfl
theorem Msk.le {m : Nat} (h : Msk m) : m ≤ 2047 := by rcases h with e | e | e | e | e <;> subst e <;> decide
theorem Msk.from0 {m : Nat} (h : Msk m) {j : Nat} (hj : j ≤ m) : ∃ k, k ≤ m ∧ lcgI m 0 k = j := by
  have o := h.orbit
  have b : (TPs.orbit m (m + 1) 0 0).2.testBit j = true := by
    rw [o]
    show (2 ^ (m + 1) - 1).testBit j = true
    rw [Nat.testBit_two_pow_sub_one]
    exact decide_eq_true (Nat.lt_succ_of_le hj)
  rcases orbit_bit m j (m + 1) 0 0 b with g | ⟨k, hk, e⟩
  · rw [Nat.zero_testBit] at g
    cases g
  · exact ⟨k, Nat.le_of_lt_succ hk, e⟩
theorem Msk.round {m : Nat} (h : Msk m) : lcgI m 0 (m + 1) = 0 := by
  have e := orbit_end m (m + 1) 0 0
  rw [h.orbit] at e
  exact e.symm
/-- from any slot each one -/
theorem Msk.all {m : Nat} (h : Msk m) {i j : Nat} (hi : i ≤ m) (hj : j ≤ m) : ∃ k, k ≤ m ∧ lcgI m i k = j := by
  obtain ⟨a, ha, ea⟩ := h.from0 hi
  obtain ⟨b, hb, eb⟩ := h.from0 hj
  by_cases c : a ≤ b
  · refine ⟨b - a, by omega, ?_⟩
    rw [← ea, lcgI_plus, Nat.add_sub_cancel' c, eb]
  · refine ⟨m + 1 + b - a, by omega, ?_⟩
    have two := lcgI_plus m 0 (m + 1) b
    rw [h.round, eb] at two
    rw [← ea, lcgI_plus, show a + (m + 1 + b - a) = m + 1 + b by omega, ← two]

/-! ### ways -/
theorem runs_meet {m : Nat} (hm : Msk m) (h : Int) {j : Nat} (hj : j ≤ m) : ∃ n, n ≤ m + 12 ∧ runI m (SetTable.bits h) n = j := by
  obtain ⟨k, hk, e⟩ := hm.all (runI_le m (SetTable.bits h) 12) hj
  refine ⟨12 + k, by omega, ?_⟩
  rw [runI_tail (bits_lt h) k, e]
theorem way_in (m : Nat) (h : Int) (k : Nat) : way m h k ≤ m := by
  have hi : SetTable.bits h % (m + 1) ≤ m := Nat.le_of_lt_succ (Nat.mod_lt _ (Nat.succ_pos _))
  have e := runEnd_bd hi
  have z : (runAt m (SetTable.bits h % (m + 1)) (SetTable.bits h)).j + (runAt m (SetTable.bits h % (m + 1)) (SetTable.bits h)).more ≤ m := by
    show SetTable.bits h % (m + 1) + (SetTable.runEnd m (SetTable.bits h % (m + 1)) - SetTable.bits h % (m + 1)) ≤ m
    omega
  exact Nat.le_trans (Nat.le_add_right _ _) (nth_in k _ z)
theorem way_meets {m : Nat} (hm : Msk m) (h : Int) {j : Nat} (hj : j ≤ m) : ∃ k, k < 10 * SetTable.turns m ∧ way m h k = j := by
  obtain ⟨n, hn, e⟩ := runs_meet hm h hj
  obtain ⟨k, hk, e2⟩ := run_nth m (SetTable.bits h) n
  have t : SetTable.turns m = m + 15 := rfl
  exact ⟨k, by omega, (congrArg SetTable.Probe.j e2).trans e⟩

/-- a table that finds again what was put in; hs: the hashes by place -/
structure Tbl (t : SetTable) (hs : List Int) : Prop where
  ris : Ris t.place.toList
  dm : t.dummies = #[]
  sz : t.place.size = hs.length
  msk : Msk t.mask
  bd : ∀ x ∈ t.place.toList, x ≤ t.mask
  reach : ∀ (i : Nat) (h : Int) (j : Nat), hs[i]? = some h → t.place.toList[i]? = some j → ∃ k, way t.mask h k = j ∧ ∀ k', k' < k → way t.mask h k' ∈ t.place.toList
section
variable {t : SetTable} {hs : List Int}
theorem Tbl.len (T : Tbl t hs) : t.place.toList.length = hs.length := by rw [Array.length_toList]; exact T.sz
theorem Tbl.free (T : Tbl t hs) (hl : hs.length ≤ t.mask) (h : Int) : ∃ K, K < 10 * SetTable.turns t.mask ∧ way t.mask h K ∉ t.place.toList ∧ ∀ k, k < K → way t.mask h k ∈ t.place.toList := by
  obtain ⟨j, hj, hn⟩ := st_missing t.place.toList (t.mask + 1) (by rw [T.len]; omega)
  obtain ⟨k, hk, e⟩ := way_meets T.msk h (Nat.le_of_lt_succ hj)
  obtain ⟨K, h1, h2, h3⟩ := st_least (p := fun k => way t.mask h k ∉ t.place.toList) k (fun z => hn (e ▸ z))
  exact ⟨K, Nat.lt_of_le_of_lt h1 hk, h2, fun k' hk' => Classical.byContradiction fun z => h3 k' hk' z⟩
theorem Tbl.ahead (T : Tbl t hs) {h : Int} {K i j : Nat} (hK : way t.mask h K ∉ t.place.toList) (hi : hs[i]? = some h) (hj : t.place.toList[i]? = some j) : ∃ k, k < K ∧ way t.mask h k = j := by
  obtain ⟨k, e, hb⟩ := T.reach i h j hi hj
  refine ⟨k, Nat.lt_of_not_le fun z => ?_, e⟩
  rcases Nat.eq_or_lt_of_le z with c | c
  · exact hK (by rw [c, e]; exact List.mem_of_getElem? hj)
  · exact hK (hb K c)
/-- one more, at the first free slot of its way -/
theorem Tbl.more (T : Tbl t hs) {h : Int} {j K p : Nat} (ej : way t.mask h K = j) (hK : j ∉ t.place.toList) (hb : ∀ k, k < K → way t.mask h k ∈ t.place.toList) (ep : SetTable.below t.place j = p) :
    p ≤ hs.length ∧ (t.put j).2 = p ∧ Tbl (t.put j).1 (hs.take p ++ h :: hs.drop p) ∧ (t.put j).1.fill = hs.length + 1 := by
  obtain ⟨c1, _, _⟩ := below_cut T.ris j
  rw [ep] at c1
  have hp : p ≤ hs.length := by rw [← T.sz]; exact c1
  have hp2 : p ≤ t.place.toList.length := by rw [T.len]; exact hp
  have hpl := put_place t j
  rw [ep] at hpl
  have hz : (t.put j).1.place.size = hs.length + 1 := by rw [← Array.length_toList, hpl, len_ins _ hp2, T.len]
  have grow : ∀ {x : Nat}, x ∈ t.place.toList → x ∈ (t.put j).1.place.toList := fun hx => by rw [hpl]; exact mem_ins.mpr (.inr hx)
  refine ⟨hp, ep, ⟨?_, put_dm T.dm j, ?_, T.msk, fun x hx => ?_, fun i h' j' h1 h2 => ?_⟩, ?_⟩
  · refine ris_insert T.ris fun e => hK (List.mem_of_getElem? (i := SetTable.below t.place j) ?_)
    rw [Array.getElem?_toList]
    exact e
  · rw [hz, len_ins _ hp]
  · rw [hpl] at hx
    rcases mem_ins.mp hx with e | e
    · rw [e, ← ej]
      exact way_in _ _ _
    · exact T.bd x e
  · rw [hpl, tins_get _ hp2] at h2
    rw [tins_get _ hp] at h1
    have old : ∀ i, hs[i]? = some h' → t.place.toList[i]? = some j' → ∃ k, way (t.put j).1.mask h' k = j' ∧ ∀ k', k' < k → way (t.put j).1.mask h' k' ∈ (t.put j).1.place.toList := fun i a b => by
      obtain ⟨k, e, z⟩ := T.reach i h' j' a b
      exact ⟨k, e, fun k' hk' => grow (z k' hk')⟩
    by_cases l : i < p
    · rw [if_pos l] at h1 h2
      exact old i h1 h2
    · by_cases q : i = p
      · rw [if_neg l, if_pos q] at h1 h2
        have e1 := Option.some.inj h1
        have e2 := Option.some.inj h2
        exact ⟨K, by rw [← e1, ← e2]; exact ej, fun k' hk' => by rw [← e1]; exact grow (hb k' hk')⟩
      · rw [if_neg l, if_neg q] at h1 h2
        exact old (i - 1) h1 h2
  · show (t.put j).1.place.size + (t.put j).1.dummies.size = _
    rw [hz, put_dm T.dm j]
    rfl
end

/-! ### laid anew -/
theorem free_slot {m : Nat} (hm : Msk m) (owner : Array (Option Nat)) (h : Int) {j : Nat} (hj : j ≤ m) (hf : oAt owner j = none) :
    ∃ K, SetTable.layClean.free m owner (SetTable.turns m) (SetTable.bits h % (m + 1)) (SetTable.bits h) = some (way m h K) ∧ oAt owner (way m h K) = none ∧ ∀ k, k < K → oAt owner (way m h k) ≠ none := by
  obtain ⟨n, hn, e⟩ := runs_meet hm h hj
  have hw : way m h (off m (SetTable.bits h % (m + 1)) (SetTable.bits h) n) = j := by
    have z := congrArg SetTable.Probe.j (nth_off m n (SetTable.bits h % (m + 1)) (SetTable.bits h))
    rw [itL_run] at z
    exact z.trans e
  obtain ⟨K, k1, k2, k3⟩ := st_least (p := fun k => oAt owner (way m h k) = none) _ (by show oAt owner (way m h _) = none; rw [hw]; exact hf)
  have occ : ∀ k, k < K → oAt owner (way m h k) ≠ none := k3
  refine ⟨K, ?_, k2, k3⟩
  have t : SetTable.turns m = m + 15 := rfl
  refine free_spec m owner (SetTable.turns m) n _ _ K (by omega) k1 (fun k hk => ?_) ?_
  · cases z : oAt owner (nth m (runAt m (SetTable.bits h % (m + 1)) (SetTable.bits h)) k).j with
    | none => exact absurd z (occ k hk)
    | some v => rfl
  · rw [show oAt owner (nth m (runAt m (SetTable.bits h % (m + 1)) (SetTable.bits h)) K).j = none from k2]
    rfl
theorem own_more {m : Nat} (hm : Msk m) {done : List Int} {owner : Array (Option Nat)} (W : Own m done owner) (hl : done.length ≤ m) (h : Int) :
    ∃ j, SetTable.layClean.free m owner (SetTable.turns m) (SetTable.bits h % (m + 1)) (SetTable.bits h) = some j ∧ Own m (done ++ [h]) (owner.setIfInBounds j (some done.length)) := by
  obtain ⟨ps, hps, hin⟩ := W.ps
  obtain ⟨j0, h0, hn0⟩ := st_missing ps (m + 1) (by omega)
  have hj0 : oAt owner j0 = none := Classical.byContradiction fun z => hn0 (hin j0 (Nat.le_of_lt_succ h0) z)
  obtain ⟨K, e1, e2, e3⟩ := free_slot hm owner h (Nat.le_of_lt_succ h0) hj0
  refine ⟨way m h K, e1, ?_⟩
  have hjm := way_in m h K
  generalize hj : way m h K = j at *
  have self : oAt (owner.setIfInBounds j (some done.length)) j = some done.length := oAt_set_self _ (by rw [W.sz]; exact Nat.lt_succ_of_le hjm)
  have other : ∀ i, i ≠ j → oAt (owner.setIfInBounds j (some done.length)) i = oAt owner i := fun i hi => oAt_set_ne _ hi
  have stays : ∀ i, oAt owner i ≠ none → oAt (owner.setIfInBounds j (some done.length)) i ≠ none := fun i hi => by
    by_cases c : i = j
    · rw [c, self]
      exact Option.some_ne_none _
    · rw [other i c]
      exact hi
  refine ⟨by rw [Array.size_setIfInBounds]; exact W.sz, fun i k hi e => ?_, fun k hk => ?_, j :: ps, by rw [List.length_cons, List.length_append, List.length_singleton, hps], fun i hi e => ?_⟩
  · by_cases c : i = j
    · rw [c, self] at e
      refine ⟨h, K, ?_, by rw [hj, c], fun k' hk' => stays _ (e3 k' hk')⟩
      rw [← Option.some.inj e, List.getElem?_concat_length]
    · rw [other i c] at e
      obtain ⟨h', K', a1, a2, a3⟩ := W.at_ i k hi e
      exact ⟨h', K', (List.getElem?_append_left (List.getElem?_eq_some_iff.mp a1).1).trans a1, a2, fun k' hk' => stays _ (a3 k' hk')⟩
  · rw [List.length_append, List.length_singleton] at hk
    by_cases c : k < done.length
    · obtain ⟨i, hi, e⟩ := W.all k c
      exact ⟨i, hi, (other i fun z => by rw [z, e2] at e; cases e).trans e⟩
    · rw [show k = done.length by omega]
      exact ⟨j, hjm, self⟩
  · by_cases c : i = j
    · rw [c]
      exact List.mem_cons_self
    · rw [other i c] at e
      exact List.mem_cons_of_mem _ (hin i hi e)
theorem lays_all {m : Nat} (hm : Msk m) : ∀ (rest done : List Int) (owner : Array (Option Nat)), Own m done owner → done.length + rest.length ≤ m →
    ∃ owner', rest.foldl (stepF m) (some (owner, done.length)) = some (owner', (done ++ rest).length) ∧ Own m (done ++ rest) owner'
  | [], done, owner, W, _ => by
    rw [List.append_nil]
    exact ⟨owner, rfl, W⟩
  | h :: rest, done, owner, W, hl => by
    have hl2 : done.length + (rest.length + 1) ≤ m := hl
    obtain ⟨j, e, W1⟩ := own_more hm W (by omega) h
    have ln : (done ++ [h]).length = done.length + 1 := List.length_append
    obtain ⟨owner', f, W2⟩ := lays_all hm rest (done ++ [h]) _ W1 (by rw [ln]; omega)
    rw [List.append_assoc] at f W2
    rw [ln] at f
    refine ⟨owner', ?_, W2⟩
    show rest.foldl (stepF m) (stepF m (some (owner, done.length)) h) = _
    rw [stepF_some e]
    exact f
theorem lays {m : Nat} (hm : Msk m) {hs : Array Int} (hn : hs.size ≤ m) : ∃ owner, SetTable.layClean m hs = some owner ∧ Own m hs.toList owner := by
  obtain ⟨owner, f, W⟩ := lays_all hm hs.toList [] _ (Own.init m) (by rw [Array.length_toList]; show 0 + hs.size ≤ m; omega)
  refine ⟨owner, ?_, W⟩
  rw [layClean_eq, show hs.toList.foldl (stepF m) (some (Array.replicate (m + 1) none, 0)) = _ from f]
  rfl
theorem laid_anew (t : SetTable) {hs : Array Int} {wanted M : Nat} (hw : SetTable.sizeAbove wanted - 1 = M) (hM : Msk M) (hn : hs.size ≤ M) :
    ∃ t' order, t.relaid hs wanted = some (t', order) ∧ order.toList.Perm (List.range hs.size) ∧ Tbl t' (order.toList.map fun i => hs.getD i 0) ∧ t'.mask = M ∧ t'.led = t.led ∧ t'.plain = t.plain := by
  obtain ⟨owner, e, W⟩ := lays hM hn
  obtain ⟨L, hL⟩ : ∃ L, liveOf M owner = L := ⟨_, rfl⟩
  have mem : ∀ {j k : Nat}, (j, k) ∈ L ↔ j ≤ M ∧ oAt owner j = some k := by rw [← hL]; exact mem_live W.sz
  have r0 := ris_live (fun j => owner.getD j none) (List.range (M + 1)) List.pairwise_lt_range
  have r1 : Ris (L.map (·.1)) := by rw [← hL]; exact r0.1
  have hlen : L.length = hs.size := by
    obtain ⟨ps, p1, p2⟩ := W.ps
    have nd : (L.map (·.1)).Nodup := List.Pairwise.imp (fun h => Nat.ne_of_lt h) r1
    have up := nat_nodup_len (L.map (·.1)) ps nd fun x hx => by
      obtain ⟨⟨y, k⟩, hq, rfl⟩ := List.mem_map.mp hx
      obtain ⟨b1, b2⟩ := mem.mp hq
      exact p2 y b1 (by rw [b2]; exact Option.some_ne_none _)
    have down := nat_nodup_len (List.range hs.size) (L.map (·.2)) List.nodup_range fun k hk => by
      obtain ⟨j, b1, b2⟩ := W.all k (by rw [Array.length_toList]; exact List.mem_range.mp hk)
      exact List.mem_map.mpr ⟨(j, k), mem.mpr ⟨b1, b2⟩, rfl⟩
    rw [List.length_map, p1] at up
    rw [List.length_map, List.length_range] at down
    have z : hs.toList.length = hs.size := rfl
    omega
  refine ⟨tabOf t M owner, (L.map (·.2)).toArray, ?_, ?_, ⟨?_, rfl, ?_, hM, ?_, fun i h j h1 h2 => ?_⟩, rfl, rfl, rfl⟩
  · rw [relaid_eq, hw, e, ← hL]
    rfl
  · refine perm_range hs.size (L.map (·.2)) (by rw [List.length_map, hlen]) fun k hk => ?_
    obtain ⟨j, b1, b2⟩ := W.all k (by rw [Array.length_toList]; exact hk)
    exact List.mem_map.mpr ⟨(j, k), mem.mpr ⟨b1, b2⟩, rfl⟩
  · show Ris ((liveOf M owner).map (·.1))
    rw [hL]
    exact r1
  · show ((liveOf M owner).map (·.1)).toArray.size = ((L.map (·.2)).map fun i => hs.getD i 0).length
    rw [hL, List.size_toArray, List.length_map, List.length_map, List.length_map]
  · intro x hx
    have hx2 : x ∈ (liveOf M owner).map (·.1) := hx
    rw [hL] at hx2
    obtain ⟨⟨y, k⟩, hq, rfl⟩ := List.mem_map.mp hx2
    exact (mem.mp hq).1
  · have g1 : ((L.map (·.2)).map fun i => hs.getD i 0)[i]? = some h := h1
    have g2 : ((liveOf M owner).map (·.1))[i]? = some j := h2
    rw [hL, List.getElem?_map] at g2
    rw [List.getElem?_map, List.getElem?_map] at g1
    obtain ⟨⟨y, k⟩, hq, ey⟩ := Option.map_eq_some_iff.mp g2
    rw [hq] at g1
    obtain ⟨b1, b2⟩ := mem.mp (List.mem_of_getElem? hq)
    obtain ⟨h0, K, a1, a2, a3⟩ := W.at_ y k b1 b2
    have eh : hs.getD k 0 = h := Option.some.inj g1
    have e0 : hs.getD k 0 = h0 := by
      rw [Array.getElem?_toList] at a1
      rw [Array.getD_eq_getD_getElem?, a1]
      rfl
    have ej : y = j := ey
    rw [← eh, e0, ← ej]
    refine ⟨K, a2, fun k' hk' => ?_⟩
    show way M h0 k' ∈ (liveOf M owner).map (·.1)
    rw [hL]
    cases z : oAt owner (way M h0 k') with
    | none => exact absurd z (a3 k' hk')
    | some k2 => exact List.mem_map.mpr ⟨(way M h0 k', k2), mem.mpr ⟨way_in _ _ _, z⟩, rfl⟩
theorem grown_5 : SetTable.sizeAbove (SetTable.grown 5) = 32 := by decide +kernel
theorem grown_19 : SetTable.sizeAbove (SetTable.grown 19) = 128 := by decide +kernel
theorem grown_77 : SetTable.sizeAbove (SetTable.grown 77) = 512 := by decide +kernel
theorem grown_307 : SetTable.sizeAbove (SetTable.grown 307) = 2048 := by decide +kernel
end TPs

/-! Sets of tuples of ints with up to 1200 items, over the tables of TPTab: search, adding, set(list), sorted(set). -/
namespace TPs
open PySem PySem.Spec PyProof.Rows L2

/-- the set at a, its rows L as they stand in the table -/
structure SetH (P : Program) (w : World) (h : Heap) (a : Addr) (L : List (Addr × List Int)) (es : Array (Int × Value)) (ep : Nat) (t : SetTable) : Prop where
  ob : ∃ o, h.get? a = some o ∧ o.ExactSet ∧ o.data = .set es ep t
  rows : es.toList = rowsOf P w L
  tab : Tbl t (L.map fun p => thash P w p.2)
  nd : (L.map (·.2)).Nodup
  tup : ∀ p ∈ L, IsT P w h p.2 p.1
  plain : t.plain = true
  led : w.params.followText "set-order" = true ∨ t.led = true
  room : L.length * 5 < t.mask * 3
  few : L.length ≤ 1200
section
variable {P : Program} {w : World} {A : Around} {E : Value → Shared → Prop} {s : Shared} {a : Addr} {L : List (Addr × List Int)} {es : Array (Int × Value)} {ep : Nat} {t : SetTable}
theorem size_rows (h : es.toList = rowsOf P w L) : es.size = L.length := by
  rw [← Array.length_toList, h]
  exact List.length_map ..
theorem fits_of (T : Tbl t (L.map fun p => thash P w p.2)) (h : es.toList = rowsOf P w L) (hm : L.length ≤ t.mask) : t.fits es.size = true := by
  have e1 := size_rows h
  have e2 := T.sz
  rw [List.length_map] at e2
  unfold SetTable.fits SetTable.fill
  rw [T.dm, Bool.and_eq_true, beq_iff_eq, decide_eq_true_eq]
  exact ⟨e2.trans e1.symm, by rw [e2]; exact hm⟩
theorem SetH.fits (R : SetH P w s.heap a L es ep t) : t.fits es.size = true := fits_of R.tab R.rows (by have := R.room; omega)
theorem SetH.row (R : SetH P w s.heap a L es ep t) {i : Nat} {p : Addr × List Int} (h : L[i]? = some p) : es[i]? = some (thash P w p.2, Value.ref p.1) := by
  have e : es.toList[i]? = some (thash P w p.2, Value.ref p.1) := by
    rw [R.rows]
    unfold rowsOf
    rw [List.getElem?_map, h]
    rfl
  rw [Array.getElem?_toList] at e
  exact e
theorem SetH.away (R : SetH P w s.heap a L es ep t) : ¬ t.gaveWay = true := by
  unfold SetTable.gaveWay
  rw [R.tab.msk.odd]
  decide
theorem dummy_none (m : Nat) : ∀ (n : Nat) (p : SetTable.Probe), p.dummy = none → (nth m p n).dummy = none
  | 0, _, h => h
  | n + 1, p, h => dummy_none m n (adv m p) (by unfold adv; split <;> exact h)
/-- the search from step c of the way on -/
theorem SetH.seek (R : SetH P w s.heap a L es ep t) {x : Addr} {k : List Int} (hx : IsT P w s.heap k x) (hu : A.units < cLine) {K : Nat} (hKf : K < 10 * SetTable.turns t.mask)
    (hK : way t.mask (thash P w k) K ∉ t.place.toList) (hKb : ∀ c, c < K → way t.mask (thash P w k) c ∈ t.place.toList) {Q : SetFound → Shared → Prop}
    (hin : k ∈ L.map (·.2) → Q (.there none) s) (hout : k ∉ L.map (·.2) → Q (.free (way t.mask (thash P w k) K) false) s) :
    ∀ (f c : Nat) (from_ : Option SetTable.Probe), from_.getD (t.probeStart (thash P w k)) = nth t.mask (t.probeStart (thash P w k)) c → c ≤ K → K < f + c →
      (∀ (i : Nat) (p : Addr × List Int), L[i]? = some p → p.2 = k → ∃ c', c ≤ c' ∧ c' < K ∧ t.place.toList[i]? = some (way t.mask (thash P w k) c')) →
      wpAny (model P w) A (setSearchFrom a (.ref x) (thash P w k) true f from_) Q E s := by
  intro f
  obtain ⟨o, ho, hex, hd⟩ := R.ob
  induction f with
  | zero => intro c _ _ h1 h2 _; exact absurd h2 (by omega)
  | succ f ih =>
    intro c from_ hst hc hf left
    -- the probe, told by places of the way
    have shift : ∀ q, nth t.mask (nth t.mask (t.probeStart (thash P w k)) c) q = nth t.mask (t.probeStart (thash P w k)) (c + q) := fun q => (nth_add t.mask c _ q).symm
    have slotAt : ∀ q, (nth t.mask (nth t.mask (t.probeStart (thash P w k)) c) q).j = way t.mask (thash P w k) (c + q) := fun q => congrArg SetTable.Probe.j (shift q)
    have spec := go_spec t R.tab.ris R.tab.dm (fun i : Nat => (es[i]?.map (·.1)).getD 0) (thash P w k) (10 * SetTable.turns t.mask) (K - c) (nth t.mask (t.probeStart (thash P w k)) c)
      (dummy_none _ _ _ rfl) (by omega) (fun q hq => by rw [slotAt]; exact hKb _ (by omega)) (by rw [slotAt, Nat.add_sub_cancel' hc]; exact hK)
    have hashOf : ∀ {i : Nat} {p : Addr × List Int}, L[i]? = some p → (fun i : Nat => (es[i]?.map (·.1)).getD 0) i = thash P w p.2 := fun hp => by
      simp only []
      rw [R.row hp]
      rfl
    -- an item that has k is not passed unseen
    have seen : ∀ {q : Nat}, (∀ k' i', k' < q → t.place.toList[i']? = some (nth t.mask (nth t.mask (t.probeStart (thash P w k)) c) k').j → (fun i : Nat => (es[i]?.map (·.1)).getD 0) i' ≠ thash P w k) →
        ∀ {i : Nat} {p : Addr × List Int} {c' : Nat}, L[i]? = some p → p.2 = k → c ≤ c' → t.place.toList[i]? = some (way t.mask (thash P w k) c') → c + q ≤ c' := fun {q} no {i p c'} hp hk h1 h2 =>
      Nat.le_of_not_lt fun lt => by
        refine no (c' - c) i (by omega) ?_ ((hashOf hp).trans (congrArg (thash P w) hk))
        rw [slotAt, Nat.add_sub_cancel' h1]
        exact h2
    rw [setSearchFrom_succ]
    refine wpAny_bind (wpAny_setState_of ho hd R.fits ?_)
    dsimp only
    refine wp_if_neg R.away ?_
    try refine wpAny_bind (wpAny_pure ?_)
    have start : t.probe (fun i : Nat => (es[i]?.map (·.1)).getD 0) (thash P w k) (from_.getD (t.probeStart (thash P w k))) = SetTable.probe.go t (fun i : Nat => (es[i]?.map (·.1)).getD 0) (thash P w k) (10 * SetTable.turns t.mask) (nth t.mask (t.probeStart (thash P w k)) c) := by
      rw [hst]
      rfl
    rw [start]
    rcases spec with ⟨q, i, hq, hi, hh, no, found⟩ | ⟨no, found⟩
    · rw [found, slotAt, shift]
      dsimp only
      rw [slotAt] at hi
      have hil : i < L.length := by
        have z := (List.getElem?_eq_some_iff.mp hi).1
        rw [R.tab.len, List.length_map] at z
        exact z
      obtain ⟨p, hp⟩ : ∃ p, L[i]? = some p := ⟨_, List.getElem?_eq_getElem hil⟩
      have hmem : p ∈ L := List.mem_of_getElem? hp
      have ask : wpAny (model P w) A (searchRest a (.ref x) (thash P w k) true f es t (way t.mask (thash P w k) (c + q)) i (nth t.mask (t.probeStart (thash P w k)) (c + (q + 1)))) Q E s := by
        have hs := slot_live R.tab.ris hi
        unfold searchRest
        rw [R.row hp]
        dsimp only
        refine wpAny_bind (wpAny_holding (wpAny_eqBool_tuple hu (R.tup p hmem) hx ?_))
        refine wpAny_bind (wpAny_setState_of ho hd R.fits ?_)
        dsimp only
        by_cases same : p.2 = k
        · refine wp_if_pos (by simp [same]) (wpAny_pure (hin ?_))
          exact List.mem_map.mpr ⟨p, hmem, same⟩
        · refine wp_if_neg (by simp [same]) ?_
          try refine wpAny_bind (wpAny_pure ?_)
          rw [sameMem]
          simp only [if_true, hs, R.row hp]
          refine wpAny_bind (wpAny_isSame_ref_self (wpAny_bind (wpAny_pure ?_)))
          simp only [if_true]
          refine wp_if_neg (by simp [same]) ?_
          refine ih (c + (q + 1)) _ rfl (by omega) (by omega) fun i0 p0 h0 hk0 => ?_
          obtain ⟨c', a1, a2, a3⟩ := left i0 p0 h0 hk0
          have a4 := seen no h0 hk0 a1 a3
          refine ⟨c', ?_, a2, a3⟩
          rcases Nat.eq_or_lt_of_le a4 with e | lt
          · rw [← e] at a3
            have e2 := (slot_live R.tab.ris a3).symm.trans hs
            injection e2 with e3
            subst e3
            rw [hp] at h0
            exact absurd ((congrArg Prod.snd (Option.some.inj h0)).trans hk0) same
          · omega
      by_cases hl : t.led = true
      · refine wp_if_neg (by simp [hl]) ?_
        try refine wpAny_bind (wpAny_pure ?_)
        exact ask
      · refine wp_if_pos (by simp [hl]) ?_
        refine wpAny_bind (seen_tup hx (fun y hy => ?_) (wp_if_neg Bool.false_ne_true ?_))
        · obtain ⟨e, he, ee⟩ := List.mem_map.mp hy
          have he2 : e ∈ es.toList := Array.mem_toList_iff.mpr (Array.mem_filter.mp (Array.mem_toList_iff.mp he)).1
          rw [R.rows] at he2
          obtain ⟨p2, hp2, e2⟩ := List.mem_map.mp he2
          exact ⟨p2.2, p2.1, by rw [← ee, ← e2], R.tup p2 hp2⟩
        · try refine wpAny_bind (wpAny_pure ?_)
          exact ask
    · rw [found, slotAt, Nat.add_sub_cancel' hc]
      dsimp only
      refine wpAny_pure (hout fun hm => ?_)
      obtain ⟨p0, h0, hk0⟩ := List.mem_map.mp hm
      obtain ⟨i0, hi0⟩ := List.getElem?_of_mem h0
      obtain ⟨c', a1, a2, a3⟩ := left i0 p0 hi0 hk0
      have := seen no hi0 hk0 a1 a3
      omega
/-- the search that adding asks for -/
theorem SetH.find (R : SetH P w s.heap a L es ep t) {x : Addr} {k : List Int} (hx : IsT P w s.heap k x) (hu : A.units < cLine) {Q : SetFound → Shared → Prop} (hin : k ∈ L.map (·.2) → Q (.there none) s)
    (hout : ∀ K, k ∉ L.map (·.2) → way t.mask (thash P w k) K ∉ t.place.toList → (∀ c, c < K → way t.mask (thash P w k) c ∈ t.place.toList) → Q (.free (way t.mask (thash P w k) K) false) s) :
    wpAny (model P w) A (setSearch a (.ref x) (thash P w k) true) Q E s := by
  obtain ⟨K, hKf, hK, hKb⟩ := R.tab.free (by rw [List.length_map]; have := R.room; omega) (thash P w k)
  have ml := R.tab.msk.le
  have tl : SetTable.turns t.mask = t.mask + 15 := rfl
  unfold setSearch
  refine R.seek hx hu hKf hK hKb hin (fun hn => hout K hn hK hKb) _ 0 none rfl (Nat.zero_le _) (by omega) fun i p hp hk => ?_
  have hi : (L.map fun p => thash P w p.2)[i]? = some (thash P w k) := by
    rw [List.getElem?_map, hp, ← hk]
    rfl
  have hil : i < t.place.toList.length := by
    rw [R.tab.len, List.length_map]
    exact (List.getElem?_eq_some_iff.mp hp).1
  have hj := List.getElem?_eq_getElem hil
  obtain ⟨c, hc, e⟩ := R.tab.ahead hK hi hj
  exact ⟨c, Nat.zero_le _, hc, by rw [hj, e]⟩

/-- laid anew with mask M -/
theorem relay_set {o : Obj} (ho : s.heap.get? a = some o) (hex : o.ExactSet) (hd : o.data = .set es ep t) (T0 : Tbl t (L.map fun p => thash P w p.2)) (hrows : es.toList = rowsOf P w L) (hfl : L.length ≤ t.mask)
    (nd : (L.map (·.2)).Nodup) (tup : ∀ p ∈ L, IsT P w s.heap p.2 p.1) (pl : t.plain = true) (ld : w.params.followText "set-order" = true ∨ t.led = true) (few : L.length ≤ 1200) {wanted M : Nat}
    (hw : SetTable.sizeAbove wanted = M + 1) (hM : Msk M) (hn : L.length * 5 < M * 3) {Q : Unit → Shared → Prop}
    (hQ : ∀ h' L' es' ep' t', Heap.SameBut a s.heap h' → SetH P w h' a L' es' ep' t' → L'.Perm L → Q () { s with heap := h' }) : wpAny (model P w) A (setRelay a wanted) Q E s := by
  have hsl := size_rows hrows
  have mle := hM.le
  obtain ⟨t', order, e, hp, T, em, el, ed⟩ := laid_anew t (hs := es.map (·.1)) (wanted := wanted) (M := M) (by rw [hw]; rfl) hM (by rw [Array.size_map, hsl]; omega)
  rw [Array.size_map, hsl] at hp
  obtain ⟨L2, r1, r2, r3⟩ := order_rows L es order hrows hp
  rw [← r3] at T
  have hs2 : (order.filterMap (es[·]?)).size = L.length := (size_rows r1).trans r2.length_eq
  rw [setRelay_eq]
  refine wpAny_bind (wpAny_setState_of ho hd (fits_of T0 hrows hfl) ?_)
  dsimp only
  refine wp_if_neg (by rw [sizeLine_eq, hw]; omega) ?_
  try refine wpAny_bind (wpAny_pure ?_)
  rw [e]
  dsimp only
  refine wpAny_bind (wp_if_neg (by rw [hs2, hsl]; simp) ?_)
  try refine wpAny_bind (wpAny_pure ?_)
  refine wpAny_pure ?_
  dsimp only
  refine wpAny_storeSet_of ho hd ?_ (by rw [hs2, sizeLine_eq]; omega)
  have sb : Heap.SameBut a s.heap (s.heap.update a (Obj.putSet (order.filterMap (es[·]?)) t')) := Heap.SameBut.update ..
  exact hQ _ L2 _ (ep + 1) t' sb ⟨⟨_, store_at ho hd, ⟨hex.1, hex.2.1, hex.2.2⟩, rfl⟩, r1, T, (r2.map (·.2)).nodup_iff.mpr nd, fun p hpm => isT_same (tup p (r2.mem_iff.mp hpm)) ho hd sb,
    ed.trans pl, by rw [el]; exact ld, by rw [r2.length_eq, em]; exact hn, by rw [r2.length_eq]; exact few⟩ r2

/-- adding: the same rows, or one more -/
theorem SetH.add (R : SetH P w s.heap a L es ep t) {x : Addr} {k : List Int} (hx : IsT P w s.heap k x) (hu : A.units < cLine) (hfew : L.length + 1 ≤ 1200) {Q : Bool → Shared → Prop}
    (hQ : ∀ b h' L' es' ep' t', Heap.SameBut a s.heap h' → SetH P w h' a L' es' ep' t' → (k ∈ L.map (·.2) → L' = L) → (k ∉ L.map (·.2) → L'.Perm ((x, k) :: L)) → Q b { s with heap := h' }) :
    wpAny (model P w) A (setAddHashed a (.ref x) (thash P w k)) Q E s := by
  obtain ⟨o, ho, hex, hd⟩ := R.ob
  have hsl := size_rows R.rows
  have hroom := R.room
  unfold setAddHashed
  refine wpAny_holding ?_
  rw [show (100000 : Nat) = 99999 + 1 from rfl, setAddHashedIn_succ]
  refine wpAny_bind (wpAny_setState_of ho hd R.fits ?_)
  dsimp only
  refine wp_if_neg (by simp [byScan, Value.scannable]) ?_
  try refine wpAny_bind (wpAny_pure ?_)
  refine wpAny_bind (R.find hx hu (fun hm => ?_) fun K hm hK hb => ?_)
  · dsimp only
    exact wpAny_pure (hQ false s.heap L es ep t (Heap.SameBut.refl a s.heap) R (fun _ => rfl) fun z => absurd hm z)
  dsimp only
  refine wpAny_bind (wpAny_setState_of ho hd R.fits ?_)
  dsimp only
  generalize hj : way t.mask (thash P w k) K = j at *
  generalize hpp : SetTable.below t.place j = p
  obtain ⟨q1, q2, q3, q4⟩ := R.tab.more hj hK hb hpp
  have m1 : (t.put j).1.mask = t.mask := rfl
  have l1 : (t.put j).1.led = t.led := rfl
  have p1 : (t.put j).1.plain = true := R.plain
  rw [q2]
  generalize (t.put j).1 = t1 at q3 q4 m1 l1 p1 ⊢
  have pm := put_perm L p (x, k)
  have hhs : (L.take p ++ (x, k) :: L.drop p).map (fun p => thash P w p.2) = (L.map fun p => thash P w p.2).take p ++ thash P w k :: (L.map fun p => thash P w p.2).drop p := by
    rw [List.map_append, List.map_cons, List.map_take, List.map_drop]
  rw [← hhs] at q3
  have hin : (SetTable.insertAt es p (thash P w k, Value.ref x)).toList = rowsOf P w (L.take p ++ (x, k) :: L.drop p) := by
    rw [SetTable.toList_insertAt, rows_put, R.rows]
  generalize SetTable.insertAt es p (thash P w k, Value.ref x) = es1 at hin ⊢
  generalize L.take p ++ (x, k) :: L.drop p = L1 at pm q3 hin
  have hlen : L1.length = L.length + 1 := pm.length_eq
  have nd1 : (L1.map (·.2)).Nodup := (pm.map (·.2)).nodup_iff.mpr (List.nodup_cons.mpr ⟨hm, R.nd⟩)
  have hes := size_rows hin
  first
    | (refine wpAny_bind ?_; refine wp_if_pos p1 ?_; refine hashBy_tup hx ?_)
    | refine wp_if_pos p1 (wpAny_bind (hashBy_tup hx ?_))
  simp only [if_true]
  refine wpAny_bind (wpAny_storeSet_of ho hd ?_ (by rw [hes, sizeLine_eq]; omega))
  have sb : Heap.SameBut a s.heap (s.heap.update a (Obj.putSet es1 t1)) := Heap.SameBut.update ..
  have ho1 := store_at (es' := es1) (t' := t1) ho hd
  generalize s.heap.update a (Obj.putSet es1 t1) = h1 at sb ho1 ⊢
  have tup1 : ∀ p ∈ L1, IsT P w h1 p.2 p.1 := fun p hp => by
    rcases List.mem_cons.mp (pm.mem_iff.mp hp) with e | hp
    · rw [e]
      exact isT_same hx ho hd sb
    · exact isT_same (R.tup p hp) ho hd sb
  have ld1 : w.params.followText "set-order" = true ∨ t1.led = true := by rw [l1]; exact R.led
  have full : t1.tooFull = decide ((L.length + 1) * 5 ≥ t1.mask * 3) := by
    unfold SetTable.tooFull
    rw [q4, List.length_map]
  by_cases hf : t1.tooFull = true
  · have hfull : (L.length + 1) * 5 ≥ t1.mask * 3 := by rw [full] at hf; exact of_decide_eq_true hf
    first
      | (refine wpAny_bind ?_; refine wp_if_pos (by simp [hf]) ?_)
      | (refine wp_if_pos (by simp [hf]) ?_; refine wpAny_bind ?_)
    rw [hsl]
    have go : ∀ M, SetTable.sizeAbove (SetTable.grown (L.length + 1)) = M + 1 → Msk M → (L.length + 1) * 5 < M * 3 → L.length + 1 ≤ t1.mask →
        wpAny (model P w) A (setRelay a (SetTable.grown (L.length + 1))) (fun _ s' => wpAny (model P w) A (pure true) Q E s') E { s with heap := h1 } := fun M w1 w2 w3 w4 =>
      relay_set (s := { s with heap := h1 }) ho1 ⟨hex.1, hex.2.1, hex.2.2⟩ rfl q3 hin (by rw [hlen]; exact w4) nd1 tup1 p1 ld1 (by rw [hlen]; exact hfew) w1 w2 (by rw [hlen]; exact w3) fun h2 L2 es2 ep2 t2 sb2 R2 pm2 =>
        wpAny_pure (hQ true h2 L2 es2 ep2 t2 (sb.trans sb2) R2 (fun z => absurd z hm) fun _ => pm2.trans pm)
    rw [m1] at hfull go
    rcases R.tab.msk with e | e | e | e | e <;> rw [e] at hroom hfull go
    · have z : L.length = 4 := by omega
      rw [z] at go ⊢
      exact go 31 grown_5 (.inr (.inl rfl)) (by decide) (by decide)
    · have z : L.length = 18 := by omega
      rw [z] at go ⊢
      exact go 127 grown_19 (.inr (.inr (.inl rfl))) (by decide) (by decide)
    · have z : L.length = 76 := by omega
      rw [z] at go ⊢
      exact go 511 grown_77 (.inr (.inr (.inr (.inl rfl)))) (by decide) (by decide)
    · have z : L.length = 306 := by omega
      rw [z] at go ⊢
      exact go 2047 grown_307 (.inr (.inr (.inr (.inr rfl)))) (by decide) (by decide)
    · omega
  · have hfull : ¬ (L.length + 1) * 5 ≥ t1.mask * 3 := by rw [full] at hf; exact fun z => hf (decide_eq_true z)
    first
      | refine wp_if_neg (by simp [hf]) ?_
      | (refine wpAny_bind ?_; refine wp_if_neg (by simp [hf]) ?_; refine wpAny_pure ?_)
    exact wpAny_pure (hQ true h1 L1 es1 (ep + 1) t1 sb ⟨⟨_, ho1, ⟨hex.1, hex.2.1, hex.2.2⟩, rfl⟩, hin, q3, nd1, tup1, p1, ld1, by rw [hlen]; omega, by rw [hlen]; exact hfew⟩ (fun z => absurd z hm) fun _ => pm)
end
end TPs

/-! Sets of pixels: set(list), one added, sorted(set), as rules of the layer. -/
namespace TPs
open PySem PySem.Spec PyProof.Rows L2
section
variable {P : Program} {w : World} {A : Around} {E : Value → Shared → Prop} {s : Shared} {a : Addr} {L : List (Addr × List Int)} {es : Array (Int × Value)} {ep : Nat} {t : SetTable}
theorem SetH.keep {h h' : Heap} (R : SetH P w h a L es ep t) (ha : ∀ o, h.get? a = some o → h'.get? a = some o) (ht : ∀ p ∈ L, IsT P w h' p.2 p.1) : SetH P w h' a L es ep t := by
  obtain ⟨o, ho, r⟩ := R.ob
  exact { R with ob := ⟨o, ha o ho, r⟩, tup := ht }
abbrev newSetObj (w : World) : Obj := { cls := .type "set", dict := none, data := .set #[] 0 (.fresh 0 0 (!w.params.followText "set-order")) }
theorem setH_new {h : Heap} (ho : h.get? a = some (newSetObj w)) : SetH P w h a [] #[] 0 (.fresh 0 0 (!w.params.followText "set-order")) where
  ob := ⟨_, ho, ⟨rfl, rfl, rfl⟩, rfl⟩
  rows := rfl
  tab := ⟨List.Pairwise.nil, rfl, rfl, .inl rfl, fun x hx => (nomatch hx), fun i h j hi => (nomatch hi)⟩
  nd := List.nodup_nil
  tup := fun p hp => (nomatch hp)
  plain := rfl
  led := by
    show _ ∨ (!w.params.followText "set-order") = true
    cases w.params.followText "set-order"
    · exact .inr rfl
    · exact .inl rfl
  room := (by decide : 0 * 5 < 7 * 3)
  few := Nat.zero_le _
/-- the loop of set.update over a walk of the tuples ks -/
theorem update_loop {I : Addr} {fp wr : List Addr} {G : Array GenState → Array GenState → Prop} {n : Nat} {Pv : Nat → Value → Prop} {St : Nat → Shared → Prop} {R : Result → Shared → Prop}
    (W : WalksS P w A.in1 I fp wr G n Pv St) (S : Addr) (hSf : S ∉ fp) (ks : List (Addr × List Int)) (hn : n = ks.length) (hfew : ks.length ≤ 1200) (hval : ∀ i v, Pv i v → ∃ p, ks[i]? = some p ∧ v = .ref p.1)
    (h0 : Heap) (hk : ∀ p ∈ ks, IsT P w h0 p.2 p.1) (hS0 : h0.get? S = none) (hw0 : ∀ b ∈ wr, h0.get? b = none) (hu : A.in1.units < cLine) :
    ∀ (k i : Nat) (s : Shared), i + k = n → St i s → (∀ b o, h0.get? b = some o → s.heap.get? b = some o) → (∃ L es ep t, SetH P w s.heap S L es ep t ∧ Got ks i L) →
      (∀ s' L es ep t, Moved (S :: wr) G s s' → SetH P w s'.heap S L es ep t → Got ks n L → (∀ b o, h0.get? b = some o → s'.heap.get? b = some o) → R (.ok (.ret .none)) s') →
      codeAny (model P w) A (.builtin "set.update.loop" ⟨[.ref S, .ref I], []⟩) R s := by
  have hSw : S ∉ wr := fun h => hSf (W.sub _ h)
  have wide : ∀ b ∈ wr, b ∈ S :: wr := fun b hb => List.mem_cons_of_mem _ hb
  have kept : ∀ {s s' : Shared}, Moved wr G s s' → (∀ b o, h0.get? b = some o → s.heap.get? b = some o) → ∀ b o, h0.get? b = some o → s'.heap.get? b = some o := fun hm hkp b o e =>
    hm.heap b o (fun hb => by rw [hw0 b hb] at e; cases e) (hkp b o e)
  have carry : ∀ {s s' : Shared} {i : Nat} {L : List (Addr × List Int)} {es : Array (Int × Value)} {ep : Nat} {t : SetTable}, Moved wr G s s' → SetH P w s.heap S L es ep t → Got ks i L → (∀ b o, h0.get? b = some o → s'.heap.get? b = some o) → SetH P w s'.heap S L es ep t :=
    fun hm hS g hkp => hS.keep (fun o e => hm.heap S o hSw e) fun p hp => isT_keep (hk p (List.mem_of_mem_take (g.sub p hp))) hkp
  intro k
  induction k with
  | zero =>
    intro i s hi hst hkp ⟨L, es, ep, t, hS, g⟩ hR
    have e : i = n := by omega
    subst e
    refine codeAny_builtin F.entry_set_update_loop ?_
    rw [Around.under_plainId F.plain_set_update_loop _]
    show wpAny _ A.in1 (pyNext (.ref I) >>= _) _ _ s
    refine wpAny_bind (W.done s _ _ hst fun s' hm => ?_)
    exact wpAny_pure (hR s' L es ep t (hm.mono wide) (carry hm hS g (kept hm hkp)) g (kept hm hkp))
  | succ k ih =>
    intro i s hi hst hkp ⟨L, es, ep, t, hS, g⟩ hR
    refine codeAny_builtin F.entry_set_update_loop ?_
    rw [Around.under_plainId F.plain_set_update_loop _]
    show wpAny _ A.in1 (pyNext (.ref I) >>= _) _ _ s
    refine wpAny_bind (W.item i s _ _ (by omega) hst fun v s' hP hst' hm => ?_)
    obtain ⟨p, hp, rfl⟩ := hval i v hP
    have hkp' := kept hm hkp
    have hx : IsT P w s'.heap p.2 p.1 := isT_keep (hk p (List.mem_of_getElem? hp)) hkp'
    show wpAny _ A.in1 (holding [Value.ref p.1] (setAdd S (.ref p.1)) >>= _) _ _ s'
    refine wpAny_bind (wpAny_holding ?_)
    unfold setAdd
    refine wpAny_holding (wpAny_bind (wpAny_pyHash_tuple hu hx ?_))
    have gl := g.len
    have hS1 : SetH P w s'.heap S L es ep t := carry hm hS g hkp'
    refine SetH.add (s := { s' with toks := s'.toks + (p.2.length + 1) }) hS1 hx hu (by omega) fun b h' L' es' ep' t' hsb hS2 c1 c2 => ?_
    have g' : Got ks (i + 1) L' := by
      by_cases c : p.2 ∈ L.map (·.2)
      · rw [c1 c]
        exact g.same hp c
      · exact g.more hp (c2 c)
    have hkp2 : ∀ b o, h0.get? b = some o → h'.get? b = some o := fun b o e => (hsb.2 b fun z => by rw [z, hS0] at e; cases e).trans (hkp' b o e)
    refine wpAny_pure ⟨plainId_quiet F.plain_set_update_loop _, ih (i + 1) _ (by omega) (W.frame _ s' _ _ hst' (Nat.le_add_right _ _) fun b hb o e => ?_) hkp2 ⟨L', es', ep', t', hS2, g'⟩ fun s'' L2 es2 ep2 t2 hm'' hS'' g'' hkp'' => ?_⟩
    · exact (hsb.2 b fun z => hSf (by rw [← z]; exact hb)).trans e
    · refine hR s'' L2 es2 ep2 t2 (Moved.trans W.gtrans ((hm.mono wide).then_heap (Nat.le_add_right _ _) fun b o hb e => ?_) hm'') hS'' g'' hkp''
      exact (hsb.2 b fun z => hb (by rw [z]; exact List.mem_cons_self)).trans e
/-- set(xs), xs a list of tuples of ints -/
theorem set_of_list {l : Addr} {items : Array Value} (ks : List (Addr × List Int)) {Q : Value → Shared → Prop} (hh : A.handled = none) (hl : s.heap.IsList l items) (hit : items.toList = ks.map fun p => Value.ref p.1)
    (hk : ∀ p ∈ ks, IsT P w s.heap p.2 p.1) (hfew : ks.length ≤ 1200) (hu : A.units + 3 < cLine)
    (h : ∀ (h' : Heap) (tk : Nat) L es ep t, SetH P w h' s.heap.objs.size L es ep t → Got ks ks.length L → (∀ b o, s.heap.get? b = some o → h'.get? b = some o) → Q (.ref s.heap.objs.size) { s with heap := h', toks := tk }) :
    wpAny (model P w) A (call (.type "set") [.ref l]) Q E s := by
  have hisz : items.size = ks.length := by
    rw [← Array.length_toList, hit, List.length_map]
  obtain ⟨c, tl, hmro⟩ := F.called_set.mro
  have hmade := F.called_set.made
  have hsub := F.called_set.sub
  have h1 := F.called_set.notType
  have h2 := F.called_set.canCreate
  have hct := F.typeCall_set_1 (.ref l)
  refine wpAny_call (codeAny_of_tree ?_)
  show wpAny _ _ (callAny (.type "set") _) _ _ _
  refine wpAny_pure ⟨Code.quiet_builtin _ (by decide +kernel), codeAny_builtin F.entry_type_call ?_⟩
  rw [Around.under_plain (weight_type_call_type "set" [.ref l] []) rfl]
  repeat (any_goals (first | assumption | wp_step))
  refine codeAny_mono (code_set_led1 (.ref l) (E := E) (Q₁ := fun obj s₁ => obj = .ref s.heap.objs.size ∧ s₁ = { s with heap := s.heap.push (newSetObj w) }) ⟨rfl, rfl⟩) fun r s₁ hr => ?_
  cases r with
  | error e => exact hr
  | ok fl =>
    cases fl with
    | ret obj =>
      obtain ⟨rfl, rfl⟩ := hr
      obtain ⟨hp1, ehp⟩ : ∃ hp1, hp1 = s.heap.push (newSetObj w) := ⟨_, rfl⟩
      rw [← ehp]
      have hS : hp1.get? s.heap.objs.size = some (newSetObj w) := by rw [ehp]; exact Heap.get?_push_size _ rfl
      have zz : hp1.objs.size = s.heap.objs.size + 1 := by rw [ehp]; exact Heap.size_push ..
      have old : ∀ b o, s.heap.get? b = some o → hp1.get? b = some o := fun b o e => by rw [ehp]; exact Heap.get?_push_of_some _ e
      have hT : Shared.TypeIs { s with heap := hp1 } (.ref s.heap.objs.size) "set" := ⟨_, hS, rfl⟩
      have hli := F.called_set.init.lookup
      have hbi := F.called_set.init.bind (.ref s.heap.objs.size)
      repeat (any_goals (first | assumption | wp_step))
      refine codeAny_mono (codeAny_call_builtin (R := wants (fun r s₂ => r = .none ∧ ∃ h' tk L es ep t, s₂ = { s with heap := h', toks := tk } ∧ SetH P w h' s.heap.objs.size L es ep t ∧ Got ks ks.length L ∧
          (∀ b o, s.heap.get? b = some o → h'.get? b = some o)) E) F.called_set.init.plain F.entry_set_init (check_set_init_1 hT ?_)) fun r₂ s₂ hr₂ => ?_
      · obtain ⟨⟨ocls, odict, odata, oslots⟩, hol, hcl, nl, hdl⟩ := hl
        simp only at hcl hdl
        subst hcl hdl
        have hol' := old l _ hol
        have hsls := F.sub_list_set
        have hslf := F.sub_list_frozenset
        have hne : (Value.type "list" == Value.type "dict") = false := by decide
        unfold Builtin.«set.__init__» noKeywords Builtin.Frozenset.updateFrom
        generalize hPI : pyIter = PI
        wp_walk
        subst hPI
        refine wpAny_pyIter_list ⟨_, hol', rfl, nl, rfl⟩ (wpAny_bind (wpAny_runValue ?_))
        have hlS : l < s.heap.objs.size := Heap.lt_size hol
        have nothing : ∀ b, s.heap.objs.size ≤ b → s.heap.get? b = none := fun b hb => Heap.get?_none_of_le hb
        refine update_loop ((Walks.list (show A.in1.in1.in1.handled = none by simp [hh]) hp1.objs.size l (by rw [zz]; exact Nat.ne_of_lt (Nat.lt_succ_of_lt hlS)) items).toS) s.heap.objs.size
          ?_ ks hisz hfew (fun i v hv => ?_) s.heap hk (nothing _ (Nat.le_refl _)) (fun b hb => nothing b ?_) hu items.size 0 _ (Nat.zero_add _)
          ⟨⟨_, Heap.get?_push_size _ rfl, rfl, rfl⟩, Heap.IsList.push ⟨_, hol', rfl, nl, rfl⟩ _⟩ (fun b o e => Heap.get?_push_of_some _ (old b o e)) ⟨[], #[], 0, _, setH_new (Heap.get?_push_of_some _ hS), Got.zero ks⟩ ?_
        · rw [zz]
          simp only [List.mem_cons, List.mem_singleton, List.not_mem_nil, or_false, not_or]
          exact ⟨Nat.ne_of_lt (Nat.lt_succ_self _), Nat.ne_of_gt hlS⟩
        · have q : items.toList[i]? = some v := by rw [Array.getElem?_toList]; exact hv
          rw [hit, List.getElem?_map] at q
          obtain ⟨p, hp, e⟩ := Option.map_eq_some_iff.mp q
          exact ⟨p, hp, e.symm⟩
        · rw [List.mem_singleton.mp hb, zz]
          exact Nat.le_succ _
        · intro s' L es ep t hm hS' g' hkp
          obtain ⟨h', g2, d', tk', os'⟩ := s'
          obtain rfl : g2 = s.gens := hm.gens
          obtain rfl : d' = s.drawn := hm.drawn
          obtain rfl : os' = s.os := hm.os
          rw [hisz] at g'
          exact wpAny_pure (wpAny_pure ⟨rfl, h', tk', L, es, ep, t, rfl, hS', g', hkp⟩)
      · cases r₂ with
        | error e => exact hr₂
        | ok fl₂ =>
          cases fl₂ with
          | ret r =>
            obtain ⟨rfl, h', tk, L, es, ep, t, rfl, hS', g', hk'⟩ := hr₂
            repeat (any_goals (first | assumption | wp_step))
            exact h _ _ _ _ _ _ hS' g' hk'
          | _ => exact hr₂.elim
    | _ => exact hr.elim

/-! ### sorted(set) -/
/-- the pair that stands at a value, by the rows -/
def keyIn (L : List (Addr × List Int)) (v : Value) : Int × Int := match v with
  | .ref b => (match L.find? (fun p : Addr × List Int => decide (p.1 = b)) with
    | some p => (p.2.getD 0 0, p.2.getD 1 0)
    | none => (0, 0))
  | _ => (0, 0)
theorem keyIn_of (one : ∀ q ∈ L, ∀ r ∈ L, q.1 = r.1 → q = r) {q : Addr × List Int} (hq : q ∈ L) : keyIn L (.ref q.1) = (q.2.getD 0 0, q.2.getD 1 0) := by
  unfold keyIn
  cases f : L.find? (fun p : Addr × List Int => decide (p.1 = q.1)) with
  | none => exact absurd (decide_eq_true rfl) (List.find?_eq_none.mp f q hq)
  | some r =>
    have h1 := of_decide_eq_true (List.find?_some (p := fun p : Addr × List Int => decide (p.1 = q.1)) f)
    have e := one r (List.mem_of_find?_eq_some f) q hq h1
    simp only [f, e]
theorem isPair_of {h : Heap} {k : List Int} {b : Addr} (x : IsT P w h k b) (h2 : k.length = 2) : Srt.IsPair h (.ref b) (k.getD 0 0) (k.getD 1 0) := by
  obtain ⟨o, items, n, ho, hc, hd, hi⟩ := x
  obtain ⟨x, y, rfl⟩ : ∃ x y, k = [x, y] := by
    match k, h2 with
    | [x, y], _ => exact ⟨x, y, rfl⟩
  have q := ints_of_items hi
  obtain ⟨u1, u2, e⟩ : ∃ u1 u2, items.toList = [.int x u1, .int y u2] := by
    generalize items.toList = us at q
    cases q with
    | cons _ t1 q2 =>
      cases q2 with
      | cons _ t2 q3 =>
        cases q3
        exact ⟨t1, t2, rfl⟩
  refine ⟨b, o, u1, u2, n, rfl, ho, hc, hd.trans (congrArg (Data.seq · n) ?_)⟩
  rw [← Array.toArray_toList (xs := items), e]
  rfl
theorem sorted_set (R : SetH P w s.heap a L es ep t) (hh : A.handled = none) (h2 : ∀ p ∈ L, p.2.length = 2) {Q : Value → Shared → Prop}
    (hQ : ∀ s' p (out : List Value) (c : Nat) (L' : List (Addr × List Int)), (∀ b o, s.heap.get? b = some o → s'.heap.get? b = some o) → s'.gens = s.gens → s'.os = s.os → s.heap.objs.size ≤ p →
      s'.heap.get? p = some (seqObj "list" out.toArray c) → out = L'.map (fun q => Value.ref q.1) → L'.Perm L → L'.Pairwise (fun q r => SrtO.lexB (r.2.getD 0 0, r.2.getD 1 0) (q.2.getD 0 0, q.2.getD 1 0) = false) → Q (.ref p) s') :
    wpAny (model P w) A (call (.builtin "sorted") [.ref a]) Q E s := by
  obtain ⟨o, ho, hex, hd⟩ := R.ob
  have hsz := size_rows R.rows
  have hfew := R.few
  refine Calls.call_function_entry kind_sorted plain_sorted entry_sorted (args_sorted1 _) ?_
  unfold Builtin.«sorted»
  refine wpAny_bind (m := checkCount "sorted" 1 1 _) (wpAny_pure ?_)
  refine wpAny_bind (collect_set (A := A.in1) hh ⟨o, ho, hex.1, hd⟩ R.fits (by rw [hsz]; unfold scanBound; omega) R.tab.ris R.led fun s1 vs k1 hz g1 o1 pm => ?_)
  have hes : es.toList.map (·.2) = L.map fun q => Value.ref q.1 := by
    rw [R.rows]
    unfold rowsOf
    rw [List.map_map]
    rfl
  rw [hes] at pm
  have one : ∀ q ∈ L, ∀ r ∈ L, q.1 = r.1 → q = r := fun q hq r hr e => by
    have a1 := R.tup q hq
    rw [e] at a1
    exact Prod.ext e (a1.inj (R.tup r hr))
  have rows : ∀ vs : List Value, (∀ v ∈ vs, ∃ q ∈ L, v = Value.ref q.1) → ∃ L1 : List (Addr × List Int), vs = L1.map (fun q => Value.ref q.1) ∧ ∀ q ∈ L1, q ∈ L := by
    intro vs
    induction vs with
    | nil => intro _; exact ⟨[], rfl, fun q hq => (nomatch hq)⟩
    | cons v vs ih =>
      intro hv
      obtain ⟨q, hq, e⟩ := hv v List.mem_cons_self
      obtain ⟨L1, e1, hs⟩ := ih fun u hu => hv u (List.mem_cons_of_mem _ hu)
      refine ⟨q :: L1, by rw [List.map_cons, e, e1], fun r hr => ?_⟩
      rcases List.mem_cons.mp hr with z | z
      · exact z ▸ hq
      · exact hs r z
  have nL : L.Nodup := nodup_of_map R.nd
  have perm_of : ∀ L1 : List (Addr × List Int), (∀ q ∈ L1, q ∈ L) → (L1.map (fun q => Value.ref q.1)).Perm (L.map fun q => Value.ref q.1) → L1.Perm L := by
    intro L1 hs pm1
    have nref : (L.map fun q => Value.ref q.1).Nodup := List.pairwise_map.mpr (List.Pairwise.imp_of_mem (fun {q r} hq hr hne e => hne (one q hq r hr (Value.ref.inj e))) nL)
    refine (List.perm_ext_iff_of_nodup (nodup_of_map (pm1.nodup_iff.mpr nref)) nL).mpr fun q => ⟨hs q, fun hq => ?_⟩
    obtain ⟨r, hr, e⟩ := List.mem_map.mp (pm1.mem_iff.mpr (List.mem_map.mpr ⟨q, hq, rfl⟩))
    rw [← one r (hs r hr) q hq (Value.ref.inj e)]
    exact hr
  have hvl : vs.length = L.length := by rw [pm.length_eq, List.length_map]
  have hzl : vs.length ≤ sizeLine := by rw [sizeLine_eq]; omega
  refine wpAny_bind (wpAny_newList ?_ hzl)
  have hoL : (s1.heap.push (seqObj "list" vs.toArray 0)).get? s1.heap.objs.size = some (seqObj "list" vs.toArray 0) := Heap.get?_push_size _ rfl
  have pairs : ∀ v ∈ vs, Srt.IsPair (s1.heap.push (seqObj "list" vs.toArray 0)) v (keyIn L v).1 (keyIn L v).2 := fun v hv => by
    obtain ⟨q, hq, e⟩ := List.mem_map.mp (pm.mem_iff.mp hv)
    rw [← e, keyIn_of one hq]
    exact isPair_of (P := P) (w := w) (isT_keep (R.tup q hq) fun b u e => Heap.get?_push_of_some _ (k1 b u e)) (h2 q hq)
  refine wpAny_bind (wpAny_holding (wpAny_call_entry slot_list_sort ⟨_, hoL, rfl⟩ entry_list_sort (SrtO.list_sort_ord (s := { s1 with heap := s1.heap.push (seqObj "list" vs.toArray 0) }) (SrtO.swo_lex (keyIn L)) hoL hzl (fun g2 => SrtO.pairs_sortableO (s := { s1 with heap := s1.heap.push (seqObj "list" vs.toArray 0) }) (by omega) pairs fun o e => ?_) fun out hs hb => ⟨_, rfl, ?_⟩) (args_list_sort _)))
  · obtain rfl : seqObj "list" vs.toArray 0 = o := Option.some.inj (hoL.symm.trans e)
    exact fun c => absurd (Value.type.inj c) (by decide)
  obtain ⟨c, hc⟩ := sortedHeap_at (vs := vs) (out := out.toArray) hoL
  obtain ⟨L', e', hs'⟩ := rows out fun v hv => by
    obtain ⟨q, hq, e⟩ := List.mem_map.mp (pm.mem_iff.mp (hb.perm.mem_iff.mp hv))
    exact ⟨q, hq, e.symm⟩
  have pL : L'.Perm L := perm_of L' hs' (by rw [← e']; exact hb.perm.trans pm)
  refine wpAny_pure ⟨_, rfl, hQ _ s1.heap.objs.size out c L' (fun b u e => ?_) g1 o1 hz hc e' pL ?_⟩
  · have q := k1 b u e
    have hlt := Heap.lt_size q
    show (sortedHeap (s1.heap.push (seqObj "list" vs.toArray 0)) s1.heap.objs.size vs out.toArray).get? b = some u
    rw [sortedHeap_old (Nat.ne_of_lt hlt) (by rw [size_push']; exact Nat.lt_succ_of_lt hlt)]
    exact Heap.get?_push_of_some _ q
  · have hs2 : out.Pairwise (fun v u => SrtO.lexB (keyIn L u) (keyIn L v) = false) := hs
    rw [e'] at hs2
    refine List.Pairwise.imp_of_mem (fun {q r} hq hr hle => ?_) (List.pairwise_map.mp hs2)
    rw [keyIn_of one (hs' q hq), keyIn_of one (hs' r hr)] at hle
    exact hle
end
end TPs

/-! Set comprehensions of pixels, dict comprehensions with pixels as keys: one proof for both, by what a turn puts in. -/
namespace TPs
open PySem PySem.Spec PyProof.Rows L2
abbrev Px := Int × Int
/-- the tuple's items -/
abbrev tv (z : Px) : List V := [.int z.1, .int z.2]
abbrev tz (z : Px) : List Int := [z.1, z.2]
theorem tv_map (z : Px) : (tz z).map V.int = tv z := rfl

/-! ### the set as a tracked thing -/
abbrev rowsZ (L : List (Addr × Px)) : List (Addr × List Int) := L.map fun p => (p.1, tz p.2)
/-- the set at a, the tuples left out -/
structure SetZ (P : Program) (w : World) (h : Heap) (a : Addr) (L : List (Addr × Px)) : Prop where
  ex : ∃ (es : Array (Int × Value)) (ep : Nat) (t : SetTable), (∃ o, h.get? a = some o ∧ o.ExactSet ∧ o.data = .set es ep t) ∧ es.toList = rowsOf P w (rowsZ L) ∧ Tbl t ((rowsZ L).map fun p => thash P w p.2) ∧ ((rowsZ L).map (·.2)).Nodup ∧ t.plain = true ∧
    (w.params.followText "set-order" = true ∨ t.led = true) ∧ L.length * 5 < t.mask * 3 ∧ L.length ≤ 1200
def PSet (P : Program) (w : World) (a : Addr) (L : List (Addr × Px)) : HO := .ext fun h => SetZ P w h a L
section
variable {P : Program} {w : World} {H : Hp} {h : Heap} {a : Addr} {L : List (Addr × Px)} {es : Array (Int × Value)} {ep : Nat} {t : SetTable}
theorem SetH.z (R : SetH P w h a (rowsZ L) es ep t) : SetZ P w h a L :=
  ⟨es, ep, t, R.ob, R.rows, R.tab, R.nd, R.plain, R.led, by have := R.room; rwa [List.length_map] at this, by have := R.few; rwa [List.length_map] at this⟩
theorem SetZ.full (R : SetZ P w h a L) (ht : ∀ p ∈ L, IsT P w h (tz p.2) p.1) : ∃ es ep t, SetH P w h a (rowsZ L) es ep t := by
  obtain ⟨es, ep, t, h1, h2, h3, h4, h5, h6, h7, h8⟩ := R.ex
  refine ⟨es, ep, t, h1, h2, h3, h4, fun p hp => ?_, h5, h6, by rw [List.length_map]; exact h7, by rw [List.length_map]; exact h8⟩
  obtain ⟨q, hq, rfl⟩ := List.mem_map.mp hp
  exact ht q hq
theorem pset_ok (R : SetZ P w h a L) : ObjOk P w H h a (PSet P w a L) := by
  refine ⟨R, ?_, fun h1 h2 p k => ?_⟩
  · obtain ⟨_, _, _, ⟨o, ho, _⟩, _⟩ := R.ex
    exact ⟨o, ho⟩
  · obtain ⟨es, ep, t, ⟨o, ho, r⟩, q⟩ := SetZ.ex p
    exact ⟨es, ep, t, ⟨o, k o ho, r⟩, q⟩
/-- rows of pairs come from pixels -/
theorem rows_back {M : List (Addr × List Int)} : (∀ p ∈ M, p.2.length = 2) → ∃ L : List (Addr × Px), M = rowsZ L := by
  induction M with
  | nil => intro _; exact ⟨[], rfl⟩
  | cons p M ih =>
    intro h
    obtain ⟨L, e⟩ := ih fun q hq => h q (List.mem_cons_of_mem _ hq)
    obtain ⟨b, k⟩ := p
    match k, h (b, k) List.mem_cons_self with
    | [x, y], _ => exact ⟨(b, (x, y)) :: L, by rw [e]; rfl⟩
theorem tz_inj {z z' : Px} (h : tz z = tz z') : z = z' := by
  injection h with h1 h2
  injection h2 with h3 _
  exact Prod.ext h1 h3
theorem rowsZ_inj : ∀ {L L' : List (Addr × Px)}, rowsZ L = rowsZ L' → L = L'
  | [], [], _ => rfl
  | [], _ :: _, h => nomatch h
  | _ :: _, [], h => nomatch h
  | p :: L, q :: L', h => by
    injection h with h1 h2
    rw [rowsZ_inj h2]
    injection h1 with h3 h4
    rw [Prod.ext (x := p) (y := q) h3 (tz_inj h4)]
theorem mem_rowsZ {z : Px} : tz z ∈ (rowsZ L).map (·.2) ↔ z ∈ L.map (·.2) := by
  rw [List.map_map]
  constructor
  · intro h
    obtain ⟨p, hp, e⟩ := List.mem_map.mp h
    exact List.mem_map.mpr ⟨p, hp, tz_inj e⟩
  · intro h
    obtain ⟨p, hp, e⟩ := List.mem_map.mp h
    exact List.mem_map.mpr ⟨p, hp, congrArg tz e⟩
theorem nodup_rowsZ (h : ((rowsZ L).map (·.2)).Nodup) : (L.map (·.2)).Nodup := by
  rw [List.map_map] at h
  exact nodup_of_map (f := tz) (by rw [List.map_map]; exact h)
theorem perm_rowsZ {L M : List (Addr × Px)} (h : (rowsZ L).Perm (rowsZ M)) : L.Perm M := by
  have inj : ∀ {p q : Addr × Px}, (p.1, tz p.2) = (q.1, tz q.2) → p = q := fun e => by
    injection e with e1 e2
    exact Prod.ext e1 (tz_inj e2)
  induction L generalizing M with
  | nil =>
    have : rowsZ M = [] := List.Perm.eq_nil h.symm
    cases M with
    | nil => exact .nil
    | cons _ _ => cases this
  | cons p L ih =>
    have hm : (p.1, tz p.2) ∈ rowsZ M := h.mem_iff.mp List.mem_cons_self
    obtain ⟨q, hq, e⟩ := List.mem_map.mp hm
    have e := inj e
    subst e
    obtain ⟨A, B, rfl⟩ := List.append_of_mem hq
    have h2 : (rowsZ (A ++ B)).Perm (rowsZ L) := by
      have h3 : (rowsZ (q :: L)).Perm ((q.1, tz q.2) :: rowsZ (A ++ B)) := by
        refine h.trans ?_
        show (List.map _ (A ++ q :: B)).Perm ((q.1, tz q.2) :: List.map _ (A ++ B))
        rw [List.map_append, List.map_append]
        exact List.perm_middle
      exact (List.Perm.cons_inv h3).symm
    exact ((ih h2.symm).cons q).trans List.perm_middle.symm
end

section
variable {X : Cx} {pins : List (Addr × Obj)} {σ : L2.St} {H : Hp} {s : Shared}
theorem isT_of (I : Inv X pins σ H s) {b : Addr} {z : Px} (h : H b = some (.tup (tv z))) : IsT X.prog X.w s.heap (tz z) b := Inv.isT I (k := tz z) (.of h)
/-- what adding z at b makes of the rows -/
def Added (L : List (Addr × Px)) (b : Addr) (z : Px) (L' : List (Addr × Px)) : Prop := (z ∈ L.map (·.2) → L' = L) ∧ (z ∉ L.map (·.2) → L'.Perm ((b, z) :: L))
theorem added_of {L : List (Addr × Px)} {M : List (Addr × List Int)} {b : Addr} {z : Px} (c1 : tz z ∈ (rowsZ L).map (·.2) → M = rowsZ L) (c2 : tz z ∉ (rowsZ L).map (·.2) → M.Perm ((b, tz z) :: rowsZ L)) : ∃ L', M = rowsZ L' ∧ Added L b z L' := by
  by_cases c : tz z ∈ (rowsZ L).map (·.2)
  · exact ⟨L, c1 c, fun _ => rfl, fun g => absurd (mem_rowsZ.mp c) g⟩
  · have pm := c2 c
    obtain ⟨L', rfl⟩ := rows_back (M := M) fun p hp => by
      rcases List.mem_cons.mp (pm.mem_iff.mp hp) with e | e
      · rw [e]; rfl
      · obtain ⟨q, _, rfl⟩ := List.mem_map.mp e
        rfl
    exact ⟨L', rfl, fun g => absurd (mem_rowsZ.mpr g) c, fun _ => perm_rowsZ (M := (b, z) :: L) pm⟩
/-- d.add(z) -/
theorem add_px {E : Value → Shared → Prop} {D b : Addr} {L : List (Addr × Px)} {z : Px} {Q : Value → Shared → Prop} (hu : X.A.units + 1 < cLine) (I : Inv X pins σ H s) (hD : H D = some (PSet X.prog X.w D L)) (ht : ∀ p ∈ L, H p.1 = some (.tup (tv p.2))) (hb : H b = some (.tup (tv z))) (few : L.length + 1 ≤ 1200)
    (h : ∀ s' L', Added L b z L' → (L'.map (·.2)).Nodup → Inv X pins σ (upd H D (PSet X.prog X.w D L')) s' → Q .none s') : wpAny (model X.prog X.w) X.A (call (.builtin "set.add") [.ref D, .ref b]) Q E s := by
  have R0 : SetZ X.prog X.w s.heap D L := (I.hok D _ hD).1
  obtain ⟨es, ep, t, R⟩ := R0.full fun p hp => isT_of I (ht p hp)
  have hx := isT_of I hb
  obtain ⟨o, ho, hex, hd⟩ := R.ob
  refine wpAny_call_entry F.slot_set_add ⟨o, ho, hex.1⟩ F.entry_set_add ?_ (F.args_set_add_2 _ _)
  unfold Builtin.«set.add» Builtin.Frozenset.oneOther
  simp only [List.isEmpty_nil, bind_assoc]
  unfold Builtin.Frozenset.addrOf setAdd
  refine wpAny_bind (wpAny_pure ?_)
  try dsimp only
  refine wpAny_bind (wpAny_pure ?_)
  try dsimp only
  refine wpAny_bind (wpAny_holding (wpAny_bind (wpAny_pyHash_tuple (show X.A.in1.units < cLine from hu) hx ?_)))
  refine SetH.add (s := { s with toks := s.toks + ((tz z).length + 1) }) R hx (show X.A.in1.units < cLine from hu) (by rw [List.length_map]; exact few) fun b' h' M es' ep' t' hsb hS c1 c2 => ?_
  obtain ⟨L', rfl, ad⟩ := added_of c1 c2
  refine wpAny_pure ⟨_, rfl, h _ L' ad (nodup_rowsZ hS.nd) ?_⟩
  have he : ∃ u, h'.get? D = some u := let ⟨o, ho, _⟩ := hS.ob; ⟨o, ho⟩
  exact I.write (e := D) (t' := s.toks + ((tz z).length + 1)) (by rw [hD]; trivial) (.inl rfl) (fun c u hc hu => (hsb.2 c hc).trans hu) he (pset_ok hS.z)
/-- set(xs), xs a list of pixels -/
def rSetP (K : PySem.W.Frag) (P : Program) (w : World) : List V → Hp → VK → Prop := fun xs H Q => ∃ (l : Addr) (ks : List (Addr × Px)), xs = [V.ref l] ∧ SqL K H l (ks.map fun p => V.ref p.1) ∧ (∀ p ∈ ks, H p.1 = some (.tup (tv p.2))) ∧ ks.length ≤ 1200 ∧
  ∀ a L, H a = none → (∀ p ∈ L, p ∈ ks) → (∀ p ∈ ks, p.2 ∈ L.map (·.2)) → Q (.ref a) (upd H a (PSet P w a L))
theorem cr_setP (hc : X.calm = true) (hu : X.A.units + 64 < cLine) : CallR X (.type "set") (rSetP X.K X.prog X.w) := by
  intro pins s σ H xs us Q I r h
  obtain ⟨l, ks, rfl, hl, hk, hf, q⟩ := h
  rw [Vals.ref1 r]
  obtain ⟨its, rv, pl, hz⟩ := I.list hl
  have hn : H s.heap.objs.size = none := I.hok.fresh (Nat.le_refl _)
  have rv2 : Vals ((rowsZ ks).map fun p => V.ref p.1) its := by rw [List.map_map]; exact rv
  refine set_of_list (P := X.prog) (w := X.w) (rowsZ ks) (I.ok.hd hc) pl.isList (by simpa using refs_of_vals rv2) (fun p hp => ?_) (by rw [List.length_map]; exact hf) (by omega) fun h' tk M es ep t R g k => ?_
  · obtain ⟨q, hq, rfl⟩ := List.mem_map.mp hp
    exact isT_of I (hk q hq)
  · obtain ⟨L, rfl⟩ := rows_back (M := M) fun p hp => by
      obtain ⟨q, _, rfl⟩ := List.mem_map.mp (List.mem_of_mem_take (g.sub p hp))
      rfl
    refine ⟨.ref s.heap.objs.size, upd H s.heap.objs.size (PSet X.prog X.w s.heap.objs.size L), I.laid (t' := tk) k (Nat.le_refl _) (pset_ok R.z), rfl, q _ L hn (fun p hp => ?_) fun p hp => ?_⟩
    · obtain ⟨q, hq, e⟩ := List.mem_map.mp (List.mem_of_mem_take (g.sub _ (List.mem_map.mpr ⟨p, hp, rfl⟩)))
      injection e with e1 e2
      rw [← Prod.ext (x := q) (y := p) e1 (tz_inj e2)]
      exact hq
    · refine mem_rowsZ.mp (g.all (p.1, tz p.2) ?_)
      rw [List.take_length]
      exact List.mem_map.mpr ⟨p, hp, rfl⟩
/-- x before y, as tuples -/
def ltz (z w : Px) : Prop := z.1 < w.1 ∨ z.1 = w.1 ∧ z.2 < w.2
/-- sorted(set) -/
def rSortP (P : Program) (w : World) : List V → Hp → VK → Prop := fun vs H Q => ∃ (a : Addr) (L : List (Addr × Px)), vs = [V.ref a] ∧ H a = some (PSet P w a L) ∧ (∀ p ∈ L, H p.1 = some (.tup (tv p.2))) ∧
  ∀ (L' : List (Addr × Px)) (p : Addr), L'.Perm L → (L'.map (·.2)).Pairwise ltz → H p = none → Q (.ref p) (upd H p (.lst (L'.map fun q => V.ref q.1)))
theorem cr_sortP (hc : X.calm = true) : CallR X (.builtin "sorted") (rSortP X.prog X.w) := by
  intro pins s σ H vs us Q I r h
  obtain ⟨a, L, rfl, ha, hk, q⟩ := h
  have R0 : SetZ X.prog X.w s.heap a L := (I.hok a _ ha).1
  obtain ⟨es, ep, t, R⟩ := R0.full fun p hp => isT_of I (hk p hp)
  rw [Vals.ref1 r]
  refine sorted_set R (I.ok.hd hc) (fun p hp => by obtain ⟨q, _, rfl⟩ := List.mem_map.mp hp; rfl) fun s' p out c M k g o hp hg hout pm pw => ?_
  obtain ⟨L', rfl⟩ := rows_back (M := M) fun p hp => by
    obtain ⟨q, _, rfl⟩ := List.mem_map.mp (pm.mem_iff.mp hp)
    rfl
  have pmL := perm_rowsZ pm
  have hfew := R.few
  rw [List.length_map] at hfew
  have hlen : (L'.map fun q => V.ref q.1).length ≤ sizeLine := by rw [List.length_map, pmL.length_eq, sizeLine_eq]; omega
  have hn : H p = none := I.hok.fresh hp
  have hv : Vals (L'.map fun q => V.ref q.1) out := by
    have z := vals_of_refs (rowsZ L')
    rw [hout]
    rw [List.map_map] at z
    exact z
  have J : Inv X pins σ (upd H p (.lst (L'.map fun q => V.ref q.1))) s' := by
    refine I.call' (ch := []) o (Un.laid k hp hn) (I.hok.laid k hp ⟨hlen, out, c, hv, hg⟩) (by rw [g]; exact I.bare) (fun _ z => nomatch z)
  refine ⟨.ref p, _, J, rfl, q L' p pmL ?_ hn⟩
  have nd : (L'.map (·.2)).Nodup := (pmL.map (·.2)).nodup_iff.mpr (nodup_rowsZ R.nd)
  have pw2 : L'.Pairwise fun q r => SrtO.lexB r.2 q.2 = false := List.pairwise_map.mp pw
  have both : L'.Pairwise fun q r => SrtO.lexB r.2 q.2 = false ∧ q.2 ≠ r.2 := List.Pairwise.and pw2 (List.pairwise_map.mp nd)
  refine List.pairwise_map.mpr (List.Pairwise.imp (fun {q r} hqr => ?_) both)
  obtain ⟨h1, h2⟩ := hqr
  have h3 := SrtO.lexB_no.mp h1
  have h4 : ¬ (q.2.1 = r.2.1 ∧ q.2.2 = r.2.2) := fun e => h2 (Prod.ext e.1 e.2)
  unfold ltz
  omega
end
end TPs

/-! Set and dict comprehensions over pixels: the block's loop once, for whatever a turn puts into the thing at D. -/
namespace TPs
open PySem PySem.Spec PyProof.Rows L2

/-- what a turn does behind its tests: reading tb; its tree, told by what it wants behind it -/
abbrev TB := L2.St → Hp → (Hp → Prop) → Prop
abbrev Bdy := Addr → Env → (Shared → Prop) → (Value → Shared → Prop) → Shared → Prop
section
variable {X : Cx}
/-- o: what is made first; a turn's reading tb says what stands at D behind it -/
def tCo (o : Addr → HO) (wi : TI) (g : TG) (tt : TT) (tb : Addr → TB) (vs : List Nat) : TE := fun σ H Q => wi σ H fun J H1 => ∀ D, H1 D = none → ∃ W : Nat → Nat → Hp → Prop, (∃ m, W 0 m (upd H1 D (o D))) ∧ ∀ i m H, W i m H →
  (J.stop i H ∧ Q (.ref D) H) ∨ (J.go i H ∧ ∃ Nx : Hp → Prop, (∀ H', Nx H' → ∃ m', m' < m ∧ W (i + 1) m' H') ∧ ∀ x H', J.yld i H x H' → g x (wipe σ vs) H' fun σ2 H2 => wipe σ2 vs = wipe σ vs ∧ tt σ2 H2 fun b H3 =>
    if b = true then tb D σ2 H3 Nx else Nx H3)
/-- the loop of a comprehension node, by its turns -/
def LoopBy (node tg : Expr) (ifs : List Expr) (B : Bdy) (prog : Program) (w : World) (A : Around) : Prop :=
  ∀ (R : Result → Shared → Prop) (s : Shared) (it : Value) (D : Addr) (env : Env) (I : Nat → Shared → Prop),
    (∀ n s, I n s → wpAny (model prog w) A (pyNext it) (fun r s₁ => match r with
      | none => R (.ok .next) s₁
      | some v => wpAny (model prog w) A (letOwnedTupleGo tg it v) (fun _ s₁' => wpAny (model prog w) A (assign tg env v) (fun _ s₂ =>
          wpAny (model prog w) A (forIn ifs true fun c r => if r = true then do let ok ← isTrue c env (eval c env); pure (ForInStep.yield ok) else pure (ForInStep.yield r)) (fun ok s₃ =>
            if ok = true then B D env (fun s₅ => ∃ m, m < n ∧ I m s₅) (notedBy (model prog w) A env fun e s' => R (.error e) s') s₃
            else ∃ m, m < n ∧ I m s₃) (notedBy (model prog w) A env fun e s' => R (.error e) s') s₂) (notedBy (model prog w) A env fun e s' => R (.error e) s') s₁') (notedBy (model prog w) A env fun e s' => R (.error e) s') s₁) (notedBy (model prog w) A env fun e s' => R (.error e) s') s) →
    ∀ (n : Nat), I n s → codeAny (model prog w) A (.compLoop node 0 it (.ref D) env) R s
theorem co_core {pins : List (Addr × Obj)} {s : Shared} {σ : L2.St} {H : Hp} {Q : VK} {node tg iter : Expr} {ifs : List Expr} {scope : Scope} {own : List (Str × Nat)} {pos' : Pos} {wi : TI} {g : TG} {tt : TT} {tb : Addr → TB} {Qf : Value → Shared → Prop}
    {B : Bdy} {o : Addr → HO} {ob : Obj} {mk : Sem Value} {gs : List Comprehension} {gc : Comprehension} (hcl : clausesOf node = gc :: gs) (hgc : gc.iter = iter)
    (hmk : ∀ {Q : Value → Shared → Prop} {s : Shared}, Q (.ref s.heap.objs.size) { s with heap := s.heap.push ob } → wpAny (model X.prog X.w) X.A mk Q X.xe s)
    (hob : ∀ (H : Hp) (h : Heap), sysModules < h.objs.size → ObjOk X.prog X.w H (h.push ob) h.objs.size (o h.objs.size))
    (hloop : LoopBy node tg ifs B X.prog X.w X.A)
    (hstart : ∀ {R : Result → Shared → Prop} {s : Shared} {it acc : Value} {env : Env}, codeAny (model X.prog X.w) X.A (.compLoop node 0 it acc env) R s → wpAny (model X.prog X.w) X.A (pyIter it) (fun it' s' => codeAny (model X.prog X.w) X.A (.compLoop node 0 it' acc env) R s') (notedBy (model X.prog X.w) X.A env fun x s' => R (.error x) s') s →
      codeAny (model X.prog X.w) X.A (.compStart node 0 it acc env) R s)
    (hc : X.calm = true) (hN : X.N.Nodup) (I : Inv X pins σ H s) (hi : PI X tg iter wi) (ok : BlkOk X.N X.env.scope scope own)
    (hg : ∀ (s : Shared) (H : Hp) (C : Addr) (cl : List (Str × Addr)) (fp : List Addr), PG (X.blk s H scope (compEnvC scope cl C X.env) fp) tg g) (ht : ∀ (s : Shared) (H : Hp) (C : Addr) (cl : List (Str × Addr)) (fp : List Addr), PTs (X.blk s H scope (compEnvC scope cl C X.env) fp) ifs tt)
    (hb : ∀ (s : Shared) (H : Hp) (C : Addr) (cl : List (Str × Addr)) (fp : List Addr) (pins : List (Addr × Obj)) (s1 : Shared) (σ1 : L2.St) (H1 : Hp) (D : Addr) (Nx : Hp → Prop) (K : Shared → Prop) (E : Value → Shared → Prop), Inv (X.blk s H scope (compEnvC scope cl C X.env) fp) pins σ1 H1 s1 → tb D σ1 H1 Nx →
      (∀ s2 H2, Inv (X.blk s H scope (compEnvC scope cl C X.env) fp) pins σ1 H2 s2 → Nx H2 → K s2) → B D (compEnvC scope cl C X.env) K E s1)
    (hs : ∀ x, foldedSetIterable iter X.env x = pure x)
    (h : tCo o wi g tt tb (own.map (·.2)) σ H Q)
    (hRR : ∀ D C s' m H', Inv X pins σ H' s' → Q (.ref D) H' → s'.heap.Ns C m → FpOk X pins H' C → compPost (model X.prog X.w) X.A X.xe none Qf (.ref D) C (.ok .next) s') :
    wpAny (model X.prog X.w) X.A (comprehension node scope X.env pos' mk false (eval iter X.env) none) Qf X.xe s := by
  have hfree : ∀ y ∈ scope.names, y.2 = .free → ∃ c, X.env.cells.lookup y.1 = some c := fun y hy e =>
    (ok.free y hy e).elim (fun k => I.ok.has _ (.inl k)) fun k => I.ok.has _ (.inr k)
  refine wpAny_comprehension_free hcl (by rw [hgc]; exact hs) (closure_ok hfree) ok.kind (fun y hy e => by rw [ok.uniq y hy, e]) (thn (hi.run pins s σ H _ I h) fun xv s1 hx => thn hx fun itv s2 h2 => ?_)
  obtain ⟨it, fp, tn, J, H2, rfl, I2, T, st2, f2, q⟩ := h2
  refine hmk (newEnv_comp ?_)
  obtain ⟨D, hD⟩ : ∃ D, D = s2.heap.objs.size := ⟨_, rfl⟩
  rw [← hD]
  have hDn : H2 D = none := I2.hok.fresh (Nat.le_of_eq hD.symm)
  obtain ⟨W, ⟨m0, w0⟩, turn⟩ := q D hDn
  obtain ⟨H3, hH3⟩ : ∃ H3, H3 = upd H2 D (o D) := ⟨_, rfl⟩
  obtain ⟨s3, hs3⟩ : ∃ s3 : Shared, s3 = { s2 with heap := s2.heap.push ob } := ⟨_, rfl⟩
  rw [← hH3] at w0
  have old3 : ∀ b u, s2.heap.get? b = some u → s3.heap.get? b = some u := fun b u e => by rw [hs3]; exact Heap.get?_push_of_some _ e
  have I3 : Inv X pins σ H3 s3 := by
    rw [hs3, hH3]
    refine I2.laid (t' := s2.toks) (fun b o e => Heap.get?_push_of_some _ e) (Nat.le_of_eq hD.symm) ?_
    rw [hD]
    exact hob _ _ I2.big
  have sz3 : s3.heap.objs.size = s2.heap.objs.size + 1 := by rw [hs3]; exact Heap.size_push ..
  have f3 : ∀ b ∈ fp, FpOk X pins H3 b ∧ b < s3.heap.objs.size := fun b hb => by
    obtain ⟨u, e, _⟩ := T.obj _ _ st2 b hb
    have lt := Heap.lt_size e
    refine ⟨⟨?_, (f2 b hb).2⟩, by rw [sz3]; exact Nat.lt_succ_of_lt lt⟩
    rw [hH3, upd_ne (by rw [hD]; exact Nat.ne_of_lt lt)]
    exact (f2 b hb).1
  have n3 : ∀ b ∈ fp, H3 b = none := fun b hb => (f3 b hb).1.1
  have st3 : tn 0 s3.heap := T.keep _ _ _ st2 fun b _ u e => old3 b u e
  have I4 := block_start I3 ok hN f3
  have pg := hg s3 H3 s3.heap.objs.size (cellsFrom (s3.heap.objs.size + 1) scope.names (cloFrom X.env.cells scope.names [])) fp
  have pt := ht s3 H3 s3.heap.objs.size (cellsFrom (s3.heap.objs.size + 1) scope.names (cloFrom X.env.cells scope.names [])) fp
  have pb := hb s3 H3 s3.heap.objs.size (cellsFrom (s3.heap.objs.size + 1) scope.names (cloFrom X.env.cells scope.names [])) fp
  show codeAny _ _ (.compStart node 0 (.ref it) (.ref D) (compEnvC scope (cellsFrom ((s2.heap.push ob).objs.size + 1) scope.names (cloFrom X.env.cells scope.names [])) (s2.heap.push ob).objs.size X.env)) (compPost (model X.prog X.w) X.A X.xe none Qf (.ref D) (s2.heap.push ob).objs.size) { s2 with heap := pushCells ((s2.heap.push ob).push { cls := .type "dict", data := .dict #[] }) scope.names }
  have eh : s2.heap.push ob = s3.heap := by rw [hs3]
  rw [eh]
  have es : ({ s2 with heap := pushCells (s3.heap.push { cls := .type "dict", data := .dict #[] }) scope.names } : Shared) = { s3 with heap := pushCells (s3.heap.push { cls := .type "dict", data := .dict #[] }) scope.names } := by rw [hs3]
  rw [es]
  generalize hce : compEnvC scope (cellsFrom (s3.heap.objs.size + 1) scope.names (cloFrom X.env.cells scope.names [])) s3.heap.objs.size X.env = ce at I4 pg pt pb ⊢
  have cL : ce.locals = s3.heap.objs.size := by subst hce; rfl
  generalize hs4 : ({ s3 with heap := pushCells (s3.heap.push { cls := .type "dict", data := .dict #[] }) scope.names } : Shared) = s4 at I4 ⊢
  have st4 : tn 0 s4.heap := T.keep _ _ _ st3 fun b _ u e => by rw [← hs4]; exact pushCells_keeps _ _ _ _ (Heap.get?_push_of_some _ e)
  have stat : ∀ {σ' : L2.St} {H' : Hp} {s' : Shared}, Inv (X.blk s3 H3 scope ce fp) [] σ' H' s' → (∀ b ∈ fp, H' b = none) → ∀ b ∈ fp, FpOk (X.blk s3 H3 scope ce fp) [] H' b := fun I' hn b hb =>
    ⟨hn b hb, (I'.ok.exf b hb).1, I'.ok.exfs b hb, .inl hb, fun x c e => (I'.ok.exf b hb).2 x c e, fun p hp => absurd (show p ∈ ([] : List (Addr × Obj)) ++ [] from hp) (by simp)⟩
  have loop : codeAny (model X.prog X.w) X.A (.compLoop node 0 (.ref it) (.ref D) ce) (compPost (model X.prog X.w) X.A X.xe none Qf (.ref D) s3.heap.objs.size) s4 := by
    refine hloop _ s4 (.ref it) D ce (fun n s' => ∃ i H', Inv (X.blk s3 H3 scope ce fp) [] (wipe σ (own.map (·.2))) H' s' ∧ tn i s'.heap ∧ (∀ b ∈ fp, H' b = none) ∧ W i n H') ?_ m0 ⟨0, H3, I4, st4, n3, w0⟩
    rintro n s5 ⟨i, H5, I5, st5, n5, w5⟩
    rcases turn i n H5 w5 with ⟨stop, qq⟩ | ⟨go, Nx, hNx, step⟩
    · refine thnF (T.done (X.blk s3 H3 scope ce fp) rfl rfl rfl hc i [] s5 _ H5 (fun _ _ => False) I5 (stat I5 n5) st5 stop) fun r s6 ⟨hr, I6⟩ => ?_
      subst hr
      have I7 : Inv X pins σ H5 s6 := I3.call' (ch := fp) I6.os I6.base I6.hok I6.bare fun b hb => ⟨(f3 b hb).1.2.2.2.1, (f3 b hb).1.2.1, (f3 b hb).1.2.2.2.2.1, (f3 b hb).1.2.2.2.2.2⟩
      have nC : H5 s3.heap.objs.size = none := by rw [← cL]; exact I6.free
      obtain ⟨m, hn, _⟩ := I6.loc
      exact hRR D s3.heap.objs.size s6 m H5 I7 qq (by rw [← cL]; exact hn) (I3.fpOk (Nat.le_refl _) nC)
    · refine thnF (T.item (X.blk s3 H3 scope ce fp) rfl rfl rfl hc i [] s5 _ H5 (fun _ _ => False) I5 (stat I5 n5) st5 go) fun r s6 ⟨u, hr, h6⟩ => ?_
      subst hr
      refine thnF h6 fun _ s7 ⟨x, H7, I7, r7, y7, st7, n7⟩ => ?_
      have I7' := I7.pinned (stat I7 n7) (T.obj _ _ st7)
      refine thnF (pg.run _ s7 _ H7 x u _ I7' r7 (step x H7 y7)) fun _ s8 ⟨σ8, H8, I8, hw8, q8⟩ => ?_
      refine thnF (pt.run _ s8 σ8 H8 _ I8 q8) fun b s9 ⟨H9, I9, q9⟩ => ?_
      have again : ∀ {s' : Shared} {H' : Hp}, Inv (X.blk s3 H3 scope ce fp) ([] ++ pinsAt fp s7.heap) σ8 H' s' → Nx H' → ∃ m, m < n ∧ ∃ i H', Inv (X.blk s3 H3 scope ce fp) [] (wipe σ (own.map (·.2))) H' s' ∧ tn i s'.heap ∧ (∀ b ∈ fp, H' b = none) ∧ W i m H' := fun {s' H'} I' nx => by
        obtain ⟨m', hm, w'⟩ := hNx H' nx
        have pin : ∀ b ∈ fp, ∀ u, s7.heap.get? b = some u → s'.heap.get? b = some u ∧ H' b = none := fun b hb u e =>
          let z := I'.pin (b, u) (List.mem_append_right _ (List.mem_append_right _ (mem_pinsAt hb e)))
          ⟨z.1, z.2.1⟩
        refine ⟨m', hm, i + 1, H', (I'.unpinned (pins := [])).weak (by rw [← hw8, wipe_length]) (fun j v e => ?_), T.keep _ _ _ st7 fun b hb u e => (pin b hb u e).1, fun b hb => ?_, w'⟩
        · rw [← hw8] at e
          exact (wipe_some e).1
        · obtain ⟨u, e, _⟩ := T.obj _ _ st7 b hb
          exact (pin b hb u e).2
      cases b with
      | false => exact again I9 q9
      | true => exact pb _ s9 σ8 H9 D Nx _ _ I9 q9 fun s2 H2 I' nx => again I' nx
  exact hstart loop (T.self X.A 0 _ _ _ st4 loop)

/-! ### a set of pixels -/
def bSet (elt : Expr) (prog : Program) (w : World) (A : Around) : Bdy := fun D env K E s => wpAny (model prog w) A (eval elt env) (fun x s₄ => wpAny (model prog w) A (call (.builtin "set.add") [.ref D, x]) (fun _ s₅ => K s₅) E s₄) E s
def tbSet (P : Program) (w : World) (te : TE) (D : Addr) : TB := fun σ H Nx => te σ H fun y H4 => ∃ (L : List (Addr × Px)) (b : Addr) (z : Px), y = .ref b ∧ H4 b = some (.tup (tv z)) ∧ H4 D = some (PSet P w D L) ∧ (∀ p ∈ L, H4 p.1 = some (.tup (tv p.2))) ∧ L.length + 1 ≤ 1200 ∧
  ∀ L', Added L b z L' → (L'.map (·.2)).Nodup → Nx (upd H4 D (PSet P w D L'))
theorem pe_scP {elt tg iter : Expr} {ifs : List Expr} {scope : Scope} {own : List (Str × Nat)} {pos : Pos} {wi : TI} {g : TG} {tt : TT} {te : TE} (hu : X.A.units + 1 < cLine) (hc : X.calm = true) (hN : X.N.Nodup) (hi : PI X tg iter wi) (ok : BlkOk X.N X.env.scope scope own)
    (hg : ∀ (s : Shared) (H : Hp) (C : Addr) (cl : List (Str × Addr)) (fp : List Addr), PG (X.blk s H scope (compEnvC scope cl C X.env) fp) tg g) (ht : ∀ (s : Shared) (H : Hp) (C : Addr) (cl : List (Str × Addr)) (fp : List Addr), PTs (X.blk s H scope (compEnvC scope cl C X.env) fp) ifs tt)
    (he : ∀ (s : Shared) (H : Hp) (C : Addr) (cl : List (Str × Addr)) (fp : List Addr), PE (X.blk s H scope (compEnvC scope cl C X.env) fp) elt te) (hs : ∀ x, foldedSetIterable iter X.env x = pure x := by intro _; rfl) :
    PE X (.SetComp elt [⟨tg, iter, ifs, 0⟩] scope pos) (tCo (fun D => PSet X.prog X.w D []) wi g tt (tbSet X.prog X.w te) (own.map (·.2))) := by
  refine ⟨fun pins s σ H Q I h => ?_⟩
  rw [PpSet.eval_SetComp]
  refine co_core (B := bSet elt X.prog X.w X.A) (ob := newSetObj X.w) rfl rfl (fun q => PpSet.newSet_ok q) (fun H h _ => pset_ok (SetH.z (L := []) (setH_new (Heap.get?_push_size _ rfl)))) (fun R s it D env I turn n h => PpSet.compLoopS_any I turn n h)
    (fun h0 h1 => PpSet.codeAny_compStart_set h0 h1) hc hN I hi ok hg ht (fun s H C cl fp pins s1 σ1 H1 D Nx K E I1 hb hK => ?_) hs h fun D C s' m H' I' q hn f => ⟨m, hn, fun h'' sb => ?_⟩
  · refine thnF ((he s H C cl fp).run pins s1 σ1 H1 _ I1 hb) fun x s2 ⟨y, H2, I2, r2, L, b, z, ey, hb2, hD, ht, few, nx⟩ => ?_
    subst ey
    cases r2
    exact add_px (X := X.blk s H scope (compEnvC scope cl C X.env) fp) hu I2 hD ht hb2 few fun s3 L' ad nd I3 => hK s3 _ I3 (nx L' ad nd)
  · obtain ⟨f0, f1, f2, f3, f4, f5⟩ := f
    exact ⟨.ref D, H', I'.turned (t' := s'.toks) (fun b o hb e => (sb.2 b hb).trans e) f0 f1 f3 f4 f5, rfl, q⟩

/-! ### a dict with pixels as keys -/
def bDic (kx vx : Expr) (prog : Program) (w : World) (A : Around) : Bdy := fun D env K E s => wpAny (model prog w) A (eval kx env) (fun kv s₄ => wpAny (model prog w) A (eval vx env) (fun vv s₅ => wpAny (model prog w) A (dictSet D kv vv) (fun _ s₆ => K s₆) E s₅) E s₄) E s
abbrev kz (z : Px) : List Key := [.inl z.1, .inl z.2]
theorem kz_tv (z : Px) : (kz z).map kV = tv z := rfl
def tbDic (tk tv' : TE) (D : Addr) : TB := fun σ H Nx => tk σ H fun y H4 => tv' σ H4 fun v H5 => ∃ (kvs : List (List Key × V)) (b : Addr) (z : Px), y = .ref b ∧ H5 b = some (.tup (tv z)) ∧ H5 D = some (.dT kvs) ∧ kvs.length < sizeLine ∧ Nx (upd H5 D (.dT (putK kvs (kz z) v)))
theorem d_dictSetT {pins : List (Addr × Obj)} {σ : L2.St} {H : Hp} {s : Shared} {E : Value → Shared → Prop} {D b : Addr} {kvs : List (List Key × V)} {k : List Key} {v : V} {r : Value} {Q : Unit → Shared → Prop} (hu : X.A.units + 1 < cLine) (I : Inv X pins σ H s) (hD : H D = some (.dT kvs)) (hb : H b = some (.tup (k.map kV))) (hz : kvs.length < sizeLine) (rv : RelV v r)
    (h : ∀ s', Inv X pins σ (upd H D (.dT (putK kvs k v))) s' → Q () s') : wpAny (model X.prog X.w) X.A (dictSet D (.ref b) r) Q E s := by
  obtain ⟨z, hd, xs, rel, dd⟩ := dt_of I.hok hD
  have hn := length_putK kvs k v
  refine wpAny_dictSet_heap (hsz := by rw [← Paired.length rel]; exact z) (Nat.lt_of_succ_lt hu) (key_of I.hok hb) dd fun h' dd' hs => h _ ?_
  obtain ⟨q, es, ep, hq, h2, h3, h4, _, h5⟩ := dd'
  refine d_write I (by rw [hD]; exact True.intro) hs ⟨q, hq⟩ ⟨by omega, hd, _, (rel.put k hb rv).keeps fun c ys ec => ?_, q, es, ep, hq, h2, h3, h4, h5⟩
  rw [upd_ne (ne_of ec hD (fun z => nomatch z))]
  exact ec
theorem pe_dcP {kx vx tg iter : Expr} {ifs : List Expr} {scope : Scope} {own : List (Str × Nat)} {pos : Pos} {wi : TI} {g : TG} {tt : TT} {tk tv' : TE} (hu : X.A.units + 1 < cLine) (hc : X.calm = true) (hN : X.N.Nodup) (hi : PI X tg iter wi) (ok : BlkOk X.N X.env.scope scope own)
    (hg : ∀ (s : Shared) (H : Hp) (C : Addr) (cl : List (Str × Addr)) (fp : List Addr), PG (X.blk s H scope (compEnvC scope cl C X.env) fp) tg g) (ht : ∀ (s : Shared) (H : Hp) (C : Addr) (cl : List (Str × Addr)) (fp : List Addr), PTs (X.blk s H scope (compEnvC scope cl C X.env) fp) ifs tt)
    (hk : ∀ (s : Shared) (H : Hp) (C : Addr) (cl : List (Str × Addr)) (fp : List Addr), PE (X.blk s H scope (compEnvC scope cl C X.env) fp) kx tk)
    (he : ∀ (s : Shared) (H : Hp) (C : Addr) (cl : List (Str × Addr)) (fp : List Addr), PE (X.blk s H scope (compEnvC scope cl C X.env) fp) vx tv') (hs : ∀ x, foldedSetIterable iter X.env x = pure x := by intro _; rfl) :
    PE X (.DictComp kx vx [⟨tg, iter, ifs, 0⟩] scope pos) (tCo (fun _ => .dT []) wi g tt (tbDic tk tv') (own.map (·.2))) := by
  refine ⟨fun pins s σ H Q I h => ?_⟩
  rw [arm_eval_DictComp]
  refine co_core (B := bDic kx vx X.prog X.w X.A) (ob := { cls := .type "dict", data := .dict #[] }) rfl rfl (fun q => wpAny_newObj_type q) (fun H h hb => dt_empty h hb) (fun R s it D env I turn n h => compLoop_anyD I turn n h)
    (fun h0 h1 => codeAny_compStart_dict h0 h1) hc hN I hi ok hg ht (fun s H C cl fp pins s1 σ1 H1 D Nx K E I1 hb hK => ?_) hs h fun D C s' m H' I' q hn f => ⟨m, hn, fun h'' sb => ?_⟩
  · refine thnF ((hk s H C cl fp).run pins s1 σ1 H1 _ I1 hb) fun x s2 ⟨y, H2, I2, r2, q2⟩ => ?_
    refine thnF ((he s H C cl fp).run pins s2 σ1 H2 _ I2 q2) fun x2 s3 ⟨v, H3, I3, r3, kvs, b, z, ey, hb3, hD, hz, nx⟩ => ?_
    subst ey
    cases r2
    exact d_dictSetT (X := X.blk s H scope (compEnvC scope cl C X.env) fp) (k := kz z) hu I3 hD hb3 hz r3 fun s4 I4 => hK s4 _ I4 nx
  · obtain ⟨f0, f1, f2, f3, f4, f5⟩ := f
    exact ⟨.ref D, H', I'.turned (t' := s'.toks) (fun b o hb e => (sb.2 b hb).trans e) f0 f1 f3 f4 f5, rfl, q⟩
end
end TPs

/-! Rules that the layer lacks: ** of great ints, >= of pairs, None asked of a dict with pixels as keys, sorted of data that stay as they are. -/
namespace TPs
open PySem PySem.Spec PyProof.Rows L2
section
variable {X : Cx} {pins : List (Addr × Obj)} {σ : L2.St} {H : Hp} {s : Shared}
/-! ### powers -/
def CPowW (i j : Int) : Prop := 0 ≤ j ∧ (Builtin.Int.intBits i : Int) * j ≤ 2 ^ 27
theorem op_powW : OpR X (binaryOp .Pow) (rI CPowW fun i j => .int (i ^ j.toNat)) := opI fun _ _ _ _ _ _ _ hc q => pow_int hc.1 hc.2 q
theorem pow_ok {i : Int} {a : Nat} (h0 : 0 < a) (ha : i.natAbs < 2 ^ a) (h : a ≤ 1000000) : CPowW i 3 := by
  have b : Builtin.Int.intBits i ≤ i.natAbs.log2 + 1 := by
    unfold Builtin.Int.intBits
    split <;> omega
  have l := PySem.Flt.log2_lt_of h0 ha
  refine ⟨by decide, ?_⟩
  have e : (2 : Int) ^ 27 = 134217728 := by decide
  rw [e]
  omega

/-! ### x >= y of pixels -/
instance (z w : Px) : Decidable (ltz z w) := by
  unfold ltz
  infer_instance
def rGeP (K : PySem.W.Frag) : R2 := fun x y H Q => ∃ (a b : Addr) (z w : Px), x = .ref a ∧ y = .ref b ∧ SqT K H a (tv z) ∧ SqT K H b (tv w) ∧ Q (.bl (decide (¬ ltz z w))) H
theorem op_geP (hu : X.A.units < cLine) : OpR X (compareOp .GtE) (rGeP X.K) := by
  intro pins s σ H x y v u Q I rx ry h
  obtain ⟨a, b, z, w, rfl, rfl, ha, hb, q⟩ := h
  cases rx
  cases ry
  obtain ⟨its, r1, p1, _⟩ := I.tuple ha
  obtain ⟨its2, r2, p2, _⟩ := I.tuple hb
  obtain ⟨u1, u2, rfl, ⟨t1, rfl⟩, ⟨t2, rfl⟩⟩ := vals2 r1
  obtain ⟨w1, w2, rfl, ⟨t3, rfl⟩, ⟨t4, rfl⟩⟩ := vals2 r2
  have two : ∀ {j : Nat}, j < 2 → j = 0 ∨ j = 1 := fun h => by omega
  refine Ob.RcOp.tuples_ge (e := fun j => if j = 0 then (z.1 == w.1) else (z.2 == w.2)) (r := fun j => if j = 0 then decide (w.1 ≤ z.1) else decide (w.2 ≤ z.2)) p1 p2 hu (fun j h1 h2 => ?_) (fun j h1 h2 _ => ?_) _ _ _ _ ?_
  · rcases two (show j < 2 from h1) with e | e <;> subst e
    · exact SeqAt.EqAt.int_int _ _ _ _
    · exact SeqAt.EqAt.int_int _ _ _ _
  · rcases two (show j < 2 from h1) with e | e <;> subst e
    · exact Ob.RcOp.ge_int _ _ _ _
    · exact Ob.RcOp.ge_int _ _ _ _
  · refine fin_bl I q ?_
    show decide (¬ ltz z w) = if (z.1 == w.1) = true then (if (z.2 == w.2) = true then decide (2 ≥ 2) else decide (w.2 ≤ z.2)) else decide (w.1 ≤ z.1)
    unfold ltz
    by_cases e1 : z.1 = w.1
    · rw [if_pos (by rw [e1]; exact beq_self_eq_true _)]
      by_cases e2 : z.2 = w.2
      · rw [if_pos (by rw [e2]; exact beq_self_eq_true _)]
        exact decide_eq_decide.mpr ⟨fun _ => Nat.le_refl _, fun _ => by omega⟩
      · rw [if_neg (by rw [beq_iff_eq]; exact e2)]
        exact decide_eq_decide.mpr (by omega)
    · rw [if_neg (by rw [beq_iff_eq]; exact e1)]
      exact decide_eq_decide.mpr (by omega)
theorem lexLt_pair (z w : Px) : HT.lexLt (tz z) (tz w) = decide (ltz z w) := by
  unfold ltz
  simp only [HT.lexLt]
  by_cases e1 : z.1 = w.1
  · by_cases e2 : z.2 = w.2
    · simp [e1, e2]
    · simp [e1, e2]
  · simp [e1]

/-! ### None in a dict whose keys are tuples -/
section
variable {P : Program} {w : World} {A : Around} {E : Value → Shared → Prop}
theorem find_none {d : Addr} {o : Obj} {es : Array DictEntry} {ep : Nat} {Q : Option Nat → Shared → Prop} {h : Int} (hu : A.units < cLine) (ho : s.heap.get? d = some o) (hd : o.data = .dict es ep)
    (hk : ∀ e ∈ es.toList, ∃ b k, e.key = .ref b ∧ IsTupleKey (mixKind P w) s.heap k b) (hQ : Q none s) : wpAny (model P w) A (dictFind d .none h) Q E s := by
  unfold dictFind
  refine wpAny_holding (wpAny_bind (wpAny_dictEntries ho hd ?_))
  dsimp only
  generalize hpl : placesWithHash es.size (fun i => es[i]?.map (·.hash)) h = places
  have hst : ∀ v ∈ places.filterMap (fun i => es[i]?.map (·.key)), ∃ k b, v = .ref b ∧ (tupleKind (mixKind P w)).is s.heap k b := fun v hv => by
    obtain ⟨i, _, e⟩ := List.mem_filterMap.mp hv
    obtain ⟨en, h1, h2⟩ := Option.map_eq_some_iff.mp e
    obtain ⟨b, k, e1, e2⟩ := hk en (List.mem_of_getElem? (by rw [Array.getElem?_toList]; exact h1))
    exact ⟨k, b, by rw [← h2, e1], e2⟩
  -- a place's key is another one
  have turn : ∀ {i : Nat} {en : DictEntry}, es[i]? = some en → SeqAt.EqAt A s en.key .none false := fun h1 => by
    obtain ⟨b, k, e1, ⟨o', items, n, ho', hc', hd', _⟩⟩ := hk _ (List.mem_of_getElem? (by rw [Array.getElem?_toList]; exact h1))
    rw [e1]
    exact SeqAt.EqAt.tuple_none ⟨o', ho', hc', n, hd'⟩ hu
  by_cases hp : (Value.none :: places.filterMap (fun i => es[i]?.map (·.key))).all carriedByValue = true
  · rw [if_pos hp]
    unfold dictWalkPlain
    refine wpAny_bind ?_
    refine wpAny_forIn_list _ (fun rest b s' => s' = s ∧ b = (none, ())) _ ?_ ?_ _ _ ⟨rfl, rfl⟩
    · rintro i rest b s' ⟨rfl, rfl⟩
      cases hi : es[i]? with
      | none => exact wpAny_pure ⟨rfl, rfl⟩
      | some en =>
        dsimp only
        by_cases hh : (en.hash == h) = true
        · rw [if_pos hh]
          refine wpAny_bind (wpAny_dictEpoch ho hd (wpAny_bind (turn hi P w E _ (wpAny_bind (wpAny_dictEpoch ho hd ?_)))))
          simp only [bne_self_eq_false, Bool.false_eq_true, if_false]
          first
            | exact wpAny_bind (wpAny_rule (wpAny_pure ⟨rfl, rfl⟩))
            | exact wpAny_bind (wpAny_pure (wpAny_bind (wpAny_rule (wpAny_pure ⟨rfl, rfl⟩))))
            | exact wpAny_bind (wpAny_pure (wpAny_bind (wpAny_pure (wpAny_bind (wpAny_rule (wpAny_pure ⟨rfl, rfl⟩))))))
        · rw [if_neg hh]
          exact wpAny_pure ⟨rfl, rfl⟩
    · rintro b s' ⟨rfl, rfl⟩
      exact wpAny_pure hQ
  · rw [if_neg hp]
    have ne : (places.filterMap (fun i => es[i]?.map (·.key)) == [Value.none]) = false := by
      refine Bool.eq_false_iff.mpr fun z => ?_
      have z2 := eq_of_beq z
      obtain ⟨k, b, e, _⟩ := hst .none (by rw [z2]; exact List.mem_singleton.mpr rfl)
      cases e
    have quiet : wpAny (model P w) A (tableMayTell .none (places.filterMap (fun i => es[i]?.map (·.key)))) (fun r s' => r = false ∧ s' = s) E s := by
      unfold tableMayTell
      split
      · exact wpAny_pure ⟨rfl, rfl⟩
      · refine wpAny_bind (wpAny_pure ?_)
        simp only [Bool.not_true, Bool.false_eq_true, if_false]
        refine wpAny_bind ?_
        refine wpAny_forIn_list _ (fun rest r s' => s' = s ∧ r = (none, ()) ∧ ∀ v ∈ rest, ∃ k b, v = .ref b ∧ (tupleKind (mixKind P w)).is s.heap k b) _ ?_ ?_ _ _ ⟨rfl, rfl, hst⟩
        · rintro x rest r s' ⟨rfl, rfl, hr⟩
          obtain ⟨k', b, rfl, hb⟩ := hr x List.mem_cons_self
          refine wpAny_bind ((tupleKind (mixKind P w)).quiet hb ?_)
          simp only [Bool.not_true, Bool.false_eq_true, if_false]
          exact wpAny_pure ⟨rfl, rfl, fun v hv => hr v (List.mem_cons_of_mem _ hv)⟩
        · rintro r s' ⟨rfl, rfl, _⟩
          exact wpAny_pure ⟨rfl, rfl⟩
    first
      | rw [if_neg (by rw [ne]; exact Bool.false_ne_true)]
      | simp only [ne, Bool.false_eq_true, if_false]
    refine wpAny_bind (wpAny_mono quiet (fun r s' hr => ?_) fun _ _ x => x)
    obtain ⟨rfl, rfl⟩ := hr
    simp only [Bool.false_and, Bool.false_eq_true, if_false]
    try refine wpAny_bind (wpAny_pure ?_)
    refine wpAny_bind ?_
    refine wpAny_forIn_list _ (fun rest b s'' => s'' = s' ∧ b = (none, none)) _ ?_ ?_ _ _ ⟨rfl, rfl⟩
    · rintro i rest b s'' ⟨rfl, rfl⟩
      cases hi : es[i]? with
      | none => exact wpAny_pure ⟨rfl, rfl⟩
      | some en =>
        dsimp only
        by_cases hh : (en.hash == h) = true
        · rw [if_pos hh]
          refine wpAny_bind (wpAny_dictEpoch ho hd (wpAny_bind (turn hi P w E _ (wpAny_bind (wpAny_dictEpoch ho hd ?_)))))
          simp only [bne_self_eq_false, Bool.false_eq_true, if_false]
          first
            | exact wpAny_bind (wpAny_rule (wpAny_pure ⟨rfl, rfl⟩))
            | exact wpAny_bind (wpAny_pure (wpAny_bind (wpAny_rule (wpAny_pure ⟨rfl, rfl⟩))))
            | exact wpAny_bind (wpAny_rule (wpAny_bind (wpAny_pure (wpAny_pure ⟨rfl, rfl⟩))))
            | exact wpAny_bind (wpAny_pure (wpAny_bind (wpAny_rule (wpAny_bind (wpAny_pure (wpAny_pure ⟨rfl, rfl⟩))))))
        · rw [if_neg hh]
          exact wpAny_pure ⟨rfl, rfl⟩
    · rintro b s'' ⟨rfl, rfl⟩
      exact wpAny_pure hQ
end
theorem in_none {A : Around} {E : Value → Shared → Prop} {a : Addr} {kvs : List (List Key × V)} {Q : Value → Shared → Prop} (hu : A.units + 1 < cLine) (I : Inv X pins σ H s) (e : Rd H a (.dT kvs)) (h : ∀ s', Inv X pins σ H s' → Q (.bool false) s') : wpAny (model X.prog X.w) A (compareOp .In .none (.ref a)) Q E s := by
  obtain ⟨z, hd, xs, rel, dd⟩ := dt_rd I.hok e
  obtain ⟨o, es, ep, ho, hx, hdt, he, his, hn⟩ := id dd
  show wpAny _ _ (do return .bool (← contains (.ref a) .none)) Q E s
  refine wpAny_bind ?_
  unfold contains
  try with_reducible refine wpAny_holding ?_
  refine wpAny_bind (wpAny_specialOf dd.typeIs slot_dict_contains.lookup ?_)
  show wpAny _ _ (if (some (Value.builtin "dict.__contains__") == some Value.none) = true then _ else _) _ E s
  rw [if_neg (by rw [beq_builtin_none]; exact Bool.false_ne_true)]
  refine wpAny_bind (wpAny_callSpecialUnlessNone?_slot (name := Str.ofString "__contains__") dd.typeIs slot_dict_contains (wpAny_call_entry slot_dict_contains dd.typeIs entry_dict_contains ?_ (args_dict_contains _ _)))
  show wpAny _ _ (dictGet a .none >>= _) _ _ s
  refine wpAny_bind ?_
  unfold dictGet
  try with_reducible refine wpAny_holding ?_
  refine wpAny_bind ((noneKind X.prog X.w).pyHash (k := none) rfl (wpAny_bind (find_none (P := X.prog) (w := X.w) (s := { s with toks := s.toks + 1 }) hu ho hdt (fun en hen => ?_) ?_)))
  · rw [he] at hen
    obtain ⟨x, hx', rfl⟩ := List.mem_map.mp hen
    exact ⟨x.2.1, x.1, rfl, his x hx'⟩
  · refine wpAny_pure ?_
    show wpAny _ _ (Builtin.Dict.pendingKey? a .none >>= _) _ _ _
    exact wpAny_bind (wpAny_pendingKey_other hd (wpAny_pure ⟨_, rfl, wpAny_truthy_bool (wpAny_pure (h _ (I.tok _)))⟩))
/-- x in d, x a pixel's tuple or None -/
def tDInP (ty td : TE) : TE := fun σ H Q => ty σ H fun y H1 => td σ H1 fun x H2 => (∃ a o, x = .ref a ∧ DGet H2 a y o ∧ Q (.bl o.isSome) H2) ∨ ∃ a kvs, x = .ref a ∧ y = .non ∧ Rd H2 a (.dT kvs) ∧ Q (.bl false) H2
theorem pc_dinP {i o : Expr} {ty td : TE} (hu : X.A.units + 1 < cLine) (hi : PE X i ty) (ho : PE X o td) : PC X .In i o (tDInP ty td) := by
  refine ⟨fun pins s σ H Q I h => ?_⟩
  refine bin hi ho I h fun v u s2 y x H2 I2 ry rx q => ?_
  rcases q with ⟨a, ov, rfl, g, q⟩ | ⟨a, kvs, rfl, rfl, g, q⟩
  · cases rx
    exact d_in hu I2 g ry fun s' I' => ⟨.bl _, H2, I', rfl, q⟩
  · cases rx
    cases ry
    exact in_none hu I2 g fun s' I' => ⟨.bl _, H2, I', rfl, q⟩

/-! ### sorted, any order -/
/-- sorted(xs), xs a list of alike data: a new list of the same in some order -/
def rSortD (K : PySem.W.Frag) : List V → Hp → VK → Prop := fun vs H Q => ∃ (a : Addr) (bs : List (V × PyData)), vs = [V.ref a] ∧ SqL K H a (bs.map (·.1)) ∧ (∀ b ∈ bs, Dp K H b.1 b.2 ∧ b.2.depth ≤ 8) ∧ PySem.W.AllAlike (bs.map (·.2)) ∧ PySem.W.Sortable (bs.map (·.2)) ∧
  ∀ (bs' : List (V × PyData)) (p : Addr), bs'.Perm bs → H p = none → Q (.ref p) (upd H p (.lst (bs'.map (·.1))))
theorem each_of {us : List Value} {bs : List (V × PyData)} (r : Vals (bs.map (·.1)) us) : PySem.W.EachIs (fun u (b : V × PyData) => RelV b.1 u) us bs := by
  induction bs generalizing us with
  | nil => cases r; exact .nil
  | cons b bs ih =>
    cases r with
    | cons r1 r2 => exact .cons r1 (ih r2)
theorem vals_each {us : List Value} {bs : List (V × PyData)} (e : PySem.W.EachIs (fun u (b : V × PyData) => RelV b.1 u) us bs) : Vals (bs.map (·.1)) us := by
  induction bs generalizing us with
  | nil => cases e; exact .nil
  | cons b bs ih =>
    cases e with
    | cons r1 r2 => exact .cons r1 (ih r2)
theorem each_reads (I : Inv X pins σ H s) {us : List Value} {bs : List (V × PyData)} (r : Vals (bs.map (·.1)) us) (hd : ∀ b ∈ bs, Dp X.K H b.1 b.2) : PySem.W.EachIs (fun u (b : V × PyData) => ∃ as, Reads s.heap u b.2 as) us bs := by
  induction bs generalizing us with
  | nil => cases r; exact .nil
  | cons b bs ih =>
    cases r with
    | cons r1 r2 => exact .cons (Dp.reads I b.2 b.1 _ (hd b List.mem_cons_self) r1) (ih r2 fun c hc => hd c (List.mem_cons_of_mem _ hc))
theorem cr_sortD (hu : X.A.units + 64 < cLine) : CallR X (.builtin "sorted") (rSortD X.K) := by
  intro pins s σ H vs us Q I r h
  obtain ⟨a, bs, rfl, hs, hd, hal, hk, q⟩ := h
  obtain ⟨its, rv, hl, hz⟩ := I.list hs
  rw [Vals.ref1 r]
  rw [List.length_map] at hz
  have e0 := each_of rv
  refine PySem.W.sorted_data (enc := fun b : V × PyData => b.2) hl.isList e0 (each_reads I rv fun b hb => (hd b hb).1) hal hk hz (fun b hb => by have := (hd b hb).2; show X.A.units + 2 + b.2.depth < cLine; omega) fun out hlen eo => ?_
  have rv' := vals_each eo
  have pm := List.mergeSort_perm bs (PySem.W.dataLe false fun b : V × PyData => b.2)
  have hn : H (s.heap.objs.size + 1) = none := I.hok.fresh (Nat.le_succ _)
  refine ⟨.ref (s.heap.objs.size + 1), _, I.laid (t' := s.toks) (a := s.heap.objs.size + 1) (o := .lst ((bs.mergeSort (PySem.W.dataLe false fun b : V × PyData => b.2)).map (·.1))) (fun b o e => sortedAll_old e) (Nat.le_succ _) ?_, rfl, q _ _ pm hn⟩
  obtain ⟨n, hn2⟩ := sortedAll_at s.heap its out.toArray
  refine ⟨?_, out, n, rv', hn2⟩
  rw [List.length_map, pm.length_eq]
  exact hz
end
end TPs

/-! What a reading evaluates to, told by a word of the value and the heap that stays true while the heap grows. -/
namespace TPy
open PySem PySem.Spec PyProof.Rows L2 TPs Evl
abbrev Px := Int × Int
abbrev VP := V → Hp → Prop
def Mono (P : VP) : Prop := ∀ v H H', Ex H H' → P v H → P v H'
def Y (te : TE) (σ : L2.St) (H : Hp) (P : VP) : Prop := ∀ H1, Ex H H1 → ∀ Q : VK, (∀ v H2, Ex H1 H2 → P v H2 → Q v H2) → te σ H1 Q
def YA (ta : TA) (σ : L2.St) (H : Hp) (R : List V → Hp → Prop) : Prop := ∀ H1, Ex H H1 → ∀ Q : List V → Hp → Prop, (∀ vs H2, Ex H1 H2 → R vs H2 → Q vs H2) → ta σ H1 Q
/-- words -/
def Is (v : V) : VP := fun u _ => u = v
def IsU (xs : List V) : VP := fun v H => ∃ a, v = .ref a ∧ H a = some (.tup xs)
def IsLs (xs : List V) : VP := fun v H => ∃ a, v = .ref a ∧ H a = some (.lst xs)
abbrev IsP (z : Px) : VP := IsU (tv z)
abbrev IsI (i : Int) : VP := Is (.int i)
abbrev IsB (b : Bool) : VP := Is (.bl b)
/-- pixels one by one -/
def Pxs (H : Hp) : List V → List Px → Prop
  | [], [] => True
  | v :: vs, z :: zs => IsP z v H ∧ Pxs H vs zs
  | _, _ => False
def IsPs (zs : List Px) : VP := fun v H => ∃ a xs, v = .ref a ∧ H a = some (.lst xs) ∧ Pxs H xs zs
theorem mono_is {v : V} : Mono (Is v) := fun _ _ _ _ h => h
theorem mono_u {xs : List V} : Mono (IsU xs) := fun _ _ _ e ⟨a, h, g⟩ => ⟨a, h, e a _ g⟩
theorem mono_ls {xs : List V} : Mono (IsLs xs) := fun _ _ _ e ⟨a, h, g⟩ => ⟨a, h, e a _ g⟩
theorem Pxs.mono {H H' : Hp} (e : Ex H H') : ∀ {vs : List V} {zs : List Px}, Pxs H vs zs → Pxs H' vs zs
  | [], [], _ => trivial
  | _ :: _, _ :: _, ⟨h, t⟩ => ⟨mono_u _ _ _ e h, Pxs.mono e t⟩
  | [], _ :: _, h => h.elim
  | _ :: _, [], h => h.elim
theorem mono_ps {zs : List Px} : Mono (IsPs zs) := fun _ _ _ e ⟨a, xs, h, g, p⟩ => ⟨a, xs, h, e a _ g, p.mono e⟩
theorem Pxs.len {H : Hp} : ∀ {vs : List V} {zs : List Px}, Pxs H vs zs → vs.length = zs.length
  | [], [], _ => rfl
  | _ :: _, _ :: _, ⟨_, t⟩ => congrArg (· + 1) (Pxs.len t)
  | [], _ :: _, h => h.elim
  | _ :: _, [], h => h.elim
theorem Pxs.get {H : Hp} : ∀ {vs : List V} {zs : List Px} {i : Nat} {v : V}, Pxs H vs zs → vs[i]? = some v → ∃ z, zs[i]? = some z ∧ IsP z v H
  | _ :: _, _ :: _, 0, v, ⟨h, _⟩, e => ⟨_, rfl, by cases e; exact h⟩
  | _ :: vs, _ :: zs, i + 1, v, ⟨_, t⟩, e => Pxs.get (i := i) t e
  | [], [], _, _, _, e => by simp at e
  | [], _ :: _, _, _, h, _ => h.elim
  | _ :: _, [], _, _, h, _ => h.elim
theorem Pxs.app {H : Hp} : ∀ {vs ws : List V} {zs ys : List Px}, Pxs H vs zs → Pxs H ws ys → Pxs H (vs ++ ws) (zs ++ ys)
  | [], _, [], _, _, h => h
  | _ :: _, _, _ :: _, _, ⟨h, t⟩, g => ⟨h, Pxs.app t g⟩
  | [], _, _ :: _, _, h, _ => h.elim
  | _ :: _, _, [], _, h, _ => h.elim
theorem Pxs.one {H : Hp} {v : V} {z : Px} (h : IsP z v H) : Pxs H [v] [z] := ⟨h, trivial⟩
theorem Pxs.take {H : Hp} : ∀ (n : Nat) {vs : List V} {zs : List Px}, Pxs H vs zs → Pxs H (vs.take n) (zs.take n)
  | 0, _, _, _ => trivial
  | n + 1, [], [], _ => trivial
  | n + 1, _ :: _, _ :: _, ⟨h, t⟩ => ⟨h, Pxs.take n t⟩
  | _ + 1, [], _ :: _, h => h.elim
  | _ + 1, _ :: _, [], h => h.elim
theorem Pxs.drop {H : Hp} : ∀ (n : Nat) {vs : List V} {zs : List Px}, Pxs H vs zs → Pxs H (vs.drop n) (zs.drop n)
  | 0, _, _, h => h
  | n + 1, [], [], _ => trivial
  | n + 1, _ :: _, _ :: _, ⟨_, t⟩ => Pxs.drop n t
  | _ + 1, [], _ :: _, h => h.elim
  | _ + 1, _ :: _, [], h => h.elim
/-- lists of addresses with their pixels -/
theorem Pxs.rows {H : Hp} : ∀ {vs : List V} {zs : List Px}, Pxs H vs zs → ∃ ks : List (Addr × Px), vs = ks.map (fun p => V.ref p.1) ∧ zs = ks.map (·.2) ∧ ∀ p ∈ ks, H p.1 = some (.tup (tv p.2))
  | [], [], _ => ⟨[], rfl, rfl, fun _ h => (nomatch h)⟩
  | _ :: _, z :: _, ⟨⟨a, e, h⟩, t⟩ => by
    obtain ⟨ks, e1, e2, e3⟩ := Pxs.rows t
    refine ⟨(a, z) :: ks, by rw [e, e1]; rfl, by rw [e2]; rfl, fun p hp => ?_⟩
    rcases List.mem_cons.mp hp with q | q
    · rw [q]; exact h
    · exact e3 p q
  | [], _ :: _, h => h.elim
  | _ :: _, [], h => h.elim
theorem Pxs.of_rows {H : Hp} : ∀ {ks : List (Addr × Px)}, (∀ p ∈ ks, H p.1 = some (.tup (tv p.2))) → Pxs H (ks.map fun p => V.ref p.1) (ks.map (·.2))
  | [], _ => trivial
  | p :: ks, h => ⟨⟨p.1, rfl, h p List.mem_cons_self⟩, Pxs.of_rows fun q hq => h q (List.mem_cons_of_mem _ hq)⟩

section
variable {K : PySem.W.Frag} {σ : L2.St} {H H' : Hp} {ta tb te tc ta' : TE} {t u : TT} {x y z v : V} {r : R2} {P Pa Pb Pc : VP} {R : List V → Hp → Prop}
theorem Y.mono (e : Ex H H') (h : Y te σ H P) : Y te σ H' P := fun H1 a Q q => h H1 (e.trans a) Q q
theorem YA.mono {ta : TA} (e : Ex H H') (h : YA ta σ H R) : YA ta σ H' R := fun H1 a Q q => h H1 (e.trans a) Q q
theorem Y.imp (h : Y te σ H Pa) (f : ∀ v H1, Ex H H1 → Pa v H1 → P v H1) : Y te σ H P := fun H1 e Q q => h H1 e Q fun v H2 e2 p => q v H2 e2 (f v H2 (e.trans e2) p)
theorem YA.imp {ta : TA} {R' : List V → Hp → Prop} (h : YA ta σ H R) (f : ∀ vs H1, Ex H H1 → R vs H1 → R' vs H1) : YA ta σ H R' := fun H1 e Q q => h H1 e Q fun v H2 e2 p => q v H2 e2 (f v H2 (e.trans e2) p)
theorem y_var {i : Nat} (h : σ[i]? = some (some v)) (hp : P v H) (m : Mono P) : Y (tVar i) σ H P := fun H1 e Q q => ⟨v, h, q v H1 (Ex.refl H1) (m v H H1 e hp)⟩
theorem y_vI {i : Nat} (h : σ[i]? = some (some v)) : Y (tVar i) σ H (Is v) := y_var h rfl mono_is
theorem y_c : Y (tC v) σ H (Is v) := fun H1 _ Q q => q v H1 (Ex.refl H1) rfl
theorem y_op (ma : Mono Pa) (ha : Y ta σ H Pa) (hb : Y tb σ H Pb) (hr : ∀ x y H1, Ex H H1 → Pa x H1 → Pb y H1 → ∀ Q : VK, (∀ v H2, Ex H1 H2 → P v H2 → Q v H2) → r x y H1 Q) : Y (tOp r ta tb) σ H P := fun H1 e Q q =>
  ha H1 e _ fun x H2 e2 hx => hb H2 (e.trans e2) _ fun y H3 e3 hy => hr x y H3 ((e.trans e2).trans e3) (ma x H2 H3 e3 hx) hy Q fun v H4 e4 hv => q v H4 ((e2.trans e3).trans e4) hv
theorem y_i0 {g : Int → Int → V} {i j : Int} (ha : Y ta σ H (IsI i)) (hb : Y tb σ H (IsI j)) : Y (tOp (rI0 g) ta tb) σ H (Is (g i j)) :=
  y_op mono_is ha hb fun x y H1 _ hx hy Q q => ⟨i, j, hx, hy, q _ H1 (Ex.refl H1) rfl⟩
theorem y_i {C : Int → Int → Prop} {g : Int → Int → V} {i j : Int} (hc : C i j) (ha : Y ta σ H (IsI i)) (hb : Y tb σ H (IsI j)) : Y (tOp (rI C g) ta tb) σ H (Is (g i j)) :=
  y_op mono_is ha hb fun x y H1 _ hx hy Q q => ⟨i, j, hx, hy, hc, q _ H1 (Ex.refl H1) rfl⟩
theorem y_un {g : Int → V} {i : Int} (ha : Y ta σ H (IsI i)) : Y (tUn (rU g) ta) σ H (Is (g i)) := fun H1 e Q q =>
  ha H1 e _ fun x H2 e2 hx => ⟨i, hx, q _ H2 e2 rfl⟩
theorem y_eq (hs : scal x y = true) (ha : Y ta σ H (Is x)) (hb : Y tb σ H (Is y)) : Y (tOp rEq ta tb) σ H (IsB (decide (x = y))) :=
  y_op mono_is ha hb fun a b H1 _ hx hy Q q => by
    rw [show a = x from hx, show b = y from hy]
    exact ⟨hs, q _ H1 (Ex.refl H1) rfl⟩
theorem y_ne (hs : scal x y = true) (ha : Y ta σ H (Is x)) (hb : Y tb σ H (Is y)) : Y (tOp rNe ta tb) σ H (IsB (!decide (x = y))) :=
  y_op mono_is ha hb fun a b H1 _ hx hy Q q => by
    rw [show a = x from hx, show b = y from hy]
    exact ⟨hs, q _ H1 (Ex.refl H1) rfl⟩
theorem Y.val {w : V} (h : Y te σ H (Is v)) (e : v = w) : Y te σ H (Is w) := e ▸ h
/-- tests -/
theorem yt_test {b : Bool} (h : Y te σ H (IsB b)) : EvT (tTest te) σ H b := fun H1 e Q q => h H1 e _ fun v H2 e2 hv => ⟨b, hv, q H2 e2⟩
theorem yt_B {b : Bool} (h : Y te σ H (IsB b)) : EvT (tB te) σ H b := fun H1 e Q q => h H1 e _ fun v H2 e2 hv => ⟨b, hv, q H2 e2⟩
theorem y_and {a b : Bool} (h1 : Y ta σ H (IsB a)) (h2 : a = true → Y tb σ H (IsB b)) : Y (tAndV ta tb) σ H (IsB (a && b)) := fun H1 e Q q => h1 H1 e _ fun v H2 e2 hv => ⟨a, hv, by
  cases a with
  | true => exact h2 rfl H2 (e.trans e2) Q fun v H3 e3 hv => q v H3 (e2.trans e3) hv
  | false => exact q _ H2 e2 rfl⟩
theorem y_or {a b : Bool} (h1 : Y ta σ H (IsB a)) (h2 : a = false → Y tb σ H (IsB b)) : Y (tOrV ta tb) σ H (IsB (a || b)) := fun H1 e Q q => h1 H1 e _ fun v H2 e2 hv => ⟨a, hv, by
  cases a with
  | false => exact h2 rfl H2 (e.trans e2) Q fun v H3 e3 hv => q v H3 (e2.trans e3) hv
  | true => exact q _ H2 e2 rfl⟩
theorem y_not {a : Bool} (h1 : Y ta σ H (IsB a)) : Y (tNotV ta) σ H (IsB (!a)) := fun H1 e Q q => h1 H1 e _ fun v H2 e2 hv => ⟨a, hv, q _ H2 e2 rfl⟩
theorem y_if {b : Bool} (h : EvT t σ H b) (h1 : b = true → Y ta σ H P) (h2 : b = false → Y tb σ H P) : Y (tIf t ta tb) σ H P := fun H1 e Q q => h H1 e _ fun H2 e2 => by
  cases b with
  | true => exact h1 rfl H2 (e.trans e2) Q fun v H3 e3 hv => q v H3 (e2.trans e3) hv
  | false => exact h2 rfl H2 (e.trans e2) Q fun v H3 e3 hv => q v H3 (e2.trans e3) hv
/-- a op b op' c of ints -/
theorem y_chain {g g' : Int → Int → V} {i j k : Int} {b b' : Bool} (e1 : g i j = .bl b) (e2 : g' j k = .bl b') (ha : Y ta σ H (IsI i)) (hb : Y tb σ H (IsI j)) (hc : Y tc σ H (IsI k)) : Y (tChain (rI0 g) (rI0 g') ta tb tc) σ H (IsB (b && b')) := fun H1 e Q q =>
  ha H1 e _ fun x H2 e2' hx => hb H2 (e.trans e2') _ fun y H3 e3 hy => ⟨i, j, hx, hy, b, e1, by
    cases b with
    | true => exact hc H3 ((e.trans e2').trans e3) _ fun z H4 e4 hz => ⟨j, k, hy, hz, by rw [e2]; exact q _ H4 ((e2'.trans e3).trans e4) rfl⟩
    | false => exact q _ H3 (e2'.trans e3) rfl⟩
/-- arguments -/
theorem ya_nil : YA tNil σ H (fun vs _ => vs = []) := fun H1 _ Q q => q [] H1 (Ex.refl H1) rfl
theorem ya_cons {tr : TA} (m : Mono P) (h : Y te σ H P) (hr : YA tr σ H R) : YA (tCons te tr) σ H (fun vs H => ∃ v r, vs = v :: r ∧ P v H ∧ R r H) := fun H1 e Q q =>
  h H1 e _ fun v H2 e2 hv => hr H2 (e.trans e2) _ fun r H3 e3 h3 => q _ H3 (e2.trans e3) ⟨v, r, rfl, m v H2 H3 e3 hv, h3⟩
theorem ya1 (h : Y te σ H P) : YA (tCons te tNil) σ H (fun vs H => ∃ v, vs = [v] ∧ P v H) := fun H1 e Q q =>
  h H1 e _ fun v H2 e2 hv => q _ H2 e2 ⟨v, rfl, hv⟩
theorem ya2 (m : Mono Pa) (h : Y ta σ H Pa) (h2 : Y tb σ H Pb) : YA (tCons ta (tCons tb tNil)) σ H (fun vs H => ∃ v w, vs = [v, w] ∧ Pa v H ∧ Pb w H) :=
  (ya_cons m h (ya1 h2)).imp fun vs H1 _ ⟨v, r, e, hv, w, e2, hw⟩ => ⟨v, w, by rw [e, e2], hv, hw⟩
theorem ya3 (m : Mono Pa) (m2 : Mono Pb) (h : Y ta σ H Pa) (h2 : Y tb σ H Pb) (h3 : Y tc σ H Pc) : YA (tCons ta (tCons tb (tCons tc tNil))) σ H (fun vs H => ∃ v w u, vs = [v, w, u] ∧ Pa v H ∧ Pb w H ∧ Pc u H) :=
  (ya_cons m h (ya2 m2 h2 h3)).imp fun vs H1 _ ⟨v, r, e, hv, w, u, e2, hw, hu⟩ => ⟨v, w, u, by rw [e, e2], hv, hw, hu⟩
/-- tuples, lists made -/
theorem y_tup {ta : TA} {xs : List V} (h : YA ta σ H (fun vs _ => vs = xs)) (hl : xs.length ≤ 1000) : Y (tTup ta) σ H (IsU xs) := fun H1 e Q q =>
  h H1 e _ fun vs H2 e2 ev => ⟨by rw [ev]; exact Nat.le_trans hl (by decide), fun p hp => q _ _ (e2.trans (Ex.new hp)) ⟨p, rfl, by rw [upd_same, ev]⟩⟩
theorem ya_is1 (h : Y ta σ H (Is x)) : YA (tCons ta tNil) σ H (fun vs _ => vs = [x]) := (ya1 h).imp fun vs _ _ ⟨v, e, hv⟩ => by rw [e, show v = x from hv]
theorem ya_is2 (h : Y ta σ H (Is x)) (h2 : Y tb σ H (Is y)) : YA (tCons ta (tCons tb tNil)) σ H (fun vs _ => vs = [x, y]) := (ya2 mono_is h h2).imp fun vs _ _ ⟨v, w, e, hv, hw⟩ => by rw [e, show v = x from hv, show w = y from hw]
theorem ya_is3 (h : Y ta σ H (Is x)) (h2 : Y tb σ H (Is y)) (h3 : Y tc σ H (Is z)) : YA (tCons ta (tCons tb (tCons tc tNil))) σ H (fun vs _ => vs = [x, y, z]) :=
  (ya3 mono_is mono_is h h2 h3).imp fun vs _ _ ⟨v, w, u, e, hv, hw, hu⟩ => by rw [e, show v = x from hv, show w = y from hw, show u = z from hu]
theorem y_tup2 (h : Y ta σ H (Is x)) (h2 : Y tb σ H (Is y)) : Y (tTup (tCons ta (tCons tb tNil))) σ H (IsU [x, y]) := y_tup (ya_is2 h h2) (by show 2 ≤ 1000; decide)
theorem y_tup3 (h : Y ta σ H (Is x)) (h2 : Y tb σ H (Is y)) (h3 : Y tc σ H (Is z)) : Y (tTup (tCons ta (tCons tb (tCons tc tNil)))) σ H (IsU [x, y, z]) := y_tup (ya_is3 h h2 h3) (by show 3 ≤ 1000; decide)
theorem y_lst {ta : TA} (mr : ∀ vs H H', Ex H H' → R vs H → R vs H') (h : YA ta σ H R) (hl : ∀ vs H, R vs H → vs.length ≤ 1000) : Y (tLst ta) σ H (fun v H' => ∃ a xs, v = .ref a ∧ H' a = some (.lst xs) ∧ R xs H') := fun H1 e Q q =>
  h H1 e _ fun vs H2 e2 hv => ⟨Nat.le_trans (hl vs H2 hv) (by decide), fun p hp => q _ _ (e2.trans (Ex.new hp)) ⟨p, vs, rfl, upd_same, mr _ _ _ (Ex.new hp) hv⟩⟩
/-- items -/
theorem y_ixT {i : Int} {xs : List V} (ha : Y ta σ H (IsU xs)) (hb : Y tb σ H (IsI i)) (hx : atI xs i = some x) : Y (tOp (rIxT K) ta tb) σ H (Is x) :=
  y_op mono_u ha hb fun a b H1 _ ⟨p, e1, e2⟩ hy Q q => ⟨p, xs, i, x, e1, hy, .inl (.inl e2), hx, q _ H1 (Ex.refl H1) rfl⟩
theorem y_ixL {i : Int} {xs : List V} (ha : Y ta σ H (IsLs xs)) (hb : Y tb σ H (IsI i)) (hx : atI xs i = some x) : Y (tOp (rIxL K) ta tb) σ H (Is x) :=
  y_op mono_ls ha hb fun a b H1 _ ⟨p, e1, e2⟩ hy Q q => ⟨p, xs, i, x, e1, hy, .inl (.inl e2), hx, q _ H1 (Ex.refl H1) rfl⟩
/-- t[lo:hi] of a tuple -/
theorem y_slT {tl th : TO} {xs : List V} {lo hi : Option Int} (ha : Y ta σ H (IsU xs)) (h1 : EvO tl σ H lo) (h2 : EvO th σ H hi) : Y (tSl (rSlA K) ta tl th) σ H (IsU (cutV xs lo hi)) := fun H1 e Q q =>
  ha H1 e _ fun v H2 e2 ⟨p, e1, hp⟩ => h1 H2 (e.trans e2) _ fun H3 e3 => h2 H3 ((e.trans e2).trans e3) _ fun H4 e4 => by
    refine ⟨p, xs, e1, .inl (.inl ((e3.trans e4) p _ hp)), fun c => q _ H4 ((e2.trans e3).trans e4) ⟨p, rfl, ?_⟩, fun _ p' hp' => q _ _ (((e2.trans e3).trans e4).trans (Ex.new hp')) ⟨p', rfl, upd_same⟩⟩
    rw [(e3.trans e4) p _ hp]
    have e : cutV xs lo hi = xs := by
      unfold cutV
      rw [c.1, c.2]
      simp
    rw [e]
/-- calls of built-ins -/
theorem y_cb {rr : List V → Hp → VK → Prop} {ta : TA} (h : YA ta σ H R) (hr : ∀ vs H1, Ex H H1 → R vs H1 → ∀ Q : VK, (∀ v H2, Ex H1 H2 → P v H2 → Q v H2) → rr vs H1 Q) : Y (tCB rr ta) σ H P := fun H1 e Q q =>
  h H1 e _ fun vs H2 e2 hv => hr vs H2 (e.trans e2) hv Q fun v H3 e3 p => q v H3 (e2.trans e3) p
/-- calls of the text's defs: the promise's form -/
def spF {α : Type} (Pre : α → List V → Hp → Prop) (Post : α → VP) : Sp := fun vs H Q _ => ∃ x : α, Pre x vs H ∧ ∀ v H', Ex H H' → Post x v H' → Q v H'
theorem y_call {α : Type} {Pre : α → List V → Hp → Prop} {Post : α → VP} {E : XK} {ta : TA} (x : α) (h : YA ta σ H R) (hp : ∀ vs H1, Ex H H1 → R vs H1 → Pre x vs H1) (hq : ∀ v H1, Ex H H1 → Post x v H1 → P v H1) : Y (tCall (spF Pre Post) [] E ta) σ H P := fun H1 e Q q =>
  h H1 e _ fun vs H2 e2 hv => ⟨x, by rw [List.append_nil]; exact hp vs H2 (e.trans e2) hv, fun v H3 e3 p => q v H3 (e2.trans e3) (hq v H3 ((e.trans e2).trans e3) p)⟩

/-! ### statements -/
variable {D : Ends} {tu tw tz : TS} {g : TG}
theorem sy_asg {i : Nat} (h : Y te σ H P) (k : ∀ v H1, Ex H H1 → P v H1 → D.nx (σ.set i (some v)) H1) : tAsg te (gName i) D σ H := h H (Ex.refl H) _ fun v H1 e p => k v H1 e p
theorem qy_asg {i : Nat} (h : Y te σ H P) (k : ∀ v H1, Ex H H1 → P v H1 → tz D (σ.set i (some v)) H1) : tSeq (tAsg te (gName i)) tz D σ H := sy_asg (D := { D with nx := tz D }) h k
theorem qy_asgI {i : Nat} (h : Y te σ H (Is v)) (k : ∀ H1, Ex H H1 → tz D (σ.set i (some v)) H1) : tSeq (tAsg te (gName i)) tz D σ H := qy_asg h fun u H1 e p => by rw [show u = v from p]; exact k H1 e
theorem sy_ret (h : Y te σ H P) (k : ∀ v H1, Ex H H1 → P v H1 → D.rt v H1) : tRet te D σ H := h H (Ex.refl H) _ k
theorem qy_drop (h : Y te σ H P) (k : ∀ v H1, Ex H H1 → P v H1 → tz D σ H1) : tSeq (tDrop te) tz D σ H := h H (Ex.refl H) _ fun v H1 e p => k v H1 e p
theorem sy_drop (h : Y te σ H P) (k : ∀ v H1, Ex H H1 → P v H1 → D.nx σ H1) : tDrop te D σ H := h H (Ex.refl H) _ fun v H1 e p => k v H1 e p
theorem qy_un2 {i j : Nat} (h : Y te σ H (IsU [x, y])) (k : ∀ H1, Ex H H1 → tz D ((σ.set i (some x)).set j (some y)) H1) : tSeq (tAsg te (gTup K 2 (gCons (gName i) (gCons (gName j) gNil)))) tz D σ H :=
  h H (Ex.refl H) _ fun v H1 e ⟨p, e1, hp⟩ => ⟨p, [x, y], e1, .inl (.inl hp), rfl, x, [y], rfl, y, [], rfl, rfl, k H1 e⟩
theorem qy_un3 {i j l : Nat} (h : Y te σ H (IsU [x, y, z])) (k : ∀ H1, Ex H H1 → tz D (((σ.set i (some x)).set j (some y)).set l (some z)) H1) : tSeq (tAsg te (gTup K 3 (gCons (gName i) (gCons (gName j) (gCons (gName l) gNil))))) tz D σ H :=
  h H (Ex.refl H) _ fun v H1 e ⟨p, e1, hp⟩ => ⟨p, [x, y, z], e1, .inl (.inl hp), rfl, x, [y, z], rfl, y, [z], rfl, z, [], rfl, rfl, k H1 e⟩
theorem sy_par {i j : Nat} (h : Y ta σ H (Is x)) (h2 : Y tb σ H (Is y)) (k : ∀ H1, Ex H H1 → D.nx ((σ.set i (some x)).set j (some y)) H1) : tPar i j (tCons ta (tCons tb tNil)) D σ H :=
  (ya_is2 h h2) H (Ex.refl H) _ fun vs H1 e hv => ⟨x, y, hv, k H1 e⟩
theorem qy_par {i j : Nat} (h : Y ta σ H (Is x)) (h2 : Y tb σ H (Is y)) (k : ∀ H1, Ex H H1 → tz D ((σ.set i (some x)).set j (some y)) H1) : tSeq (tPar i j (tCons ta (tCons tb tNil))) tz D σ H := sy_par (D := { D with nx := tz D }) h h2 k

/-! ### list comprehensions: which turns give, and what word each value has -/
def Sel (H : Hp) (P : Nat → VP) : List V → List Nat → Prop
  | [], [] => True
  | v :: vs, i :: is => P i v H ∧ Sel H P vs is
  | _, _ => False
theorem Sel.mono {P : Nat → VP} (m : ∀ i, Mono (P i)) {H H' : Hp} (e : Ex H H') : ∀ {vs : List V} {is : List Nat}, Sel H P vs is → Sel H' P vs is
  | [], [], _ => trivial
  | _ :: _, _ :: _, ⟨h, t⟩ => ⟨m _ _ _ _ e h, Sel.mono m e t⟩
  | [], _ :: _, h => h.elim
  | _ :: _, [], h => h.elim
theorem Sel.snoc {P : Nat → VP} {H : Hp} {v : V} {i : Nat} (hv : P i v H) : ∀ {vs : List V} {is : List Nat}, Sel H P vs is → Sel H P (vs ++ [v]) (is ++ [i])
  | [], [], _ => ⟨hv, trivial⟩
  | _ :: _, _ :: _, ⟨h, t⟩ => ⟨h, Sel.snoc hv t⟩
  | [], _ :: _, h => h.elim
  | _ :: _, [], h => h.elim
theorem Sel.len {P : Nat → VP} {H : Hp} : ∀ {vs : List V} {is : List Nat}, Sel H P vs is → vs.length = is.length
  | [], [], _ => rfl
  | _ :: _, _ :: _, ⟨_, t⟩ => congrArg (· + 1) (Sel.len t)
  | [], _ :: _, h => h.elim
  | _ :: _, [], h => h.elim
abbrev IsSel (n : Nat) (f : Nat → Bool) (P : Nat → VP) : VP := fun v H => ∃ a ys, v = .ref a ∧ H a = some (.lst ys) ∧ Sel H P ys ((List.range n).filter f)
def Cy (H : Hp) (f : Nat → Bool) (P : Nat → VP) (Dl : Addr) (i : Nat) (H' : Hp) : Prop := H Dl = none ∧ Ex H H' ∧ ∃ ys, H' Dl = some (.lst ys) ∧ Sel H' P ys ((List.range i).filter f)
/-- words of values and tuples: they leave a list aside -/
def Loc (P : VP) : Prop := ∀ v H a (ys zs : List V), H a = some (.lst ys) ∨ H a = none → P v H → P v (upd H a (.lst zs))
theorem loc_is {v : V} : Loc (Is v) := fun _ _ _ _ _ _ h => h
theorem loc_u {xs : List V} : Loc (IsU xs) := fun v H a ys zs hy ⟨b, e, h⟩ => ⟨b, e, by
  rw [upd_ne ?_]
  · exact h
  · intro z
    rw [z] at h
    rcases hy with q | q <;> rw [q] at h <;> cases h⟩
theorem loc_ex {α : Type} {P : α → VP} (h : ∀ x, Loc (P x)) : Loc (fun v H => ∃ x, P x v H) := fun v H a ys zs hy ⟨x, hx⟩ => ⟨x, h x v H a ys zs hy hx⟩
theorem Sel.loc {P : Nat → VP} {H : Hp} {a : Addr} {xs zs : List V} (loc : ∀ i, Loc (P i)) (h : H a = some (.lst xs)) : ∀ {vs : List V} {is : List Nat}, Sel H P vs is → Sel (upd H a (.lst zs)) P vs is
  | [], [], _ => trivial
  | _ :: _, _ :: _, ⟨q, t⟩ => ⟨loc _ _ _ _ _ _ (.inl h) q, Sel.loc loc h t⟩
  | [], _ :: _, q => q.elim
  | _ :: _, [], q => q.elim
/-- one turn -/
theorem cy_turn {f : Nat → Bool} {P : Nat → VP} {Dl : Addr} {i : Nat} {σ2 : L2.St} (p : Cy H f P Dl i H') (hi : i < 50000) (m : ∀ i, Mono (P i)) (loc : ∀ i, Loc (P i)) (ht : EvT t σ2 H (f i)) (he : f i = true → Y te σ2 H (P i)) :
    t σ2 H' fun b H3 => if b = true then te σ2 H3 fun y H4 => ∃ acc, H4 Dl = some (.lst acc) ∧ acc.length < sizeLine ∧ Cy H f P Dl (i + 1) (upd H4 Dl (.lst (acc ++ [y]))) else Cy H f P Dl (i + 1) H3 := by
  obtain ⟨p1, p2, ys, p3, p4⟩ := p
  have ln : ys.length ≤ i := by
    rw [p4.len]
    have := List.length_filter_le f (List.range i)
    rwa [List.length_range] at this
  refine ht H' p2 _ fun H3 e3 => ?_
  cases hf : f i with
  | true =>
    refine he hf H3 (p2.trans e3) _ fun y H4 e4 hy => ?_
    have h4 : H4 Dl = some (.lst ys) := e4 Dl _ (e3 Dl _ p3)
    refine ⟨ys, h4, Nat.lt_of_le_of_lt ln (Nat.lt_of_lt_of_le hi (by decide)), p1, Ex.mut ((p2.trans e3).trans e4) p1, ys ++ [y], upd_same, ?_⟩
    rw [List.range_succ, List.filter_append, List.filter_cons, if_pos hf]
    exact (Sel.mono m (e3.trans e4) p4).snoc hy |>.loc loc h4
  | false =>
    refine ⟨p1, p2.trans e3, ys, e3 Dl _ p3, ?_⟩
    rw [List.range_succ, List.filter_append, List.filter_cons, if_neg (by rw [hf]; decide)]
    show Sel H3 P ys ((List.range i).filter f ++ [])
    rw [List.append_nil]
    exact Sel.mono m e3 p4
theorem y_lcL {a : Addr} {xs : List V} {tl : TE} {j : Nat} {vs : List Nat} (f : Nat → Bool) (P : Nat → VP) (m : ∀ i, Mono (P i)) (loc : ∀ i, Loc (P i)) (h : Y tl σ H (IsLs xs)) (hz : xs.length ≤ 40000) (hw : ∀ x, wipe ((wipe σ vs).set j (some x)) vs = wipe σ vs)
    (ht : ∀ (i : Nat) (x : V) H1, Ex H H1 → xs[i]? = some x → EvT t ((wipe σ vs).set j (some x)) H1 (f i)) (he : ∀ (i : Nat) (x : V) H1, Ex H H1 → xs[i]? = some x → f i = true → Y te ((wipe σ vs).set j (some x)) H1 (P i)) :
    Y (tLc (iList K tl) (gName j) t te vs) σ H (IsSel xs.length f P) := fun H0 e Q q => h H0 e _ fun v H1 e1 ⟨a, ea, hx⟩ => ⟨a, ea, ⟨xs, sq_of hx⟩, fun Dl hD =>
  lc_list (xs := xs) (Cy H1 f P Dl) ⟨hD, Ex.new hD, [], upd_same, trivial⟩ (fun i H' _ p => sq_of (p.2.1 a _ hx)) (fun i x H' hi p => ⟨hw x, cy_turn p (by have := (List.getElem?_eq_some_iff.mp hi).1; omega) m loc (ht i x H1 (e.trans e1) hi) (fun hf => he i x H1 (e.trans e1) hi hf)⟩)
    (fun H' p => q _ H' (e1.trans p.2.1) (let ⟨ys, h1, h2⟩ := p.2.2; ⟨Dl, ys, rfl, h1, h2⟩))⟩
theorem y_lcT {xs : List V} {tl : TE} {j : Nat} {vs : List Nat} (f : Nat → Bool) (P : Nat → VP) (m : ∀ i, Mono (P i)) (loc : ∀ i, Loc (P i)) (h : Y tl σ H (IsU xs)) (hz : xs.length ≤ 40000) (hw : ∀ x, wipe ((wipe σ vs).set j (some x)) vs = wipe σ vs)
    (ht : ∀ (i : Nat) (x : V) H1, Ex H H1 → xs[i]? = some x → EvT t ((wipe σ vs).set j (some x)) H1 (f i)) (he : ∀ (i : Nat) (x : V) H1, Ex H H1 → xs[i]? = some x → f i = true → Y te ((wipe σ vs).set j (some x)) H1 (P i)) :
    Y (tLc (iTup K tl) (gName j) t te vs) σ H (IsSel xs.length f P) := fun H0 e Q q => h H0 e _ fun v H1 e1 ⟨a, ea, hx⟩ => ⟨a, ea, ⟨xs, st_of hx⟩, fun Dl hD =>
  lc_tup (xs := xs) (Cy H1 f P Dl) ⟨hD, Ex.new hD, [], upd_same, trivial⟩ (fun i H' _ p => st_of (p.2.1 a _ hx)) (fun i x H' hi p => ⟨hw x, cy_turn p (by have := (List.getElem?_eq_some_iff.mp hi).1; omega) m loc (ht i x H1 (e.trans e1) hi) (fun hf => he i x H1 (e.trans e1) hi hf)⟩)
    (fun H' p => q _ H' (e1.trans p.2.1) (let ⟨ys, h1, h2⟩ := p.2.2; ⟨Dl, ys, rfl, h1, h2⟩))⟩
theorem y_lcR {ta : TA} {j : Nat} {vs : List Nat} {n : Int} (f : Nat → Bool) (P : Nat → VP) (m : ∀ i, Mono (P i)) (loc : ∀ i, Loc (P i)) (h : Y ta' σ H (IsI n)) (hn : 0 ≤ n ∧ n ≤ 40000) (hw : ∀ x, wipe ((wipe σ vs).set j (some x)) vs = wipe σ vs)
    (ht : ∀ (i : Nat) H1, Ex H H1 → (i : Int) < n → EvT t ((wipe σ vs).set j (some (.int (i : Int)))) H1 (f i)) (he : ∀ (i : Nat) H1, Ex H H1 → (i : Int) < n → f i = true → Y te ((wipe σ vs).set j (some (.int (i : Int)))) H1 (P i)) :
    Y (tLc (iRng1 (tCons ta' tNil)) (gName j) t te vs) σ H (IsSel n.toNat f P) := by
  intro H0 e Q q
  unfold tLc iRng1
  refine (ya_is1 h) H0 e _ fun us H1 e1 eu => ⟨n, eu, by omega, by omega, fun Dl hD => ?_⟩
  exact lc_range (lo := 0) (n := n.toNat) (Cy H1 f P Dl) ⟨hD, Ex.new hD, [], upd_same, trivial⟩ (fun i H' hi p => by
    have e0 : (0 : Int) + (i : Int) = (i : Int) := Int.zero_add _
    show wipe ((wipe σ vs).set j (some (.int ((0 : Int) + (i : Int))))) vs = wipe σ vs ∧ t ((wipe σ vs).set j (some (.int ((0 : Int) + (i : Int))))) H' fun b H3 => if b = true then te ((wipe σ vs).set j (some (.int ((0 : Int) + (i : Int))))) H3 fun y H4 => ∃ acc, H4 Dl = some (.lst acc) ∧ acc.length < sizeLine ∧ Cy H1 f P Dl (i + 1) (upd H4 Dl (.lst (acc ++ [y]))) else Cy H1 f P Dl (i + 1) H3
    rw [e0]
    exact ⟨hw _, cy_turn p (by omega) m loc (ht i H1 (e.trans e1) (by omega)) (fun hf => he i H1 (e.trans e1) (by omega) hf)⟩)
    (fun H' p => q _ H' (e1.trans p.2.1) (let ⟨ys, h1, h2⟩ := p.2.2; ⟨Dl, ys, rfl, h1, h2⟩))
/-- zip of two lists, the target two names -/
theorem y_lcZ {xs ys : List V} {tl tl2 : TE} {j l : Nat} {vs : List Nat} (f : Nat → Bool) (P : Nat → VP) (m : ∀ i, Mono (P i)) (loc : ∀ i, Loc (P i)) (h : Y tl σ H (IsLs xs)) (h2 : Y tl2 σ H (IsLs ys)) (hz : ys.length ≤ xs.length) (hz2 : ys.length ≤ 40000) (hw : ∀ x y, wipe (((wipe σ vs).set j (some x)).set l (some y)) vs = wipe σ vs)
    (ht : ∀ (i : Nat) (x y : V) H1, Ex H H1 → xs[i]? = some x → ys[i]? = some y → EvT t (((wipe σ vs).set j (some x)).set l (some y)) H1 (f i)) (he : ∀ (i : Nat) (x y : V) H1, Ex H H1 → xs[i]? = some x → ys[i]? = some y → f i = true → Y te (((wipe σ vs).set j (some x)).set l (some y)) H1 (P i)) :
    Y (tLc (iZip K (tCons tl (tCons tl2 tNil))) (gTup K 2 (gCons (gName j) (gCons (gName l) gNil))) t te vs) σ H (IsSel ys.length f P) := by
  intro H0 e Q q
  unfold tLc iZip
  refine (ya2 mono_ls h h2) H0 e _ fun us H1 e1 ⟨v, w, eu, ⟨a, ea, hx⟩, ⟨b, eb, hy⟩⟩ => ⟨a, b, xs, ys, by rw [eu, ea, eb], sq_of hx, sq_of hy, fun Dl hD => ?_⟩
  refine ⟨fun i k H' => k = ys.length - i ∧ i ≤ ys.length ∧ Cy H1 f P Dl i H', ⟨ys.length, rfl, Nat.zero_le _, hD, Ex.new hD, [], upd_same, trivial⟩, ?_⟩
  rintro i k H' ⟨rfl, hi, p⟩
  have hA : SqL K H' a xs := sq_of (p.2.1 a _ hx)
  have hB : SqL K H' b ys := sq_of (p.2.1 b _ hy)
  by_cases lt : i < ys.length
  · have g1 : xs[i]? = some (xs[i]'(by omega)) := List.getElem?_eq_getElem _
    have g2 : ys[i]? = some ys[i] := List.getElem?_eq_getElem _
    refine .inr ⟨⟨xs, ys, _, _, hA, hB, g1, g2⟩, Cy H1 f P Dl (i + 1), fun H'' p' => ⟨ys.length - (i + 1), by omega, rfl, lt, p'⟩, fun x H'' hyl => ?_⟩
    obtain ⟨T, x1, x2, rfl, nT, rfl, f1, f2⟩ := hyl
    obtain rfl : x1 = _ := Option.some.inj ((f1 _ hA).symm.trans g1)
    obtain rfl : x2 = _ := Option.some.inj ((f2 _ hB).symm.trans g2)
    have p2 : Cy H1 f P Dl i (upd H' T (.tup [xs[i]'(by omega), ys[i]])) := by
      obtain ⟨c1, c2, zs, c3, c4⟩ := p
      exact ⟨c1, c2.trans (Ex.new nT), zs, Ex.new nT _ _ c3, Sel.mono m (Ex.new nT) c4⟩
    exact ⟨T, _, rfl, st_of upd_same, rfl, _, _, rfl, _, _, rfl, rfl, hw _ _, cy_turn p2 (by omega) m loc (ht i _ _ H1 (e.trans e1) g1 g2) fun hf => he i _ _ H1 (e.trans e1) g1 g2 hf⟩
  · have e3 : i = ys.length := by omega
    subst e3
    exact .inl ⟨⟨xs, ys, hA, hB, .inr (Nat.le_refl _)⟩, q _ H' (e1.trans p.2.1) (let ⟨zs, h1, h2⟩ := p.2.2; ⟨Dl, zs, rfl, h1, h2⟩)⟩
end
end TPy

namespace TPx
open PySem PySem.Spec PyProof.Rows L2 TPs TPy Evl
/-! The text: statements, names by slot, scopes. Printed by gen_defs.py. -/
def top (i : Nat) : Stmt := PySem.Challenge.pw_turnedpixels_k84_whole_pictures_by_sourc.main.body.getD i (.Pass ⟨0, 0, 0, 0⟩)
abbrev sis_integer : Stmt := top 9
abbrev Nis_integer : List Str := ["value"]
abbrev Pis_integer : List Str := ["value"]
theorem scis_integer : FnScope Nis_integer Pis_integer (defScope sis_integer) := ⟨rfl, rfl, rfl, by decide +kernel, rfl, by decide +kernel, by decide +kernel⟩
abbrev sare_integers : Stmt := top 10
abbrev Nare_integers : List Str := ["value", "many", "one"]
abbrev Pare_integers : List Str := ["value", "many"]
theorem scare_integers : FnScope Nare_integers Pare_integers (defScope sare_integers) := ⟨rfl, rfl, rfl, by decide +kernel, rfl, by decide +kernel, by decide +kernel⟩
abbrev scommon : Stmt := top 11
abbrev Ncommon : List Str := ["one", "other"]
abbrev Pcommon : List Str := ["one", "other"]
theorem sccommon : FnScope Ncommon Pcommon (defScope scommon) := ⟨rfl, rfl, rfl, by decide +kernel, rfl, by decide +kernel, by decide +kernel⟩
abbrev sis_pixel : Stmt := top 12
abbrev Nis_pixel : List Str := ["value"]
abbrev Pis_pixel : List Str := ["value"]
theorem scis_pixel : FnScope Nis_pixel Pis_pixel (defScope sis_pixel) := ⟨rfl, rfl, rfl, by decide +kernel, rfl, by decide +kernel, by decide +kernel⟩
abbrev sis_turn : Stmt := top 13
abbrev Nis_turn : List Str := ["value", "p", "q", "quarters"]
abbrev Pis_turn : List Str := ["value"]
theorem scis_turn : FnScope Nis_turn Pis_turn (defScope sis_turn) := ⟨rfl, rfl, rfl, by decide +kernel, rfl, by decide +kernel, by decide +kernel⟩
abbrev sneed_turn : Stmt := top 14
abbrev Nneed_turn : List Str := ["turn"]
abbrev Pneed_turn : List Str := ["turn"]
theorem scneed_turn : FnScope Nneed_turn Pneed_turn (defScope sneed_turn) := ⟨rfl, rfl, rfl, by decide +kernel, rfl, by decide +kernel, by decide +kernel⟩
abbrev sneed_pixel : Stmt := top 15
abbrev Nneed_pixel : List Str := ["pixel"]
abbrev Pneed_pixel : List Str := ["pixel"]
theorem scneed_pixel : FnScope Nneed_pixel Pneed_pixel (defScope sneed_pixel) := ⟨rfl, rfl, rfl, by decide +kernel, rfl, by decide +kernel, by decide +kernel⟩
abbrev sneed_pixels : Stmt := top 16
abbrev Nneed_pixels : List Str := ["pixels", "index", "pixel"]
abbrev Pneed_pixels : List Str := ["pixels"]
theorem scneed_pixels : FnScope Nneed_pixels Pneed_pixels (defScope sneed_pixels) := ⟨rfl, rfl, rfl, by decide +kernel, rfl, by decide +kernel, by decide +kernel⟩
abbrev sneed_turn_and_pixel : Stmt := top 17
abbrev Nneed_turn_and_pixel : List Str := ["turn", "pixel"]
abbrev Pneed_turn_and_pixel : List Str := ["turn", "pixel"]
theorem scneed_turn_and_pixel : FnScope Nneed_turn_and_pixel Pneed_turn_and_pixel (defScope sneed_turn_and_pixel) := ⟨rfl, rfl, rfl, by decide +kernel, rfl, by decide +kernel, by decide +kernel⟩
abbrev ssize_of : Stmt := top 18
abbrev Nsize_of : List Str := ["turn"]
abbrev Psize_of : List Str := ["turn"]
theorem scsize_of : FnScope Nsize_of Psize_of (defScope ssize_of) := ⟨rfl, rfl, rfl, by decide +kernel, rfl, by decide +kernel, by decide +kernel⟩
abbrev splain_legs : Stmt := top 19
abbrev Nplain_legs : List Str := ["turn", "p", "q"]
abbrev Pplain_legs : List Str := ["turn"]
theorem scplain_legs : FnScope Nplain_legs Pplain_legs (defScope splain_legs) := ⟨rfl, rfl, rfl, by decide +kernel, rfl, by decide +kernel, by decide +kernel⟩
abbrev squartered : Stmt := top 20
abbrev Nquartered : List Str := ["pixel", "times", "x", "y", "step"]
abbrev Pquartered : List Str := ["pixel", "times"]
theorem scquartered : FnScope Nquartered Pquartered (defScope squartered) := ⟨rfl, rfl, rfl, by decide +kernel, rfl, by decide +kernel, by decide +kernel⟩
abbrev snearest : Stmt := top 21
abbrev Nnearest : List Str := ["number", "bottom"]
abbrev Pnearest : List Str := ["number", "bottom"]
theorem scnearest : FnScope Nnearest Pnearest (defScope snearest) := ⟨rfl, rfl, rfl, by decide +kernel, rfl, by decide +kernel, by decide +kernel⟩
abbrev splain_place : Stmt := top 22
abbrev Nplain_place : List Str := ["turn", "pixel", "a", "b", "x", "y"]
abbrev Pplain_place : List Str := ["turn", "pixel"]
theorem scplain_place : FnScope Nplain_place Pplain_place (defScope splain_place) := ⟨rfl, rfl, rfl, by decide +kernel, rfl, by decide +kernel, by decide +kernel⟩
abbrev splain_image : Stmt := top 23
abbrev Nplain_image : List Str := ["turn", "pixel", "c", "part"]
abbrev Pplain_image : List Str := ["turn", "pixel"]
theorem scplain_image : FnScope Nplain_image Pplain_image (defScope splain_image) := ⟨rfl, rfl, rfl, by decide +kernel, rfl, by decide +kernel, by decide +kernel⟩
abbrev simage_in : Stmt := top 24
abbrev Nimage_in : List Str := ["turn", "pixel"]
abbrev Pimage_in : List Str := ["turn", "pixel"]
theorem scimage_in : FnScope Nimage_in Pimage_in (defScope simage_in) := ⟨rfl, rfl, rfl, by decide +kernel, rfl, by decide +kernel, by decide +kernel⟩
abbrev sback_of : Stmt := top 25
abbrev Nback_of : List Str := ["turn"]
abbrev Pback_of : List Str := ["turn"]
theorem scback_of : FnScope Nback_of Pback_of (defScope sback_of) := ⟨rfl, rfl, rfl, by decide +kernel, rfl, by decide +kernel, by decide +kernel⟩
abbrev sneighbours : Stmt := top 26
abbrev Nneighbours : List Str := ["pixel", "x", "y"]
abbrev Pneighbours : List Str := ["pixel"]
theorem scneighbours : FnScope Nneighbours Pneighbours (defScope sneighbours) := ⟨rfl, rfl, rfl, by decide +kernel, rfl, by decide +kernel, by decide +kernel⟩
abbrev simage : Stmt := top 27
abbrev Nimage : List Str := ["turn", "pixel"]
abbrev Pimage : List Str := ["turn", "pixel"]
theorem scimage : FnScope Nimage Pimage (defScope simage) := ⟨rfl, rfl, rfl, by decide +kernel, rfl, by decide +kernel, by decide +kernel⟩
abbrev sstepped : Stmt := top 29
abbrev Nstepped : List Str := ["step", "pixel", "word", "top", "bottom", "x", "y"]
abbrev Pstepped : List Str := ["step", "pixel"]
theorem scstepped : FnScope Nstepped Pstepped (defScope sstepped) := ⟨rfl, rfl, rfl, by decide +kernel, rfl, by decide +kernel, by decide +kernel⟩
abbrev safter_steps : Stmt := top 30
abbrev Nafter_steps : List Str := ["chain", "pixel", "step"]
abbrev Pafter_steps : List Str := ["chain", "pixel"]
theorem scafter_steps : FnScope Nafter_steps Pafter_steps (defScope safter_steps) := ⟨rfl, rfl, rfl, by decide +kernel, rfl, by decide +kernel, by decide +kernel⟩
abbrev stimes_u : Stmt := top 32
abbrev Ntimes_u : List Str := ["turn", "pixel", "p", "q", "x", "y"]
abbrev Ptimes_u : List Str := ["turn", "pixel"]
theorem sctimes_u : FnScope Ntimes_u Ptimes_u (defScope stimes_u) := ⟨rfl, rfl, rfl, by decide +kernel, rfl, by decide +kernel, by decide +kernel⟩
abbrev stimes_v : Stmt := top 33
abbrev Ntimes_v : List Str := ["turn", "pixel"]
abbrev Ptimes_v : List Str := ["turn", "pixel"]
theorem sctimes_v : FnScope Ntimes_v Ptimes_v (defScope stimes_v) := ⟨rfl, rfl, rfl, by decide +kernel, rfl, by decide +kernel, by decide +kernel⟩
abbrev srest_in : Stmt := top 34
abbrev Nrest_in : List Str := ["turn", "pixel", "one", "other"]
abbrev Prest_in : List Str := ["turn", "pixel"]
theorem screst_in : FnScope Nrest_in Prest_in (defScope srest_in) := ⟨rfl, rfl, rfl, by decide +kernel, rfl, by decide +kernel, by decide +kernel⟩
abbrev swithin : Stmt := top 35
abbrev Nwithin : List Str := ["turn", "pair", "half", "part"]
abbrev Pwithin : List Str := ["turn", "pair"]
theorem scwithin : FnScope Nwithin Pwithin (defScope swithin) := ⟨rfl, rfl, rfl, by decide +kernel, rfl, by decide +kernel, by decide +kernel⟩
abbrev sleads_back : Stmt := top 36
abbrev Nleads_back : List Str := ["turn", "rest"]
abbrev Pleads_back : List Str := ["turn", "rest"]
theorem scleads_back : FnScope Nleads_back Pleads_back (defScope sleads_back) := ⟨rfl, rfl, rfl, by decide +kernel, rfl, by decide +kernel, by decide +kernel⟩
abbrev sneed_order : Stmt := top 38
abbrev Nneed_order : List Str := ["order"]
abbrev Pneed_order : List Str := ["order"]
theorem scneed_order : FnScope Nneed_order Pneed_order (defScope sneed_order) := ⟨rfl, rfl, rfl, by decide +kernel, rfl, by decide +kernel, by decide +kernel⟩
abbrev sneed_sheared : Stmt := top 39
abbrev Nneed_sheared : List Str := ["turn", "order", "pixel"]
abbrev Pneed_sheared : List Str := ["turn", "order", "pixel"]
theorem scneed_sheared : FnScope Nneed_sheared Pneed_sheared (defScope sneed_sheared) := ⟨rfl, rfl, rfl, by decide +kernel, rfl, by decide +kernel, by decide +kernel⟩
abbrev schain_in : Stmt := top 40
abbrev Nchain_in : List Str := ["turn", "order", "p", "q", "b", "c"]
abbrev Pchain_in : List Str := ["turn", "order"]
theorem scchain_in : FnScope Nchain_in Pchain_in (defScope schain_in) := ⟨rfl, rfl, rfl, by decide +kernel, rfl, by decide +kernel, by decide +kernel⟩
abbrev sshear_chain : Stmt := top 41
abbrev Nshear_chain : List Str := ["turn", "order"]
abbrev Pshear_chain : List Str := ["turn", "order"]
theorem scshear_chain : FnScope Nshear_chain Pshear_chain (defScope sshear_chain) := ⟨rfl, rfl, rfl, by decide +kernel, rfl, by decide +kernel, by decide +kernel⟩
abbrev ssheared : Stmt := top 42
abbrev Nsheared : List Str := ["turn", "order", "pixel"]
abbrev Psheared : List Str := ["turn", "order", "pixel"]
theorem scsheared : FnScope Nsheared Psheared (defScope ssheared) := ⟨rfl, rfl, rfl, by decide +kernel, rfl, by decide +kernel, by decide +kernel⟩
abbrev ssources_in : Stmt := top 44
abbrev Nsources_in : List Str := ["turn", "pixel", "goal", "near", "one"]
abbrev Psources_in : List Str := ["turn", "pixel"]
theorem scsources_in : FnScope Nsources_in Psources_in (defScope ssources_in) := ⟨rfl, rfl, rfl, by decide +kernel, rfl, by decide +kernel, by decide +kernel⟩
abbrev smate_in : Stmt := top 45
abbrev Nmate_in : List Str := ["turn", "pixel", "goal", "mate"]
abbrev Pmate_in : List Str := ["turn", "pixel"]
theorem scmate_in : FnScope Nmate_in Pmate_in (defScope smate_in) := ⟨rfl, rfl, rfl, by decide +kernel, rfl, by decide +kernel, by decide +kernel⟩
abbrev scame_from : Stmt := top 46
abbrev Ncame_from : List Str := ["turn", "pixel"]
abbrev Pcame_from : List Str := ["turn", "pixel"]
theorem sccame_from : FnScope Ncame_from Pcame_from (defScope scame_from) := ⟨rfl, rfl, rfl, by decide +kernel, rfl, by decide +kernel, by decide +kernel⟩
abbrev sis_bare : Stmt := top 47
abbrev Nis_bare : List Str := ["turn", "pixel"]
abbrev Pis_bare : List Str := ["turn", "pixel"]
theorem scis_bare : FnScope Nis_bare Pis_bare (defScope sis_bare) := ⟨rfl, rfl, rfl, by decide +kernel, rfl, by decide +kernel, by decide +kernel⟩
abbrev scomes_back : Stmt := top 48
abbrev Ncomes_back : List Str := ["turn", "pixel"]
abbrev Pcomes_back : List Str := ["turn", "pixel"]
theorem sccomes_back : FnScope Ncomes_back Pcomes_back (defScope scomes_back) := ⟨rfl, rfl, rfl, by decide +kernel, rfl, by decide +kernel, by decide +kernel⟩
abbrev smeeting : Stmt := top 49
abbrev Nmeeting : List Str := ["turn", "pixel"]
abbrev Pmeeting : List Str := ["turn", "pixel"]
theorem scmeeting : FnScope Nmeeting Pmeeting (defScope smeeting) := ⟨rfl, rfl, rfl, by decide +kernel, rfl, by decide +kernel, by decide +kernel⟩
abbrev sneed_turn_and_picture : Stmt := top 51
abbrev Nneed_turn_and_picture : List Str := ["turn", "pixels"]
abbrev Pneed_turn_and_picture : List Str := ["turn", "pixels"]
theorem scneed_turn_and_picture : FnScope Nneed_turn_and_picture Pneed_turn_and_picture (defScope sneed_turn_and_picture) := ⟨rfl, rfl, rfl, by decide +kernel, rfl, by decide +kernel, by decide +kernel⟩
abbrev simages_of : Stmt := top 52
abbrev Nimages_of : List Str := ["turn", "pixels", "pixel"]
abbrev Pimages_of : List Str := ["turn", "pixels"]
theorem scimages_of : FnScope Nimages_of Pimages_of (defScope simages_of) := ⟨rfl, rfl, rfl, by decide +kernel, rfl, by decide +kernel, by decide +kernel⟩
abbrev sis_picture : Stmt := top 53
abbrev Nis_picture : List Str := ["value", "pixel", "one", "other"]
abbrev Pis_picture : List Str := ["value"]
theorem scis_picture : FnScope Nis_picture Pis_picture (defScope sis_picture) := ⟨rfl, rfl, rfl, by decide +kernel, rfl, by decide +kernel, by decide +kernel⟩
abbrev sturned_picture : Stmt := top 54
abbrev Nturned_picture : List Str := ["turn", "pixels"]
abbrev Pturned_picture : List Str := ["turn", "pixels"]
theorem scturned_picture : FnScope Nturned_picture Pturned_picture (defScope sturned_picture) := ⟨rfl, rfl, rfl, by decide +kernel, rfl, by decide +kernel, by decide +kernel⟩
abbrev slost_number : Stmt := top 55
abbrev Nlost_number : List Str := ["turn", "pixels"]
abbrev Plost_number : List Str := ["turn", "pixels"]
theorem sclost_number : FnScope Nlost_number Plost_number (defScope slost_number) := ⟨rfl, rfl, rfl, by decide +kernel, rfl, by decide +kernel, by decide +kernel⟩
abbrev smeetings_in : Stmt := top 56
abbrev Nmeetings_in : List Str := ["turn", "pixels", "first_with", "found", "pixel", "goal"]
abbrev Pmeetings_in : List Str := ["turn", "pixels"]
theorem scmeetings_in : FnScope Nmeetings_in Pmeetings_in (defScope smeetings_in) := ⟨rfl, rfl, rfl, by decide +kernel, rfl, by decide +kernel, by decide +kernel⟩
abbrev sgaps_in : Stmt := top 57
abbrev Ngaps_in : List Str := ["turn", "pixels", "hit", "found", "x", "y", "gap", "goal", "one"]
abbrev Pgaps_in : List Str := ["turn", "pixels"]
theorem scgaps_in : FnScope Ngaps_in Pgaps_in (defScope sgaps_in) := ⟨rfl, rfl, rfl, by decide +kernel, rfl, by decide +kernel, by decide +kernel⟩
abbrev sthere_and_back : Stmt := top 58
abbrev Nthere_and_back : List Str := ["turn", "pixels"]
abbrev Pthere_and_back : List Str := ["turn", "pixels"]
theorem scthere_and_back : FnScope Nthere_and_back Pthere_and_back (defScope sthere_and_back) := ⟨rfl, rfl, rfl, by decide +kernel, rfl, by decide +kernel, by decide +kernel⟩
abbrev ssheared_picture : Stmt := top 59
abbrev Nsheared_picture : List Str := ["turn", "order", "pixels", "pixel"]
abbrev Psheared_picture : List Str := ["turn", "order", "pixels"]
theorem scsheared_picture : FnScope Nsheared_picture Psheared_picture (defScope ssheared_picture) := ⟨rfl, rfl, rfl, by decide +kernel, rfl, by decide +kernel, by decide +kernel⟩
abbrev s_law_source : Stmt := top 61
abbrev N_law_source : List Str := ["_law_entry", "_law_k", "_law_great"]
abbrev P_law_source : List Str := ["_law_entry", "_law_k"]
theorem sc_law_source : FnScope N_law_source P_law_source (defScope s_law_source) := ⟨rfl, rfl, rfl, by decide +kernel, rfl, by decide +kernel, by decide +kernel⟩
abbrev s_law_draw : Stmt := top 62
abbrev N_law_draw : List Str := ["_law_source_here", "_law_count", "_law_digit", "_law_mixed"]
abbrev P_law_draw : List Str := ["_law_source_here", "_law_count"]
theorem sc_law_draw : FnScope N_law_draw P_law_draw (defScope s_law_draw) := ⟨rfl, rfl, rfl, by decide +kernel, rfl, by decide +kernel, by decide +kernel⟩
abbrev s_law_common : Stmt := top 63
abbrev N_law_common : List Str := ["_law_one", "_law_two"]
abbrev P_law_common : List Str := ["_law_one", "_law_two"]
theorem sc_law_common : FnScope N_law_common P_law_common (defScope s_law_common) := ⟨rfl, rfl, rfl, by decide +kernel, rfl, by decide +kernel, by decide +kernel⟩
abbrev s_law_spin : Stmt := top 64
abbrev N_law_spin : List Str := ["_law_source_here", "_law_most", "_law_p", "_law_sort", "_law_q"]
abbrev P_law_spin : List Str := ["_law_source_here", "_law_most"]
theorem sc_law_spin : FnScope N_law_spin P_law_spin (defScope s_law_spin) := ⟨rfl, rfl, rfl, by decide +kernel, rfl, by decide +kernel, by decide +kernel⟩
abbrev s_law_dot : Stmt := top 65
abbrev N_law_dot : List Str := ["_law_source_here", "_law_wide", "_law_spots", "_law_k"]
abbrev P_law_dot : List Str := ["_law_source_here", "_law_wide"]
theorem sc_law_dot : FnScope N_law_dot P_law_dot (defScope s_law_dot) := ⟨rfl, rfl, rfl, by decide +kernel, rfl, by decide +kernel, by decide +kernel⟩
abbrev s_law_lot : Stmt := top 66
abbrev N_law_lot : List Str := ["_law_source_here", "_law_wide", "_law_most", "_law_x", "_law_y", "_law_side", "_law_sort", "_law_found", "_law_k", "_law_some", "_law_far"]
abbrev P_law_lot : List Str := ["_law_source_here", "_law_wide", "_law_most"]
theorem sc_law_lot : FnScope N_law_lot P_law_lot (defScope s_law_lot) := ⟨rfl, rfl, rfl, by decide +kernel, rfl, by decide +kernel, by decide +kernel⟩
abbrev s_law_there : Stmt := top 67
abbrev N_law_there : List Str := ["_law_some", "_law_found", "_law_one"]
abbrev P_law_there : List Str := ["_law_some"]
theorem sc_law_there : FnScope N_law_there P_law_there (defScope s_law_there) := ⟨rfl, rfl, rfl, by decide +kernel, rfl, by decide +kernel, by decide +kernel⟩
abbrev s_law_images_right : Stmt := top 68
abbrev N_law_images_right : List Str := ["_law_spin_here", "_law_lot_here", "_law_told", "_law_there_here", "_law_goal", "_law_pairs", "_law_one", "_law_beside", "_law_met", "_law_dot_here"]
abbrev P_law_images_right : List Str := ["_law_spin_here", "_law_lot_here"]
theorem sc_law_images_right : FnScope N_law_images_right P_law_images_right (defScope s_law_images_right) := ⟨rfl, rfl, rfl, by decide +kernel, rfl, by decide +kernel, by decide +kernel⟩
abbrev s_law_right : Stmt := top 69
abbrev N_law_right : List Str := ["_law_source_here", "_law_spin_here", "_law_lot_here", "_law_told", "_law_x", "_law_y", "_law_around", "_law_again", "_law_kept", "_law_at", "_law_sort", "_law_parts", "_law_dot_here"]
abbrev P_law_right : List Str := ["_law_source_here", "_law_spin_here", "_law_lot_here"]
theorem sc_law_right : FnScope N_law_right P_law_right (defScope s_law_right) := ⟨rfl, rfl, rfl, by decide +kernel, rfl, by decide +kernel, by decide +kernel⟩
abbrev slaw : Stmt := top 70
abbrev Nlaw : List Str := ["_law_script", "_law_k", "_law_entry", "_law_source_here", "_law_turns_here", "_law_spin_here", "_law_wide", "_law_most"]
abbrev Plaw : List Str := ["_law_script"]
theorem sclaw : FnScope Nlaw Plaw (defScope slaw) := ⟨rfl, rfl, rfl, by decide +kernel, rfl, by decide +kernel, by decide +kernel⟩
/-! ### a def as it stands, a def that keeps its promise -/
def Df (K : PySem.W.Frag) (mg : Str → Option Value) (x : Str) (st : Stmt) : Prop := ∃ f fd, FunD K x x (defArgs st) (defBody st) (defScope st) [] [] f fd ∧ mg x = some (.ref f)
def Ok1 (P : Program) (w : World) (K : PySem.W.Frag) (mg : Str → Option Value) (base : Heap) (L : Nat) (x : Str) (ps : List Str) (sp : Sp) : Prop :=
  ∃ f fd, FnOk P w K mg base CX0 L f fd ps sp ∧ mg x = some (.ref f) ∧ PySem.W.keepIn K (.ref f) = true ∧ Binds K fd ps []
/-- what the top says of the built-ins and of the two constants -/
structure Bl (mg : Str → Option Value) : Prop where
  m_isinstance : mg "isinstance" = none
  m_int : mg "int" = none
  m_bool : mg "bool" = none
  m_tuple : mg "tuple" = none
  m_len : mg "len" = none
  m_all : mg "all" = none
  m_abs : mg "abs" = none
  m_range : mg "range" = none
  m_list : mg "list" = none
  m_enumerate : mg "enumerate" = none
  m_sorted : mg "sorted" = none
  m_zip : mg "zip" = none
  m_str : mg "str" = none
  m_max : mg "max" = none
  m_min : mg "min" = none
  m_set : mg "set" = none
  i_MOST_P : ∃ t, mg "MOST_P" = some (.int 1000000000000000 t)
  i_MOST_PIXELS : ∃ t, mg "MOST_PIXELS" = some (.int 400 t)
section
variable {P : Program} {w : World} {K : PySem.W.Frag} {mg : Str → Option Value} {base : Heap}
theorem mk0 {x : Str} {st : Stmt} {N ps : List Str} {k : Nat} {sp : Sp} (D : Df K mg x st) (S : FnScope N ps (defScope st)) (len : ∀ vs H Q E, sp vs H Q E → vs.length = ps.length)
    (hb : ∀ (kV doc pm : Value) (an : Option Addr) (cdv ct : Value) (us : List Value), us.length = ps.length → bindArgs (PySem.W.fnOf x x (defArgs st) (defBody st) (defScope st) .none kV doc pm an cdv ct) ⟨us, []⟩ = pure (ps.zip us))
    (hbody : ∀ (f : Addr) (cdv : Value) (A : Around) (outer : List Env) (s : Shared) (H : Hp) (vs : List V) (Q : VK) (E : XK), Room k (A.deeper (envOfC x (defScope st) s.heap.objs.size f cdv)) → sp vs H Q E →
      ∃ t, PSs (cxOf CX0 P w K mg base N x (defScope st) f cdv A outer s H E).nox (defBody st) t ∧ t { nx := fun _ H' => Q .non H', rt := Q } (start N vs) H) : Ok1 P w K mg base (k + 1) x ps sp := by
  obtain ⟨f, fd, F, hm⟩ := D
  refine ⟨f, fd, F.ok S len fun cdv A outer s H vs Q E hr h => ?_, hm, F.kp, F.bindsN hb⟩
  obtain ⟨t, h1, h2⟩ := hbody f cdv A outer s H vs Q E hr h
  exact ⟨t, h1.nox, h2⟩
theorem mk1 {x : Str} {st : Stmt} {N ps : List Str} {k : Nat} {α : Type} {Pre : α → List V → Hp → Prop} {Post : α → VP} (D : Df K mg x st) (S : FnScope N ps (defScope st)) (len : ∀ a vs H, Pre a vs H → vs.length = ps.length)
    (hb : ∀ (kV doc pm : Value) (an : Option Addr) (cdv ct : Value) (us : List Value), us.length = ps.length → bindArgs (PySem.W.fnOf x x (defArgs st) (defBody st) (defScope st) .none kV doc pm an cdv ct) ⟨us, []⟩ = pure (ps.zip us))
    (hbody : ∀ (f : Addr) (cdv : Value) (A : Around) (outer : List Env) (s : Shared) (H : Hp) (vs : List V) (Q : VK) (E : XK), Room k (A.deeper (envOfC x (defScope st) s.heap.objs.size f cdv)) → ∀ a : α, Pre a vs H → (∀ v H', Ex H H' → Post a v H' → Q v H') →
      ∃ t, PSs (cxOf CX0 P w K mg base N x (defScope st) f cdv A outer s H E).nox (defBody st) t ∧ t { nx := fun _ H' => Q .non H', rt := Q } (start N vs) H) : Ok1 P w K mg base (k + 1) x ps (spF Pre Post) :=
  mk0 D S (fun vs H Q E ⟨a, p, _⟩ => len a vs H p) hb fun f cdv A outer s H vs Q E hr ⟨a, p, q⟩ => hbody f cdv A outer s H vs Q E hr a p q
end
theorem pe_fn {X : Cx} {k : Nat} {x : Str} {ps : List Str} {sp : Sp} {p pos : Pos} {e : Expr} {es : List Expr} {t : TA} (G : Ok1 X.prog X.w X.K X.mg X.base k x ps sp) (hr : Room k X.A) (hg : Gl X x) (ha : PA X (e :: es) t) (hdb : (x == ("__debug__" : Str)) = false := by decide)
    (he : starEach (e :: es) X.env = (false, eval e X.env) :: starEach es X.env := by rfl) (hpl : (backTo pos (starEach es X.env)).any (·.1) = false := by rfl) : PE X (.Call (.Name x p) (e :: es) [] pos) (tCall sp [] E0 t) := by
  obtain ⟨f, fd, F, hm, hk, hb⟩ := G
  exact pe_call F hr hg hm hk hb .nil pass0 ha hdb he hpl
end TPx

/-! The defs of turns, pixels, images: what each promises, and why it keeps it. -/
namespace TPy
open PySem PySem.Spec PyProof.Rows L2 Evl
open TPs hiding Px
section
variable {K : PySem.W.Frag} {σ : L2.St} {H H' : Hp} {ta tb te tc : TE} {t u : TT} {x y v : V} {P : VP}
theorem IsU.mo {xs : List V} (h : IsU xs v H) (e : Ex H H') : IsU xs v H' := mono_u _ _ _ e h
theorem IsPs.mo {zs : List Px} (h : IsPs zs v H) (e : Ex H H') : IsPs zs v H' := mono_ps _ _ _ e h
theorem et_yes : EvT tYes σ H true := fun H1 _ Q q => q H1 (Ex.refl H1)
theorem ev_of (h : Y te σ H (Is v)) : Ev te σ H v := fun H1 e Q q => h H1 e Q fun u H2 e2 p => by rw [show u = v from p]; exact q H2 e2
theorem ea_of {xs : List V} {ta : TA} (h : YA ta σ H (fun vs _ => vs = xs)) : EvA ta σ H xs := fun H1 e Q q => h H1 e Q fun u H2 e2 p => by rw [show u = xs from p]; exact q H2 e2
theorem y_abs {i : Int} (h : Y te σ H (IsI i)) : Y (tCB (fun xs H Q => ∃ i, xs = [.int i] ∧ Q (.int (if i < 0 then -i else i)) H) (tCons te tNil)) σ H (IsI (TPm.absI i)) :=
  y_cb (ya_is1 h) fun vs H1 _ ev Q q => ⟨i, ev, q _ H1 (Ex.refl H1) rfl⟩
theorem y_lenT {xs : List V} (h : Y te σ H (IsU xs)) : Y (tCB (rLenS K) (tCons te tNil)) σ H (IsI (xs.length : Int)) :=
  y_cb (ya1 h) fun vs H1 _ ⟨v, ev, a, e, h⟩ Q q => ⟨a, xs, by rw [ev, e], .inr (st_of h), q _ H1 (Ex.refl H1) rfl⟩
theorem y_lenL {xs : List V} (h : Y te σ H (IsLs xs)) : Y (tCB (rLenS K) (tCons te tNil)) σ H (IsI (xs.length : Int)) :=
  y_cb (ya1 h) fun vs H1 _ ⟨v, ev, a, e, h⟩ Q q => ⟨a, xs, by rw [ev, e], .inl (sq_of h), q _ H1 (Ex.refl H1) rfl⟩
theorem y_lenP {zs : List Px} (h : Y te σ H (IsPs zs)) : Y (tCB (rLenS K) (tCons te tNil)) σ H (IsI (zs.length : Int)) :=
  y_cb (ya1 h) fun vs H1 _ ⟨v, ev, a, xs, e, h, p⟩ Q q => ⟨a, xs, by rw [ev, e], .inl (sq_of h), q _ H1 (Ex.refl H1) (by rw [p.len]; rfl)⟩
theorem sel_bools {b : Nat → Bool} : ∀ {ys : List V} {is : List Nat}, Sel H (fun i => IsB (b i)) ys is → ys = (is.map b).map V.bl
  | [], [], _ => rfl
  | v :: _, i :: _, ⟨h, t⟩ => by rw [sel_bools t, show v = .bl (b i) from h]; rfl
  | [], _ :: _, h => h.elim
  | _ :: _, [], h => h.elim
theorem filter_yes (n : Nat) : (List.range n).filter (fun _ => true) = List.range n := List.filter_eq_self.mpr fun _ _ => rfl
theorem y_all {n : Nat} {b : Nat → Bool} (h : Y te σ H (IsSel n (fun _ => true) fun i => IsB (b i))) : Y (tCB (rAll K) (tCons te tNil)) σ H (IsB ((List.range n).all b)) :=
  y_cb (ya1 h) fun vs H1 _ ⟨v, ev, a, ys, e, hy, hs⟩ Q q => by
    have e1 := sel_bools hs
    rw [filter_yes] at e1
    exact ⟨a, (List.range n).map b, by rw [ev, e], sq_of (by rw [← e1]; exact hy), q _ H1 (Ex.refl H1) (by rw [List.all_map]; rfl)⟩
/-- isinstance -/
theorem y_isi {T : String} {b : Bool} {t : Value} (m : Mono P) (h : Y te σ H P) (ty : ∀ v H1, P v H1 → TyX K H1 v t) (hk : PySem.W.kitOne K t (.type T) = some b) : Y (tCB (rIsi K) (tCons te (tCons (tC (.ty T)) tNil))) σ H (IsB b) :=
  y_cb (ya2 m h y_c) fun vs H1 _ ⟨v, w, ev, hv, hw⟩ Q q => ⟨v, .ty T, t, .type T, b, by rw [ev, show w = .ty T from hw], .ty T, ty v H1 hv, hk, q _ H1 (Ex.refl H1) rfl⟩
theorem cut2 (x y : V) (r : List V) : cutV (x :: y :: r) none (some 2) = [x, y] := by
  unfold cutV HT.sIx
  simp
end
end TPy
namespace TPx
open PySem PySem.Spec PyProof.Rows L2 TPy Evl
open TPs hiding Px
section
variable {P : Program} {w : World} {K : PySem.W.Frag} {mg : Str → Option Value} {base : Heap}
abbrev spis_integer : Sp := spF (fun (i : Int) vs _ => vs = [.int i]) fun _ => IsB true
theorem lenis_integer : ∀ (i : Int) (vs : List V) (_ : Hp), vs = [.int i] → vs.length = Pis_integer.length := fun _ _ _ h => by rw [h]; rfl
theorem okis_integer (T : Bl mg) (D : Df K mg "is_integer" sis_integer) : Ok1 P w K mg base 1 "is_integer" Pis_integer spis_integer := by
  refine mk1 (k := 0) D scis_integer (lenis_integer) (fun _ _ _ _ _ _ us hl => match us, hl with | [_], _ => rfl) fun f cdv A outer s H vs Q E hr a pre kq => ⟨_, (pss_one (ps_ret (pe_and (pe_callB call_isi (by rfl) T.m_isinstance (by decide +kernel) (pa_cons (pv 0) (pa_cons (pe_bltn (v := .ty "int") (by rfl) T.m_int (by decide +kernel) rfl) pa_nil))) (pe_one (pe_not (pe_callB call_isi (by rfl) T.m_isinstance (by decide +kernel) (pa_cons (pv 0) (pa_cons (pe_bltn (v := .ty "bool") (by rfl) T.m_bool (by decide +kernel) rfl) pa_nil)))))))), ?_⟩
  subst pre
  exact sy_ret (P := IsB true) ((y_and (y_isi (b := true) mono_is (y_vI rfl) (fun v _ e => by rw [show v = _ from e]; exact .base (.int _)) rfl) fun _ => y_not (y_isi (b := false) mono_is (y_vI rfl) (fun v _ e => by rw [show v = _ from e]; exact .base (.int _)) rfl)).val rfl) kq
abbrev spare_integers : Sp := spF (fun (is : List Int) vs H => ∃ v, vs = [v, .int is.length] ∧ IsU (is.map V.int) v H ∧ is.length ≤ 1000) fun _ => IsB true
theorem lenare_integers : ∀ (is : List Int) (vs : List V) (H : Hp), (∃ v, vs = [v, .int is.length] ∧ IsU (is.map V.int) v H ∧ is.length ≤ 1000) → vs.length = Pare_integers.length := fun _ _ _ ⟨_, h, _⟩ => by rw [h]; rfl
theorem okare_integers (T : Bl mg) (D : Df K mg "are_integers" sare_integers) (Gis_integer : Ok1 P w K mg base 1 "is_integer" Pis_integer spis_integer) : Ok1 P w K mg base 2 "are_integers" Pare_integers spare_integers := by
  refine mk1 (k := 1) D scare_integers (lenare_integers) (fun _ _ _ _ _ _ us hl => match us, hl with | [_, _], _ => rfl) fun f cdv A outer s H vs Q E hr a pre kq => ⟨_, (pss_one (ps_ret (pe_and (pe_callB call_isi (by rfl) T.m_isinstance (by decide +kernel) (pa_cons (pv 0) (pa_cons (pe_bltn (v := .ty "tuple") (by rfl) T.m_tuple (by decide +kernel) rfl) pa_nil))) (pe_and (pe_cmpR op_eq (pe_callB call_len_seq (by rfl) T.m_len (by decide +kernel) (pa_cons (pv 0) pa_nil)) (pv 1) (nomark _)) (pe_one (pe_callB (cr_all rfl) (by rfl) T.m_all (by decide +kernel) (pa_cons (pe_lc (own := [("one", 2)]) (by rfl) scare_integers.nd (pi_tup (pv 0)) (blkOk_by (own := [("one", 2)]) (N := Nare_integers) (sc := defScope sare_integers) (by decide +kernel)) (fun _ _ _ _ _ => (pg_name (i := 2) scare_integers.nd rfl (Or.inl rfl))) (fun _ _ _ _ _ => pts_nil) (fun _ _ _ _ _ => (pe_fn Gis_integer (hr.mono (by decide)) (by rfl) (pa_cons (pv 2) pa_nil)))) pa_nil))))))), ?_⟩
  obtain ⟨v, rfl, hv, hl⟩ := pre
  refine sy_ret (P := IsB true) ((y_and (y_isi (b := true) mono_u (y_var rfl hv mono_u) (fun v _ ⟨a, e, h⟩ => by rw [e]; exact .base (.tup h)) rfl) fun _ => y_and (y_eq rfl (y_lenT (y_var rfl hv mono_u)) (y_vI rfl)) fun _ =>
    y_all (n := (a.map V.int).length) (b := fun _ => true) (y_lcT (fun _ => true) _ (fun _ => mono_is) (fun _ => loc_is) (y_var rfl hv mono_u) (by rw [List.length_map]; omega) (fun _ => rfl) (fun _ _ _ _ _ => et_yes) fun i x H1 e hx _ => ?_)).val ?_) kq
  · rw [List.getElem?_map] at hx
    cases hi : a[i]? with
    | none => rw [hi] at hx; cases hx
    | some j =>
      rw [hi] at hx
      cases hx
      exact y_call j (ya_is1 (y_vI rfl)) (fun _ _ _ h => h) fun _ _ _ h => h
  · rw [List.length_map]
    simp
theorem natabs_eq (i : Int) : TPm.absI i = (i.natAbs : Int) := by unfold TPm.absI; omega
abbrev spcommon : Sp := spF (fun (a : Int × Int) vs _ => vs = [.int a.1, .int a.2]) fun a => IsI (Int.gcd a.1 a.2 : Int)
theorem lencommon : ∀ (a : Int × Int) (vs : List V) (_ : Hp), vs = [.int a.1, .int a.2] → vs.length = Pcommon.length := fun _ _ _ h => by rw [h]; rfl
theorem okcommon (T : Bl mg) (D : Df K mg "common" scommon) : Ok1 P w K mg base 1 "common" Pcommon spcommon := by
  refine mk1 (k := 0) D sccommon (lencommon) (fun _ _ _ _ _ _ us hl => match us, hl with | [_, _], _ => rfl) fun f cdv A outer s H vs Q E hr a pre kq => ⟨_, (pss_cons (ps_par (i := 0) (j := 1) (by rfl) sccommon.nd rfl rfl (by decide) rfl rfl (pa_cons (pe_callB call_abs (by rfl) T.m_abs (by decide +kernel) (pa_cons (pv 0) pa_nil)) (pa_cons (pe_callB call_abs (by rfl) T.m_abs (by decide +kernel) (pa_cons (pv 1) pa_nil)) pa_nil)) (by rfl))
      (pss_cons (ps_while PassesOwn.never (pt_cmpR op_gt (pv 1) pe_int (nomark _)) (pss_one (ps_par (i := 0) (j := 1) (by rfl) sccommon.nd rfl rfl (by decide) rfl rfl (pa_cons (pv 1) (pa_cons (pe_op op_mod (pv 0) (pv 1)) pa_nil)) (by rfl))))
      (pss_one (ps_ret (pv 0))))), ?_⟩
  subst pre
  refine qy_par (y_abs (y_vI rfl)) (y_abs (y_vI rfl)) fun H1 e1 => ?_
  refine q_while (fun m σ' H' => ∃ c d : Nat, σ' = [some (.int c), some (.int d)] ∧ m = d ∧ Nat.gcd c d = Int.gcd a.1 a.2 ∧ Ex H H') _ ⟨a.1.natAbs, a.2.natAbs, by rw [← natabs_eq, ← natabs_eq]; rfl, rfl, rfl, e1⟩ ?_
  rintro m σ' H2 ⟨c, d, rfl, rfl, hg, e2⟩
  refine ⟨decide (0 < (m : Int)), yt_test (y_i0 (y_vI rfl) y_c), fun hb H3 e3 => ?_, fun hb H3 e3 => ?_⟩
  · have hm : 0 < m := by have := of_decide_eq_true hb; omega
    refine ⟨fun σ2 H4 => ∃ c d : Nat, σ2 = [some (.int c), some (.int d)] ∧ d < m ∧ Nat.gcd c d = Int.gcd a.1 a.2 ∧ Ex H H4, fun σ2 H4 ⟨c, d, h1, h2, h3, h4⟩ => ⟨d, h2, c, d, h1, rfl, h3, h4⟩, ?_⟩
    exact sy_par (y_vI rfl) (y_i (by omega) (y_vI rfl) (y_vI rfl)) fun H4 e4 => ⟨m, c % m, rfl, Nat.mod_lt _ hm, by rw [← hg, Nat.gcd_comm c m, Nat.gcd_rec m c, Nat.gcd_comm], (e2.trans e3).trans e4⟩
  · have hm : m = 0 := by have := of_decide_eq_false hb; omega
    subst hm
    rw [Nat.gcd_zero_right] at hg
    exact sy_ret (y_vI rfl) fun v H4 e4 p => kq v H4 ((e2.trans e3).trans e4) (by rw [← hg]; exact p)
abbrev spis_pixel : Sp := spF (fun (z : Px) vs H => ∃ v, vs = [v] ∧ IsP z v H) fun _ => IsB true
theorem lenis_pixel : ∀ (z : Px) (vs : List V) (H : Hp), (∃ v, vs = [v] ∧ IsP z v H) → vs.length = Pis_pixel.length := fun _ _ _ ⟨_, h, _⟩ => by rw [h]; rfl
theorem okis_pixel (T : Bl mg) (D : Df K mg "is_pixel" sis_pixel) (Gare_integers : Ok1 P w K mg base 2 "are_integers" Pare_integers spare_integers) : Ok1 P w K mg base 3 "is_pixel" Pis_pixel spis_pixel := by
  refine mk1 (k := 2) D scis_pixel (lenis_pixel) (fun _ _ _ _ _ _ us hl => match us, hl with | [_], _ => rfl) fun f cdv A outer s H vs Q E hr a pre kq => ⟨_, (pss_one (ps_ret (pe_fn Gare_integers (hr.mono (by decide)) (by rfl) (pa_cons (pv 0) (pa_cons pe_int pa_nil))))), ?_⟩
  obtain ⟨v, rfl, hv⟩ := pre
  exact sy_ret (y_call [a.1, a.2] (ya2 mono_u (y_var rfl hv mono_u) y_c) (fun vs H1 _ ⟨v, w, e, h1, h2⟩ => ⟨v, by rw [e, show w = _ from h2]; rfl, h1, by show 2 ≤ 1000; decide⟩) fun _ _ _ h => h) kq
abbrev T3 := Int × Int × Int
abbrev tvT (t : T3) : List V := [.int t.1, .int t.2.1, .int t.2.2]
structure Turn (t : T3) : Prop where
  lo : -t.1 < t.2.1
  hi : t.2.1 < t.1
  mx : t.1 ≤ 1000000000000000
  k0 : 0 ≤ t.2.2
  k3 : t.2.2 ≤ 3
  odd : (t.1 + t.2.1) % 2 = 1
  gcd : Int.gcd t.1 t.2.1 = 1
theorem Turn.ok {t : T3} (h : Turn t) : TPm.Ok t.1 t.2.1 := ⟨by have := h.lo; have := h.hi; omega, h.lo, h.hi, h.odd⟩
abbrev PreT (t : T3) (vs : List V) (H : Hp) : Prop := ∃ v, vs = [v] ∧ IsU (tvT t) v H ∧ Turn t
abbrev spis_turn : Sp := spF PreT fun _ => IsB true
theorem lenis_turn : ∀ (t : T3) (vs : List V) (H : Hp), PreT t vs H → vs.length = Pis_turn.length := fun _ _ _ ⟨_, h, _⟩ => by rw [h]; rfl
theorem okis_turn (T : Bl mg) (D : Df K mg "is_turn" sis_turn) (Gare_integers : Ok1 P w K mg base 2 "are_integers" Pare_integers spare_integers) (Gcommon : Ok1 P w K mg base 1 "common" Pcommon spcommon) : Ok1 P w K mg base 3 "is_turn" Pis_turn spis_turn := by
  refine mk1 (k := 2) D scis_turn (lenis_turn) (fun _ _ _ _ _ _ us hl => match us, hl with | [_], _ => rfl) fun f cdv A outer s H vs Q E hr a pre kq => ⟨_, (pss_cons (ps_if (pt_not (pt_val (pe_fn Gare_integers (hr.mono (by decide)) (by rfl) (pa_cons (pv 0) (pa_cons pe_int pa_nil))))) (pss_one (ps_ret pe_bl)) pss_nil)
      (pss_cons (ps_asg (pv 0) (pg_tup (by rfl) (pgs_cons (pg_name (i := 1) scis_turn.nd rfl (Or.inl rfl)) (pgs_cons (pg_name (i := 2) scis_turn.nd rfl (Or.inl rfl)) (pgs_cons (pg_name (i := 3) scis_turn.nd rfl (Or.inl rfl)) pgs_nil)))))
      (pss_one (ps_ret (pe_and (pe_chain op_lt op_le (pe_callB call_abs (by rfl) T.m_abs (by decide +kernel) (pa_cons (pv 2) pa_nil)) (pv 1) (pe_glob (v := .int 1000000000000000) (by rfl) T.i_MOST_P.choose_spec ⟨_, rfl⟩)) (pe_and (pe_chain op_le op_le pe_int (pv 3) pe_int) (pe_and (pe_cmpR op_eq (pe_op op_mod (pe_op op_add (pv 1) (pv 2)) pe_int) pe_int (nomark _)) (pe_one (pe_cmpR op_eq (pe_fn Gcommon (hr.mono (by decide)) (by rfl) (pa_cons (pv 1) (pa_cons (pv 2) pa_nil))) pe_int (nomark _)))))))))), ?_⟩
  obtain ⟨v, rfl, hv, ht⟩ := pre
  refine q_when (b := false) (et_not (a := true) (yt_test (y_call [a.1, a.2.1, a.2.2] (ya2 mono_u (y_var rfl hv mono_u) y_c) (fun vs H1 _ ⟨v, w, e, h1, h2⟩ => ⟨v, by rw [e, show w = _ from h2]; rfl, h1, by show 3 ≤ 1000; decide⟩) fun _ _ _ h => h))) (fun z => nomatch z) fun _ H1 e1 => ?_
  refine qy_un3 (y_var rfl (hv.mo e1) mono_u) fun H2 e2 => ?_
  have c1 : TPm.absI a.2.1 < a.1 := by have := ht.lo; have := ht.hi; unfold TPm.absI; omega
  refine sy_ret (P := IsB true) ((y_and (y_chain (b := true) (b' := true) (by rw [decide_eq_true c1]) (by rw [decide_eq_true ht.mx]) (y_abs (y_vI rfl)) (y_vI rfl) y_c) fun _ =>
    y_and (y_chain (b := true) (b' := true) (by rw [decide_eq_true ht.k0]) (by rw [decide_eq_true ht.k3]) y_c (y_vI rfl) y_c) fun _ =>
    y_and (y_eq rfl (y_i (by decide) (y_i0 (y_vI rfl) (y_vI rfl)) y_c) y_c) fun _ => y_eq (x := .int (Int.gcd a.1 a.2.1 : Int)) rfl (y_call (a.1, a.2.1) (ya_is2 (y_vI rfl) (y_vI rfl)) (fun _ _ _ h => h) fun _ _ _ h => h) y_c).val ?_) fun v H3 e3 p => kq v H3 ((e1.trans e2).trans e3) p
  rw [ht.odd, ht.gcd]
  rfl
abbrev spneed_turn : Sp := spF PreT fun _ => Is .non
theorem lenneed_turn : ∀ (t : T3) (vs : List V) (H : Hp), PreT t vs H → vs.length = Pneed_turn.length := fun _ _ _ ⟨_, h, _⟩ => by rw [h]; rfl
theorem okneed_turn (T : Bl mg) (D : Df K mg "need_turn" sneed_turn) (Gis_turn : Ok1 P w K mg base 3 "is_turn" Pis_turn spis_turn) : Ok1 P w K mg base 4 "need_turn" Pneed_turn spneed_turn := by
  refine mk1 (k := 3) D scneed_turn (lenneed_turn) (fun _ _ _ _ _ _ us hl => match us, hl with | [_], _ => rfl) fun f cdv A outer s H vs Q E hr a pre kq => ⟨_, (pss_one (ps_if (pt_not (pt_val (pe_fn Gis_turn (hr.mono (by decide)) (by rfl) (pa_cons (pv 0) pa_nil)))) (pss_one ps_never) pss_nil)), ?_⟩
  obtain ⟨v, rfl, hv, ht⟩ := pre
  exact s_when (b := false) (et_not (a := true) (yt_test (y_call a (ya1 (y_var rfl hv mono_u)) (fun vs H1 _ ⟨v, e, h1⟩ => ⟨v, e, h1, ht⟩) fun _ _ _ h => h))) (fun z => nomatch z) fun _ H1 e1 => kq _ _ e1 rfl
abbrev spneed_pixel : Sp := spF (fun (z : Px) vs H => ∃ v, vs = [v] ∧ IsP z v H) fun _ => Is .non
theorem lenneed_pixel : ∀ (z : Px) (vs : List V) (H : Hp), (∃ v, vs = [v] ∧ IsP z v H) → vs.length = Pneed_pixel.length := fun _ _ _ ⟨_, h, _⟩ => by rw [h]; rfl
theorem okneed_pixel (T : Bl mg) (D : Df K mg "need_pixel" sneed_pixel) (Gis_pixel : Ok1 P w K mg base 3 "is_pixel" Pis_pixel spis_pixel) : Ok1 P w K mg base 4 "need_pixel" Pneed_pixel spneed_pixel := by
  refine mk1 (k := 3) D scneed_pixel (lenneed_pixel) (fun _ _ _ _ _ _ us hl => match us, hl with | [_], _ => rfl) fun f cdv A outer s H vs Q E hr a pre kq => ⟨_, (pss_one (ps_if (pt_not (pt_val (pe_fn Gis_pixel (hr.mono (by decide)) (by rfl) (pa_cons (pv 0) pa_nil)))) (pss_one ps_never) pss_nil)), ?_⟩
  obtain ⟨v, rfl, hv⟩ := pre
  exact s_when (b := false) (et_not (a := true) (yt_test (y_call a (ya1 (y_var rfl hv mono_u)) (fun vs H1 _ h => h) fun _ _ _ h => h))) (fun z => nomatch z) fun _ H1 e1 => kq _ _ e1 rfl
abbrev PreTP (a : T3 × Px) (vs : List V) (H : Hp) : Prop := ∃ v u, vs = [v, u] ∧ IsU (tvT a.1) v H ∧ Turn a.1 ∧ IsP a.2 u H
abbrev spneed_turn_and_pixel : Sp := spF PreTP fun _ => Is .non
theorem lenneed_turn_and_pixel : ∀ (t : T3 × Px) (vs : List V) (H : Hp), PreTP t vs H → vs.length = Pneed_turn_and_pixel.length := fun _ _ _ ⟨_, _, h, _⟩ => by rw [h]; rfl
theorem okneed_turn_and_pixel (T : Bl mg) (D : Df K mg "need_turn_and_pixel" sneed_turn_and_pixel) (Gneed_turn : Ok1 P w K mg base 4 "need_turn" Pneed_turn spneed_turn) (Gneed_pixel : Ok1 P w K mg base 4 "need_pixel" Pneed_pixel spneed_pixel) : Ok1 P w K mg base 5 "need_turn_and_pixel" Pneed_turn_and_pixel spneed_turn_and_pixel := by
  refine mk1 (k := 4) D scneed_turn_and_pixel (lenneed_turn_and_pixel) (fun _ _ _ _ _ _ us hl => match us, hl with | [_, _], _ => rfl) fun f cdv A outer s H vs Q E hr a pre kq => ⟨_, (pss_cons (ps_expr (pe_fn Gneed_turn (hr.mono (by decide)) (by rfl) (pa_cons (pv 0) pa_nil)))
      (pss_one (ps_expr (pe_fn Gneed_pixel (hr.mono (by decide)) (by rfl) (pa_cons (pv 1) pa_nil))))), ?_⟩
  obtain ⟨v, u, rfl, hv, ht, hu⟩ := pre
  refine qy_drop (P := Is .non) (y_call a.1 (ya1 (y_var rfl hv mono_u)) (fun vs H1 _ ⟨v, e, h1⟩ => ⟨v, e, h1, ht⟩) fun _ _ _ h => h) fun _ H1 e1 _ => ?_
  exact sy_drop (P := Is .non) (y_call a.2 (ya1 (y_var rfl (hu.mo e1) mono_u)) (fun vs H1 _ h => h) fun _ _ _ h => h) fun _ H2 e2 _ => kq _ _ (e1.trans e2) rfl
end
end TPx

/-! The defs of images, rests: what each promises, and why it keeps it. -/
namespace TPy
open PySem PySem.Spec PyProof.Rows L2 Evl
open TPs hiding Px
/-- sizes -/
def Sz (n : Nat) (z : Px) : Prop := z.1.natAbs ≤ 2 ^ n ∧ z.2.natAbs ≤ 2 ^ n
theorem Sz.mono {m n : Nat} {z : Px} (h : Sz m z) (l : m ≤ n) : Sz n z := ⟨Nat.le_trans h.1 (Nat.pow_le_pow_right (by decide) l), Nat.le_trans h.2 (Nat.pow_le_pow_right (by decide) l)⟩
theorem Sz.bd {n : Nat} {z : Px} (h : Sz n z) : TPm.Bd ((2 ^ n : Nat) : Int) z := by
  obtain ⟨a, b⟩ := h
  generalize 2 ^ n = X at *
  refine ⟨?_, ?_, ?_, ?_⟩ <;> omega
theorem Sz.of {n : Nat} {M : Int} {z : Px} (h : TPm.Bd M z) (l : M ≤ ((2 ^ n : Nat) : Int)) : Sz n z := by
  obtain ⟨a, b, c, d⟩ := h
  unfold Sz
  generalize 2 ^ n = X at *
  refine ⟨?_, ?_⟩ <;> omega
theorem two4 (n : Nat) : (2 : Nat) ^ (n + 2) = 4 * 2 ^ n := by rw [Nat.pow_succ, Nat.pow_succ]; omega
theorem Sz.img0 {n : Nat} {p q : Int} {z : Px} (o : TPm.Ok p q) (h : Sz n z) : Sz (n + 2) (TPm.img0 p q z) := .of (TPm.img0_bd o h.bd) (by
  rw [two4]
  have : 1 ≤ 2 ^ n := Nat.one_le_two_pow
  generalize 2 ^ n = X at *
  omega)
theorem Sz.quart {n : Nat} {z : Px} (h : Sz n z) (k : Int) : Sz n (TPm.quart z k) := .of (h.bd.quart k) (Int.le_refl _)
theorem Sz.img {n : Nat} {p q k : Int} {z : Px} (o : TPm.Ok p q) (h : Sz n z) : Sz (n + 2) (TPm.img p q k z) := (h.img0 o).quart k
theorem Sz.nbs {n : Nat} {z w : Px} (h : Sz n z) (m : w ∈ TPm.nbs z) : Sz (n + 2) w := .of (TPm.nbs_bd h.bd m) (by
  rw [two4]
  have : 1 ≤ 2 ^ n := Nat.one_le_two_pow
  generalize 2 ^ n = X at *
  omega)
theorem Sz.na {n : Nat} {z : Px} (h : Sz n z) : z.1.natAbs < 2 ^ (n + 1) ∧ z.2.natAbs < 2 ^ (n + 1) := by
  obtain ⟨a, b⟩ := h
  have : 1 ≤ 2 ^ n := Nat.one_le_two_pow
  rw [Nat.pow_succ]
  generalize 2 ^ n = X at *
  omega
theorem na_sub {a b : Int} {n : Nat} (h : a.natAbs < 2 ^ n) (g : b.natAbs < 2 ^ n) : (a - b).natAbs < 2 ^ (n + 1) := by
  rw [Nat.pow_succ]
  generalize 2 ^ n = X at *
  omega
theorem na_add {a b : Int} {n : Nat} (h : a.natAbs < 2 ^ n) (g : b.natAbs < 2 ^ n) : (a + b).natAbs < 2 ^ (n + 1) := by
  rw [Nat.pow_succ]
  generalize 2 ^ n = X at *
  omega
theorem na_up {a : Int} {m n : Nat} (h : a.natAbs < 2 ^ m) (l : m ≤ n) : a.natAbs < 2 ^ n := Nat.lt_of_lt_of_le h (Nat.pow_le_pow_right (by decide) l)
structure PQ (p q : Int) : Prop where
  p : p.natAbs < 2 ^ 64
  q : q.natAbs < 2 ^ 64
theorem PQ.neg {p q : Int} (h : PQ p q) : PQ p (-q) := ⟨h.p, by rw [Int.natAbs_neg]; exact h.q⟩
theorem PQ.lA {p q : Int} (h : PQ p q) : (TPm.lA p q).natAbs < 2 ^ 129 := na_sub (wide_lt h.p h.p) (wide_lt h.q h.q)
theorem PQ.sC {p q : Int} (h : PQ p q) : (TPm.sizeC p q).natAbs < 2 ^ 129 := na_add (wide_lt h.p h.p) (wide_lt h.q h.q)
theorem PQ.lB {p q : Int} (h : PQ p q) : (TPm.lB p q).natAbs < 2 ^ 130 := wide_lt (a := 66) (wide_lt (a := 2) (by decide) h.p) h.q
theorem PQ.place {p q : Int} (h : PQ p q) {n : Nat} {z : Px} (s : Sz n z) : (TPm.place p q z).1.natAbs < 2 ^ (n + 132) ∧ (TPm.place p q z).2.natAbs < 2 ^ (n + 132) := by
  obtain ⟨a, b⟩ := s.na
  have e : n + 132 = 130 + (n + 1) + 1 := by omega
  rw [e]
  have hA := na_up h.lA (show 129 ≤ 130 by decide)
  exact ⟨na_sub (wide_lt hA a) (wide_lt h.lB b), na_add (wide_lt h.lB a) (wide_lt hA b)⟩
theorem PQ.tU {p q : Int} (h : PQ p q) {n : Nat} {z : Px} (s : Sz n z) : (TPm.tU p q z).1.natAbs < 2 ^ (n + 66) ∧ (TPm.tU p q z).2.natAbs < 2 ^ (n + 66) := by
  obtain ⟨a, b⟩ := s.na
  have e : n + 66 = 64 + (n + 1) + 1 := by omega
  rw [e]
  exact ⟨na_sub (wide_lt h.p a) (wide_lt h.q b), na_add (wide_lt h.q a) (wide_lt h.p b)⟩
section
variable {K : PySem.W.Frag} {σ : L2.St} {H H' : Hp} {ta tb te tc : TE} {t u : TT} {x y v : V} {P Pa Pb : VP} {D : Ends} {tz : TS}
theorem y_mul {i j : Int} (a b : Nat) (ha : Y ta σ H (IsI i)) (hb : Y tb σ H (IsI j)) (h1 : i.natAbs < 2 ^ a) (h2 : j.natAbs < 2 ^ b) (p1 : 0 < a := by decide) (p2 : 0 < b := by decide) (h : a + b ≤ 1000000 := by decide) : Y (tOp (rI CMulW fun i j => .int (i * j)) ta tb) σ H (IsI (i * j)) :=
  y_i (wide_mul h1 h2 p1 p2 h) ha hb
theorem y_dv {i j : Int} (b : Nat) (ha : Y ta σ H (IsI i)) (hb : Y tb σ H (IsI j)) (h1 : 0 < j) (h2 : j.natAbs < 2 ^ b) (p2 : 0 < b := by decide) (h : b ≤ 9000 := by decide) : Y (tOp (rI CDivW fun i j => .int (i / j)) ta tb) σ H (IsI (i / j)) :=
  y_i (wide_div h1 h2 p2 h) ha hb
theorem y_add {i j : Int} (ha : Y ta σ H (IsI i)) (hb : Y tb σ H (IsI j)) : Y (tOp (rI0 fun i j => .int (i + j)) ta tb) σ H (IsI (i + j)) := y_i0 ha hb
theorem y_sub {i j : Int} (ha : Y ta σ H (IsI i)) (hb : Y tb σ H (IsI j)) : Y (tOp (rI0 fun i j => .int (i - j)) ta tb) σ H (IsI (i - j)) := y_i0 ha hb
theorem y_neg {i : Int} (ha : Y ta σ H (IsI i)) : Y (tUn (rU fun i => .int (-i)) ta) σ H (IsI (-i)) := y_un ha
theorem sel_is {g : Nat → V} : ∀ {ys : List V} {is : List Nat}, Sel H (fun i => Is (g i)) ys is → ys = is.map g
  | [], [], _ => rfl
  | v :: _, i :: _, ⟨h, t⟩ => by rw [sel_is t, show v = g i from h]; rfl
  | [], _ :: _, h => h.elim
  | _ :: _, [], h => h.elim
theorem y_selIs {n : Nat} {g : Nat → V} (h : Y te σ H (IsSel n (fun _ => true) fun i => Is (g i))) : Y te σ H (IsLs ((List.range n).map g)) := h.imp fun v H1 _ ⟨a, ys, e, hy, hs⟩ => ⟨a, e, by
  have e1 := sel_is hs
  rw [filter_yes] at e1
  rw [← e1]
  exact hy⟩
theorem y_tupOf {xs : List V} (h : Y te σ H (IsLs xs)) : Y (tCB (fun xs H Q => ∃ p ys, xs = [.ref p] ∧ ((SqL K H p ys ∧ ∀ l, H l = none → Q (.ref l) (upd H l (.tup ys))) ∨ (SqT K H p ys ∧ Q (.ref p) H))) (tCons te tNil)) σ H (IsU xs) :=
  y_cb (ya1 h) fun vs H1 _ ⟨v, ev, a, e, h⟩ Q q => ⟨a, xs, by rw [ev, e], .inl ⟨sq_of h, fun l hl => q _ _ (Ex.new hl) ⟨l, rfl, upd_same⟩⟩⟩
theorem ya_pnil : YA tNil σ H (fun vs H => Pxs H vs []) := fun H1 _ Q q => q [] H1 (Ex.refl H1) trivial
theorem ya_pcons {tr : TA} {z : Px} {zs : List Px} (h : Y te σ H (IsP z)) (hr : YA tr σ H (fun vs H => Pxs H vs zs)) : YA (tCons te tr) σ H (fun vs H => Pxs H vs (z :: zs)) :=
  (ya_cons mono_u h hr).imp fun vs H1 _ ⟨v, r, e, h1, h2⟩ => by rw [e]; exact ⟨h1, h2⟩
theorem y_lstP {ta : TA} {zs : List Px} (h : YA ta σ H (fun vs H => Pxs H vs zs)) (hl : zs.length ≤ 1000) : Y (tLst ta) σ H (IsPs zs) := y_lst (fun _ _ _ e p => p.mono e) h fun vs H p => by rw [p.len]; exact hl
theorem sy_parP {i j : Nat} (m : Mono Pa) (h : Y ta σ H Pa) (h2 : Y tb σ H Pb) (k : ∀ v w H1, Ex H H1 → Pa v H1 → Pb w H1 → D.nx ((σ.set i (some v)).set j (some w)) H1) : tPar i j (tCons ta (tCons tb tNil)) D σ H :=
  (ya2 m h h2) H (Ex.refl H) _ fun vs H1 e ⟨v, w, ev, h1, h2⟩ => ⟨v, w, ev, k v w H1 e h1 h2⟩
theorem qy_parP {i j : Nat} (m : Mono Pa) (h : Y ta σ H Pa) (h2 : Y tb σ H Pb) (k : ∀ v w H1, Ex H H1 → Pa v H1 → Pb w H1 → tz D ((σ.set i (some v)).set j (some w)) H1) : tSeq (tPar i j (tCons ta (tCons tb tNil))) tz D σ H := sy_parP (D := { D with nx := tz D }) m h h2 k
end
end TPy
namespace TPx
open PySem PySem.Spec PyProof.Rows L2 TPy Evl
open TPs hiding Px
theorem Turn.pq {t : T3} (h : Turn t) : PQ t.1 t.2.1 := ⟨Nat.lt_trans (show t.1.natAbs < 2000000000000000 by have := h.mx; have := h.lo; have := h.hi; omega) (by decide), Nat.lt_trans (show t.2.1.natAbs < 2000000000000000 by have := h.mx; have := h.lo; have := h.hi; omega) (by decide)⟩
section
variable {P : Program} {w : World} {K : PySem.W.Frag} {mg : Str → Option Value} {base : Heap}
abbrev A2 := Int × Int × List V
abbrev tv2 (a : A2) : List V := .int a.1 :: .int a.2.1 :: a.2.2
abbrev Pre2 (a : A2) (vs : List V) (H : Hp) : Prop := ∃ v, vs = [v] ∧ IsU (tv2 a) v H ∧ PQ a.1 a.2.1
abbrev spsize_of : Sp := spF Pre2 fun a => IsI (TPm.sizeC a.1 a.2.1)
theorem lensize_of : ∀ (a : A2) (vs : List V) (H : Hp), Pre2 a vs H → vs.length = Psize_of.length := fun _ _ _ ⟨_, h, _⟩ => by rw [h]; rfl
theorem at0 (x : V) (r : List V) : atI (x :: r) 0 = some x := by
  unfold atI ixN
  simp
theorem at1 (x y : V) (r : List V) : atI (x :: y :: r) 1 = some y := by
  unfold atI ixN
  rw [if_pos (by decide), if_pos (by simp only [List.length_cons]; omega)]
  rfl
theorem oksize_of (T : Bl mg) (D : Df K mg "size_of" ssize_of) : Ok1 P w K mg base 1 "size_of" Psize_of spsize_of := by
  refine mk1 (k := 0) D scsize_of (lensize_of) (fun _ _ _ _ _ _ us hl => match us, hl with | [_], _ => rfl) fun f cdv A outer s H vs Q E hr a pre kq => ⟨_, (pss_one (ps_ret (pe_op op_add (pe_op op_mulW (pe_ix ix_tup (pv 0) pe_int (fun _ _ => rfl)) (pe_ix ix_tup (pv 0) pe_int (fun _ _ => rfl))) (pe_op op_mulW (pe_ix ix_tup (pv 0) pe_int (fun _ _ => rfl)) (pe_ix ix_tup (pv 0) pe_int (fun _ _ => rfl)))))), ?_⟩
  obtain ⟨v, rfl, hv, hpq⟩ := pre
  have i0 := y_ixT (K := K) (y_var (i := 0) (σ := L2.start Nsize_of [v]) rfl hv mono_u) (y_c (v := .int 0)) (at0 _ _)
  have i1 := y_ixT (K := K) (y_var (i := 0) (σ := L2.start Nsize_of [v]) rfl hv mono_u) (y_c (v := .int 1)) (at1 _ _ _)
  exact sy_ret (y_add (y_mul 64 64 i0 i0 hpq.p hpq.p) (y_mul 64 64 i1 i1 hpq.q hpq.q)) kq
abbrev spplain_legs : Sp := spF Pre2 fun a => IsU [.int (TPm.lA a.1 a.2.1), .int (TPm.lB a.1 a.2.1), .int (TPm.sizeC a.1 a.2.1)]
theorem lenplain_legs : ∀ (a : A2) (vs : List V) (H : Hp), Pre2 a vs H → vs.length = Pplain_legs.length := fun _ _ _ ⟨_, h, _⟩ => by rw [h]; rfl
theorem okplain_legs (T : Bl mg) (D : Df K mg "plain_legs" splain_legs) : Ok1 P w K mg base 1 "plain_legs" Pplain_legs spplain_legs := by
  refine mk1 (k := 0) D scplain_legs (lenplain_legs) (fun _ _ _ _ _ _ us hl => match us, hl with | [_], _ => rfl) fun f cdv A outer s H vs Q E hr a pre kq => ⟨_, (pss_cons (ps_asg (pe_slice sl_tupA (pv 0) po_none (po_some pe_int)) (pg_tup (by rfl) (pgs_cons (pg_name (i := 1) scplain_legs.nd rfl (Or.inl rfl)) (pgs_cons (pg_name (i := 2) scplain_legs.nd rfl (Or.inl rfl)) pgs_nil))))
      (pss_one (ps_ret (pe_tup (pa_cons (pe_op op_sub (pe_op op_mulW (pv 1) (pv 1)) (pe_op op_mulW (pv 2) (pv 2))) (pa_cons (pe_op op_mulW (pe_op op_mulW pe_int (pv 1)) (pv 2)) (pa_cons (pe_op op_add (pe_op op_mulW (pv 1) (pv 1)) (pe_op op_mulW (pv 2) (pv 2))) pa_nil))))))), ?_⟩
  obtain ⟨v, rfl, hv, hpq⟩ := pre
  have sl := y_slT (K := K) (y_var (i := 0) (σ := L2.start Nplain_legs [v]) rfl hv mono_u) eo_none (eo_some (i := 2) ev_c)
  rw [cut2] at sl
  refine qy_un2 sl fun H1 e1 => ?_
  have p1 : ∀ {H2}, Y (tVar 1) (((L2.start Nplain_legs [v]).set 1 (some (.int a.1))).set 2 (some (.int a.2.1))) H2 (IsI a.1) := y_vI rfl
  have p2 : ∀ {H2}, Y (tVar 2) (((L2.start Nplain_legs [v]).set 1 (some (.int a.1))).set 2 (some (.int a.2.1))) H2 (IsI a.2.1) := y_vI rfl
  exact sy_ret (y_tup3 (y_sub (y_mul 64 64 p1 p1 hpq.p hpq.p) (y_mul 64 64 p2 p2 hpq.q hpq.q)) (y_mul 66 64 (y_mul 2 64 y_c p1 (by decide) hpq.p) p2 (wide_lt (a := 2) (by decide) hpq.p) hpq.q) (y_add (y_mul 64 64 p1 p1 hpq.p hpq.p) (y_mul 64 64 p2 p2 hpq.q hpq.q))) fun v H2 e2 p => kq v H2 (e1.trans e2) p
abbrev Prequ (a : Px × Int) (vs : List V) (H : Hp) : Prop := ∃ v, vs = [v, .int a.2] ∧ IsP a.1 v H
abbrev spquartered : Sp := spF Prequ fun a => IsP (TPm.quart a.1 a.2)
theorem lenquartered : ∀ (a : Px × Int) (vs : List V) (H : Hp), Prequ a vs H → vs.length = Pquartered.length := fun _ _ _ ⟨_, h, _⟩ => by rw [h]; rfl
theorem okquartered (T : Bl mg) (D : Df K mg "quartered" squartered) : Ok1 P w K mg base 1 "quartered" Pquartered spquartered := by
  refine mk1 (k := 0) D scquartered (lenquartered) (fun _ _ _ _ _ _ us hl => match us, hl with | [_, _], _ => rfl) fun f cdv A outer s H vs Q E hr a pre kq => ⟨_, (pss_cons (ps_asg (pv 0) (pg_tup (by rfl) (pgs_cons (pg_name (i := 2) scquartered.nd rfl (Or.inl rfl)) (pgs_cons (pg_name (i := 3) scquartered.nd rfl (Or.inl rfl)) pgs_nil))))
      (pss_cons (ps_for PassesOwn.never (by rfl) (pi_range1 (by rfl) T.m_range (pa_cons (pe_op op_mod (pv 1) pe_int) pa_nil)) (pg_name (i := 4) scquartered.nd rfl (Or.inl rfl)) (pss_one (ps_par (i := 2) (j := 3) (by rfl) scquartered.nd rfl rfl (by decide) rfl rfl (pa_cons (pe_un un_neg (pv 3)) (pa_cons (pv 2) pa_nil)) (by rfl))))
      (pss_one (ps_ret (pe_tup (pa_cons (pv 2) (pa_cons (pv 3) pa_nil))))))), ?_⟩
  obtain ⟨v, rfl, hv⟩ := pre
  refine qy_un2 (y_var rfl hv mono_u) fun H1 e1 => ?_
  have h0 := Int.emod_nonneg a.2 (show (4 : Int) ≠ 0 by decide)
  have h4 := Int.emod_lt_of_pos a.2 (show (0 : Int) < 4 by decide)
  refine q_forR1 (n := a.2 % 4) (ea_of (ya_is1 (y_i (by decide) (y_vI rfl) y_c))) ⟨h0, by omega⟩ (fun i σ' H' => ∃ st, σ' = [some v, some (.int a.2), some (.int (TPm.rotN i a.1).1), some (.int (TPm.rotN i a.1).2), st] ∧ Ex H H') (fun H2 e2 => ⟨_, rfl, e1.trans e2⟩) ?_ ?_
  · rintro i σ' H2 _ ⟨st, rfl, e2⟩
    exact sy_par (y_neg (y_vI rfl)) (y_vI rfl) fun H3 e3 => ⟨_, rfl, e2.trans e3⟩
  · rintro σ' H2 ⟨st, rfl, e2⟩
    exact sy_ret (y_tup2 (y_vI rfl) (y_vI rfl)) fun u H3 e3 p => kq u H3 (e2.trans e3) p
abbrev Prene (a : Int × Int) (vs : List V) (_ : Hp) : Prop := vs = [.int a.1, .int a.2] ∧ 0 < a.2 ∧ a.1.natAbs < 2 ^ 1000 ∧ a.2.natAbs < 2 ^ 1000
abbrev spnearest : Sp := spF Prene fun a => IsI (TPm.near a.1 a.2)
theorem lennearest : ∀ (a : Int × Int) (vs : List V) (H : Hp), Prene a vs H → vs.length = Pnearest.length := fun _ _ _ ⟨h, _⟩ => by rw [h]; rfl
theorem oknearest (T : Bl mg) (D : Df K mg "nearest" snearest) : Ok1 P w K mg base 1 "nearest" Pnearest spnearest := by
  refine mk1 (k := 0) D scnearest (lennearest) (fun _ _ _ _ _ _ us hl => match us, hl with | [_, _], _ => rfl) fun f cdv A outer s H vs Q E hr a pre kq => ⟨_, (pss_one (ps_ret (pe_op op_fdivW (pe_op op_add (pe_op op_mulW pe_int (pv 0)) (pv 1)) (pe_op op_mulW pe_int (pv 1))))), ?_⟩
  obtain ⟨rfl, h0, h1, h2⟩ := pre
  exact sy_ret (y_dv 1002 (y_add (y_mul 2 1000 y_c (y_vI rfl) (by decide) h1) (y_vI rfl)) (y_mul 2 1000 y_c (y_vI rfl) (by decide) h2) (by omega) (wide_lt (a := 2) (by decide) h2)) kq
abbrev A2P := A2 × Px
abbrev Pre2P (n : Nat) (a : A2P) (vs : List V) (H : Hp) : Prop := ∃ v u, vs = [v, u] ∧ IsU (tv2 a.1) v H ∧ PQ a.1.1 a.1.2.1 ∧ IsP a.2 u H ∧ Sz n a.2
abbrev spplain_place : Sp := spF (Pre2P 400) fun a => IsP (TPm.place a.1.1 a.1.2.1 a.2)
theorem lenplain_place : ∀ (a : A2P) (vs : List V) (H : Hp), Pre2P 400 a vs H → vs.length = Pplain_place.length := fun _ _ _ ⟨_, _, h, _⟩ => by rw [h]; rfl
theorem okplain_place (T : Bl mg) (D : Df K mg "plain_place" splain_place) (Gplain_legs : Ok1 P w K mg base 1 "plain_legs" Pplain_legs spplain_legs) : Ok1 P w K mg base 2 "plain_place" Pplain_place spplain_place := by
  refine mk1 (k := 1) D scplain_place (lenplain_place) (fun _ _ _ _ _ _ us hl => match us, hl with | [_, _], _ => rfl) fun f cdv A outer s H vs Q E hr a pre kq => ⟨_, (pss_cons (ps_asg (pe_slice sl_tupA (pe_fn Gplain_legs (hr.mono (by decide)) (by rfl) (pa_cons (pv 0) pa_nil)) po_none (po_some pe_int)) (pg_tup (by rfl) (pgs_cons (pg_name (i := 2) scplain_place.nd rfl (Or.inl rfl)) (pgs_cons (pg_name (i := 3) scplain_place.nd rfl (Or.inl rfl)) pgs_nil))))
      (pss_cons (ps_asg (pv 1) (pg_tup (by rfl) (pgs_cons (pg_name (i := 4) scplain_place.nd rfl (Or.inl rfl)) (pgs_cons (pg_name (i := 5) scplain_place.nd rfl (Or.inl rfl)) pgs_nil))))
      (pss_one (ps_ret (pe_tup (pa_cons (pe_op op_sub (pe_op op_mulW (pv 2) (pv 4)) (pe_op op_mulW (pv 3) (pv 5))) (pa_cons (pe_op op_add (pe_op op_mulW (pv 3) (pv 4)) (pe_op op_mulW (pv 2) (pv 5))) pa_nil))))))), ?_⟩
  obtain ⟨v, u, rfl, hv, hpq, hu, hz⟩ := pre
  have c1 := y_call (Pre := Pre2) (Post := fun a => IsU [.int (TPm.lA a.1 a.2.1), .int (TPm.lB a.1 a.2.1), .int (TPm.sizeC a.1 a.2.1)]) (E := E0) a.1 (ya1 (y_var (i := 0) (σ := L2.start Nplain_place [v, u]) rfl hv mono_u)) (fun vs H1 _ ⟨v, e, h1⟩ => ⟨v, e, h1, hpq⟩) (fun _ _ _ h => h)
  refine qy_un2 (y_slT (K := K) c1 eo_none (eo_some (i := 2) ev_c)) fun H1 e1 => ?_
  refine qy_un2 (y_var rfl (hu.mo e1) mono_u) fun H2 e2 => ?_
  obtain ⟨z1, z2⟩ := hz.na
  exact sy_ret (y_tup2 (y_sub (y_mul 129 401 (y_vI rfl) (y_vI rfl) hpq.lA z1) (y_mul 130 401 (y_vI rfl) (y_vI rfl) hpq.lB z2)) (y_add (y_mul 130 401 (y_vI rfl) (y_vI rfl) hpq.lB z1) (y_mul 129 401 (y_vI rfl) (y_vI rfl) hpq.lA z2))) fun v H3 e3 p => kq v H3 ((e1.trans e2).trans e3) p
abbrev Pre2O (n : Nat) (a : A2P) (vs : List V) (H : Hp) : Prop := ∃ v u, vs = [v, u] ∧ IsU (tv2 a.1) v H ∧ PQ a.1.1 a.1.2.1 ∧ IsP a.2 u H ∧ Sz n a.2 ∧ TPm.Ok a.1.1 a.1.2.1
abbrev spplain_image : Sp := spF (Pre2O 400) fun a => IsP (TPm.img0 a.1.1 a.1.2.1 a.2)
theorem lenplain_image : ∀ (a : A2P) (vs : List V) (H : Hp), Pre2O 400 a vs H → vs.length = Pplain_image.length := fun _ _ _ ⟨_, _, h, _⟩ => by rw [h]; rfl
theorem okplain_image (T : Bl mg) (D : Df K mg "plain_image" splain_image) (Gsize_of : Ok1 P w K mg base 1 "size_of" Psize_of spsize_of) (Gplain_place : Ok1 P w K mg base 2 "plain_place" Pplain_place spplain_place) (Gnearest : Ok1 P w K mg base 1 "nearest" Pnearest spnearest) : Ok1 P w K mg base 3 "plain_image" Pplain_image spplain_image := by
  refine mk1 (k := 2) D scplain_image (lenplain_image) (fun _ _ _ _ _ _ us hl => match us, hl with | [_, _], _ => rfl) fun f cdv A outer s H vs Q E hr a pre kq => ⟨_, (pss_cons (ps_set (i := 2) scplain_image.nd rfl (Or.inr rfl) (pe_fn Gsize_of (hr.mono (by decide)) (by rfl) (pa_cons (pv 0) pa_nil)))
      (pss_one (ps_ret (pe_callTy call_tuple_of (by rfl) T.m_tuple (by decide +kernel) (pa_cons (pe_lc (own := [("part", 3)]) (by rfl) scplain_image.nd (pi_tup (pe_fn Gplain_place (hr.mono (by decide)) (by rfl) (pa_cons (pv 0) (pa_cons (pv 1) pa_nil)))) (blkOk_by (own := [("part", 3)]) (N := Nplain_image) (sc := defScope splain_image) (by decide +kernel)) (fun _ _ _ _ _ => (pg_name (i := 3) scplain_image.nd rfl (Or.inl rfl))) (fun _ _ _ _ _ => pts_nil) (fun _ _ _ _ _ => (pe_fn Gnearest (hr.mono (by decide)) (by rfl) (pa_cons (pv 3) (pa_cons (pv 2) pa_nil))))) pa_nil))))), ?_⟩
  obtain ⟨v, u, rfl, hv, hpq, hu, hz, ho⟩ := pre
  refine qy_asgI (y_call a.1 (ya1 (y_var rfl hv mono_u)) (fun vs H1 _ ⟨v, e, h1⟩ => ⟨v, e, h1, hpq⟩) fun _ _ _ h => h) fun H1 e1 => ?_
  have pl := hpq.place hz
  refine sy_ret (P := IsP (TPm.img0 a.1.1 a.1.2.1 a.2)) (y_tupOf (y_selIs (n := 2) (g := fun i => [V.int (TPm.img0 a.1.1 a.1.2.1 a.2).1, V.int (TPm.img0 a.1.1 a.1.2.1 a.2).2].getD i .non) (y_lcT (xs := tv (TPm.place a.1.1 a.1.2.1 a.2)) (fun _ => true) _ (fun _ => mono_is) (fun _ => loc_is) ?_ (by show 2 ≤ 40000; decide) (fun _ => rfl) (fun _ _ _ _ _ => et_yes) ?_))) fun v H2 e2 p => kq v H2 (e1.trans e2) p
  · exact y_call a (ya2 mono_u (y_var rfl (hv.mo e1) mono_u) (y_var rfl (hu.mo e1) mono_u)) (fun vs H1 _ ⟨v, u, e, h1, h2⟩ => ⟨v, u, e, h1, hpq, h2, hz⟩) fun _ _ _ h => h
  · intro i x H2 e2 hx _
    match i, hx with
    | 0, hx =>
      cases hx
      exact y_call ((TPm.place a.1.1 a.1.2.1 a.2).1, TPm.sizeC a.1.1 a.1.2.1) (ya_is2 (y_vI rfl) (y_vI rfl)) (fun vs H1 _ e => ⟨e, ho.cpos, na_up pl.1 (by decide), na_up hpq.sC (by decide)⟩) fun _ _ _ h => h
    | 1, hx =>
      cases hx
      exact y_call ((TPm.place a.1.1 a.1.2.1 a.2).2, TPm.sizeC a.1.1 a.1.2.1) (ya_is2 (y_vI rfl) (y_vI rfl)) (fun vs H1 _ e => ⟨e, ho.cpos, na_up pl.2 (by decide), na_up hpq.sC (by decide)⟩) fun _ _ _ h => h
    | i + 2, hx => cases hx
end
end TPx

/-! Pixels as data: equality, not in, sorted, comprehensions over pixels. -/
namespace TPy
open PySem PySem.Spec PyProof.Rows L2 Evl
open TPs hiding Px
abbrev pd (z : Px) : PyData := .tuple [.int z.1, .int z.2]
theorem pd_eqv (z w : Px) : PyData.eqv (pd z) (pd w) = decide (z = w) := by
  rw [Bool.eq_iff_iff]
  simp [PyData.eqv, PyData.eqvAll, Prod.ext_iff]
theorem pds_eqv : ∀ (l m : List Px), PyData.eqvAll (l.map pd) (m.map pd) = decide (l = m)
  | [], [] => by simp [PyData.eqvAll]
  | [], _ :: _ => by simp [PyData.eqvAll]
  | _ :: _, [] => by simp [PyData.eqvAll]
  | z :: l, w :: m => by
    show PyData.eqvAll (pd z :: l.map pd) (pd w :: m.map pd) = _
    rw [show PyData.eqvAll (pd z :: l.map pd) (pd w :: m.map pd) = (PyData.eqv (pd z) (pd w) && PyData.eqvAll (l.map pd) (m.map pd)) by rw [PyData.eqvAll], pd_eqv, pds_eqv l m, Bool.eq_iff_iff]
    simp
theorem pd_lay (z : Px) : (pd z).canLay0 = true := by simp [PyData.canLay0, PyData.canLayAll0]
theorem pd_depth (z : Px) : (pd z).depth = 1 := by simp [PyData.depth, PyData.depthAll]
theorem pd_shaped (z : Px) : SeqAt.shaped (pd z) = true := by unfold SeqAt.shaped; rw [pd_lay, pd_depth]; rfl
theorem pds_lay : ∀ l : List Px, PyData.canLayAll0 (l.map pd) = true
  | [] => by simp [PyData.canLayAll0]
  | z :: l => by rw [List.map_cons, PyData.canLayAll0, pd_lay, pds_lay l]; rfl
theorem pds_depth : ∀ l : List Px, PyData.depthAll (l.map pd) ≤ 1
  | [] => by simp [PyData.depthAll]
  | z :: l => by
    rw [List.map_cons, PyData.depthAll, pd_depth]
    have := pds_depth l
    omega
theorem pdl_shaped (l : List Px) : SeqAt.shaped (.list (l.map pd)) = true := by
  unfold SeqAt.shaped
  rw [show (PyData.list (l.map pd)).canLay0 = PyData.canLayAll0 (l.map pd) by rw [PyData.canLay0], pds_lay, show (PyData.list (l.map pd)).depth = PyData.depthAll (l.map pd) + 1 by rw [PyData.depth]]
  have := pds_depth l
  rw [decide_eq_true (show PyData.depthAll (l.map pd) + 1 ≤ 64 by omega)]
  rfl
section
variable {K : PySem.W.Frag} {σ : L2.St} {H H' : Hp} {ta tb te tc : TE} {t u : TT} {x y v : V} {P Pa Pb : VP} {D : Ends} {tz : TS}
theorem dp_px {z : Px} (h : IsP z v H) : Dp K H v (pd z) := by
  obtain ⟨a, e, g⟩ := h
  rw [e]
  exact .tup (st_of g) (.cons (.int _) (.cons (.int _) .nil))
theorem dp_all : ∀ {vs : List V} {zs : List Px}, Pxs H vs zs → DpAll K H vs (zs.map pd)
  | [], [], _ => .nil
  | _ :: _, _ :: _, ⟨h, t⟩ => .cons (dp_px h) (dp_all t)
  | [], _ :: _, h => h.elim
  | _ :: _, [], h => h.elim
theorem dp_pxs {zs : List Px} (h : IsPs zs v H) : Dp K H v (.list (zs.map pd)) := by
  obtain ⟨a, xs, e, g, p⟩ := h
  rw [e]
  exact .lst (sq_of g) (dp_all p)
theorem y_eqP {z w : Px} (ha : Y ta σ H (IsP z)) (hb : Y tb σ H (IsP w)) : Y (tOp (rEqD K) ta tb) σ H (IsB (decide (z = w))) :=
  y_op mono_u ha hb fun x y H1 _ hx hy Q q => ⟨_, _, dp_px hx, dp_px hy, pd_shaped z, pd_shaped w, q _ H1 (Ex.refl H1) (by rw [pd_eqv]; rfl)⟩
theorem y_eqPs {l m : List Px} (ha : Y ta σ H (IsPs l)) (hb : Y tb σ H (IsPs m)) : Y (tOp (rEqD K) ta tb) σ H (IsB (decide (l = m))) :=
  y_op mono_ps ha hb fun x y H1 _ hx hy Q q => ⟨_, _, dp_pxs hx, dp_pxs hy, pdl_shaped l, pdl_shaped m, q _ H1 (Ex.refl H1) (by rw [show PyData.eqv (.list (l.map pd)) (.list (m.map pd)) = PyData.eqvAll (l.map pd) (m.map pd) by rw [PyData.eqv], pds_eqv]; rfl)⟩
theorem y_nePs {l m : List Px} (ha : Y ta σ H (IsPs l)) (hb : Y tb σ H (IsPs m)) : Y (tOp (rNeD K) ta tb) σ H (IsB (!decide (l = m))) :=
  y_op mono_ps ha hb fun x y H1 _ hx hy Q q => ⟨_, _, dp_pxs hx, dp_pxs hy, pdl_shaped l, pdl_shaped m, q _ H1 (Ex.refl H1) (by rw [show PyData.eqv (.list (l.map pd)) (.list (m.map pd)) = PyData.eqvAll (l.map pd) (m.map pd) by rw [PyData.eqv], pds_eqv]; rfl)⟩
/-- a pixel or None -/
def IsO (o : Option Px) : VP := fun v H => (∃ z, o = some z ∧ IsP z v H) ∨ (o = none ∧ v = .non)
theorem mono_o {o : Option Px} : Mono (IsO o) := fun _ _ _ e h => h.elim (fun ⟨z, e1, h⟩ => .inl ⟨z, e1, mono_u _ _ _ e h⟩) .inr
theorem y_neO {o : Option Px} {w : Px} (ha : Y ta σ H (IsO o)) (hb : Y tb σ H (IsP w)) : Y (tOp (rNeD K) ta tb) σ H (IsB (!decide (o = some w))) :=
  y_op mono_o ha hb fun x y H1 _ hx hy Q q => by
    rcases hx with ⟨z, e1, hx⟩ | ⟨e1, hx⟩
    · refine ⟨_, _, dp_px hx, dp_px hy, pd_shaped z, pd_shaped w, q _ H1 (Ex.refl H1) ?_⟩
      rw [pd_eqv, e1]
      show V.bl (!decide (z = w)) = V.bl (!decide (some z = some w))
      congr 2
      rw [Bool.eq_iff_iff, decide_eq_true_iff, decide_eq_true_iff, Option.some.injEq]
    · rw [hx]
      refine ⟨_, _, .non, dp_px hy, rfl, pd_shaped w, q _ H1 (Ex.refl H1) ?_⟩
      rw [e1]
      show V.bl (!PyData.eqv .none (pd w)) = V.bl (!decide (none = some w))
      rw [show PyData.eqv .none (pd w) = false by rw [PyData.eqv], decide_eq_false (fun z => nomatch z)]
theorem any_pd (z : Px) : ∀ l : List Px, ((l.map pd).any fun d => PyData.eqv d (pd z)) = decide (z ∈ l)
  | [] => by simp
  | w :: l => by
    rw [List.map_cons, List.any_cons, any_pd z l, pd_eqv, Bool.eq_iff_iff, Bool.or_eq_true, decide_eq_true_iff, decide_eq_true_iff, decide_eq_true_iff, List.mem_cons]
    exact ⟨Or.imp Eq.symm id, Or.imp Eq.symm id⟩
theorem y_niP {z : Px} {l : List Px} (ha : Y ta σ H (IsP z)) (hb : Y tb σ H (IsPs l)) : Y (tOp (rNotInD K) ta tb) σ H (IsB (!decide (z ∈ l))) :=
  y_op mono_u ha hb fun x y H1 _ hx hy Q q => ⟨_, _, dp_px hx, dp_pxs hy, pd_shaped z, pdl_shaped l, q _ H1 (Ex.refl H1) (by rw [any_pd]; rfl)⟩
/-- sorted(list of pixels): the same in some order -/
theorem perm_map_inv {α β : Type} (g : α → β) {l m : List β} (h : l.Perm m) : ∀ ks : List α, m = ks.map g → ∃ ks' : List α, ks'.Perm ks ∧ l = ks'.map g := by
  induction h with
  | nil => exact fun ks e => ⟨ks, .refl _, e⟩
  | cons x _ ih =>
    intro ks e
    cases ks with
    | nil => cases e
    | cons k ks =>
      injection e with e1 e2
      obtain ⟨ks', p, e3⟩ := ih ks e2
      exact ⟨k :: ks', p.cons k, by rw [e3, e1]; rfl⟩
  | swap x y l =>
    intro ks e
    match ks, e with
    | k :: j :: ks, e =>
      injection e with e1 e2
      injection e2 with e2 e3
      exact ⟨j :: k :: ks, .swap k j ks, by rw [e1, e2, e3]; rfl⟩
  | trans _ _ ih1 ih2 =>
    intro ks e
    obtain ⟨k2, p2, e2⟩ := ih2 ks e
    obtain ⟨k1, p1, e1⟩ := ih1 k2 e2
    exact ⟨k1, p1.trans p2, e1⟩
theorem y_sortP {zs : List Px} (h : Y te σ H (IsPs zs)) : Y (tCB (rSortD K) (tCons te tNil)) σ H (fun v H => ∃ zs', zs'.Perm zs ∧ IsPs zs' v H) :=
  y_cb (ya1 h) fun vs H1 _ ⟨v, ev, a, xs, e, hx, hp⟩ Q q => by
    obtain ⟨ks, e1, e2, h3⟩ := hp.rows
    refine ⟨a, ks.map fun p => (V.ref p.1, pd p.2), by rw [ev, e], ?_, ?_, ?_, ?_, ?_⟩
    · rw [List.map_map]
      exact sq_of (by rw [hx, e1]; rfl)
    · intro b hb
      obtain ⟨p, hp, rfl⟩ := List.mem_map.mp hb
      exact ⟨dp_px ⟨p.1, rfl, h3 p hp⟩, by show (pd p.2).depth ≤ 8; rw [pd_depth]; decide⟩
    · intro d hd d' hd'
      rw [List.map_map] at hd hd'
      obtain ⟨p, _, rfl⟩ := List.mem_map.mp hd
      obtain ⟨p', _, rfl⟩ := List.mem_map.mp hd'
      rfl
    · refine .inl fun d hd => ?_
      rw [List.map_map] at hd
      obtain ⟨p, _, rfl⟩ := List.mem_map.mp hd
      exact ⟨_, _, rfl⟩
    · intro bs' p hb hp
      obtain ⟨ks', k1, rfl⟩ := perm_map_inv _ hb ks rfl
      refine q _ _ (Ex.new hp) ⟨ks'.map (·.2), by rw [e2]; exact k1.map _, p, _, rfl, upd_same, ?_⟩
      rw [List.map_map]
      exact (Pxs.of_rows fun r hr => h3 r (k1.mem_iff.mp hr)).mono (Ex.new hp)
/-- a comprehension over a list of pixels -/
theorem y_lcP {zs : List Px} {tl : TE} {j : Nat} {vs : List Nat} (f : Nat → Bool) (P : Nat → VP) (m : ∀ i, Mono (P i)) (loc : ∀ i, Loc (P i)) (h : Y tl σ H (IsPs zs)) (hz : zs.length ≤ 40000) (hw : ∀ x, wipe ((wipe σ vs).set j (some x)) vs = wipe σ vs)
    (ht : ∀ (i : Nat) (x : V) (z : Px) H1, Ex H H1 → zs[i]? = some z → IsP z x H1 → EvT t ((wipe σ vs).set j (some x)) H1 (f i)) (he : ∀ (i : Nat) (x : V) (z : Px) H1, Ex H H1 → zs[i]? = some z → IsP z x H1 → f i = true → Y te ((wipe σ vs).set j (some x)) H1 (P i)) :
    Y (tLc (iList K tl) (gName j) t te vs) σ H (IsSel zs.length f P) := fun H0 e Q q => h H0 e _ fun v H1 e1 ⟨a, xs, ea, hx, hp⟩ => ⟨a, ea, ⟨xs, sq_of hx⟩, fun Dl hD =>
  lc_list (xs := xs) (Cy H1 f P Dl) ⟨hD, Ex.new hD, [], upd_same, trivial⟩ (fun i H' _ p => sq_of (p.2.1 a _ hx)) (fun i x H' hi p => by
    obtain ⟨z, g1, g2⟩ := hp.get hi
    exact ⟨hw x, cy_turn p (by have := (List.getElem?_eq_some_iff.mp hi).1; rw [hp.len] at this; omega) m loc (ht i x z H1 (e.trans e1) g1 g2) (fun hf => he i x z H1 (e.trans e1) g1 g2 hf)⟩)
    (fun H' p => q _ H' (e1.trans p.2.1) (let ⟨ys, h1, h2⟩ := p.2.2; ⟨Dl, ys, rfl, h1, by rw [← hp.len]; exact h2⟩))⟩
theorem sel_pxs {g : Nat → Px} : ∀ {ys : List V} {is : List Nat}, Sel H (fun i => IsP (g i)) ys is → Pxs H ys (is.map g)
  | [], [], _ => trivial
  | _ :: _, _ :: _, ⟨h, t⟩ => ⟨h, sel_pxs t⟩
  | [], _ :: _, h => h.elim
  | _ :: _, [], h => h.elim
theorem pick {α : Type} (d : α) (f : α → Bool) (l : List α) : ((List.range l.length).filter fun i => f (l.getD i d)).map (fun i => l.getD i d) = l.filter f := by
  have e : (List.range l.length).map (fun i => l.getD i d) = l := by
    refine List.ext_getElem? fun i => ?_
    rw [List.getElem?_map]
    by_cases h : i < l.length
    · rw [List.getElem?_eq_getElem (by rw [List.length_range]; exact h), List.getElem_range]
      simp [h]
    · rw [List.getElem?_eq_none (by rw [List.length_range]; exact Nat.le_of_not_lt h), List.getElem?_eq_none (Nat.le_of_not_lt h)]
      rfl
  have e2 := List.filter_map (f := fun i => l.getD i d) (p := f) (l := List.range l.length)
  rw [e] at e2
  exact e2.symm
/-- [one for one in pixels if f one] -/
theorem y_lcF {zs : List Px} {tl : TE} {j : Nat} {vs : List Nat} (f : Px → Bool) (h : Y tl σ H (IsPs zs)) (hz : zs.length ≤ 40000) (hw : ∀ x, wipe ((wipe σ vs).set j (some x)) vs = wipe σ vs) (hj : ∀ x, ((wipe σ vs).set j (some x))[j]? = some (some x))
    (ht : ∀ (x : V) (z : Px) H1, Ex H H1 → z ∈ zs → IsP z x H1 → EvT t ((wipe σ vs).set j (some x)) H1 (f z)) :
    Y (tLc (iList K tl) (gName j) t (tVar j) vs) σ H (IsPs (zs.filter f)) :=
  (y_lcP (fun i => f (zs.getD i (0, 0))) (fun i => IsP (zs.getD i (0, 0))) (fun _ => mono_u) (fun _ => loc_u) h hz hw
    (fun i x z H1 e hi hx => by
      have e2 : zs.getD i (0, 0) = z := by simp [hi]
      rw [e2]
      exact ht x z H1 e (List.mem_of_getElem? hi) hx)
    (fun i x z H1 e hi hx _ => by
      have e2 : zs.getD i (0, 0) = z := by simp [hi]
      rw [e2]
      exact y_var (hj x) hx mono_u)).imp fun v H1 _ ⟨a, ys, e, h1, h2⟩ => ⟨a, ys, e, h1, by
        have := sel_pxs h2
        rw [pick (0, 0) f zs] at this
        exact this⟩
/-- a call whose promise is chosen behind the arguments -/
theorem y_callE {α : Type} {Pre : α → List V → Hp → Prop} {Post : α → VP} {E : XK} {ta : TA} {R : List V → Hp → Prop} (h : YA ta σ H R) (hp : ∀ vs H1, Ex H H1 → R vs H1 → ∃ x, Pre x vs H1 ∧ ∀ v H2, Ex H1 H2 → Post x v H2 → P v H2) : Y (tCall (spF Pre Post) [] E ta) σ H P := fun H1 e Q q =>
  h H1 e _ fun vs H2 e2 hv => by
    obtain ⟨x, h1, h2⟩ := hp vs H2 (e.trans e2) hv
    exact ⟨x, by rw [List.append_nil]; exact h1, fun v H3 e3 p => q v H3 (e2.trans e3) (h2 v H3 e3 p)⟩
/-- *pixels, behind them nothing -/
theorem ya_star {zs : List Px} (h : Y te σ H (IsPs zs)) : YA (StX.tStar K te tNil) σ H (fun vs H => Pxs H vs zs) := fun H1 e Q q =>
  h H1 e _ fun v H2 e2 ⟨a, xs, ea, hx, hp⟩ => ⟨a, xs, ea, .inr (sq_of hx), by
    show Q (xs ++ []) H2
    rw [List.append_nil]
    exact q xs H2 e2 hp⟩
end
/-! rules that name K, for use within comprehensions -/
theorem op_eqDK {X : Cx} {K : PySem.W.Frag} (e : X.K = K) (hu : X.A.units + 64 < cLine) : OpR X (compareOp .Eq) (rEqD K) := by
  rw [← e]
  exact op_eqD hu
theorem op_notInDK {X : Cx} {K : PySem.W.Frag} (e : X.K = K) (hu : X.A.units + 65 < cLine) : OpR X (compareOp .NotIn) (rNotInD K) := by
  rw [← e]
  exact op_notInD hu
theorem op_ltTK {X : Cx} {K : PySem.W.Frag} (e : X.K = K) (hu : X.A.units < cLine) : OpR X (compareOp .Lt) (rLtT K) := by
  rw [← e]
  exact op_ltT hu
theorem pg_tupK {X : Cx} {K : PySem.W.Frag} {es : List Expr} {k : Nat} {t : TGs} {pos : Pos} (n : Nat) (e : X.K = K) (hc : X.calm = true) (h : PGs X es t)
    (hn : (assignEach es X.env).length = n := by rfl) (hst : (assignEach es X.env).findIdx? (·.1) = none := by rfl) : PG X (.Tuple es k pos) (gTup K n t) := by
  rw [← e]
  exact pg_tup hc h hn hst
end TPy

/-! The defs of images (with quarters), rests, sources: what each promises, and why it keeps it. -/
namespace TPx
open PySem PySem.Spec PyProof.Rows L2 TPy Evl
open TPs hiding Px
section
variable {P : Program} {w : World} {K : PySem.W.Frag} {mg : Str → Option Value} {base : Heap}
abbrev i2 (t : T3) : A2 := (t.1, t.2.1, [.int t.2.2])
abbrev Pre3P (n : Nat) (a : T3 × Px) (vs : List V) (H : Hp) : Prop := ∃ v u, vs = [v, u] ∧ IsU (tvT a.1) v H ∧ Turn a.1 ∧ IsP a.2 u H ∧ Sz n a.2
abbrev spimage_in : Sp := spF (Pre3P 400) fun a => IsP (TPm.img a.1.1 a.1.2.1 a.1.2.2 a.2)
theorem lenimage_in : ∀ (a : T3 × Px) (vs : List V) (H : Hp), Pre3P 400 a vs H → vs.length = Pimage_in.length := fun _ _ _ ⟨_, _, h, _⟩ => by rw [h]; rfl
theorem okimage_in (T : Bl mg) (D : Df K mg "image_in" simage_in) (Gquartered : Ok1 P w K mg base 1 "quartered" Pquartered spquartered) (Gplain_image : Ok1 P w K mg base 3 "plain_image" Pplain_image spplain_image) : Ok1 P w K mg base 4 "image_in" Pimage_in spimage_in := by
  refine mk1 (k := 3) D scimage_in (lenimage_in) (fun _ _ _ _ _ _ us hl => match us, hl with | [_, _], _ => rfl) fun f cdv A outer s H vs Q E hr a pre kq => ⟨_, (pss_one (ps_ret (pe_fn Gquartered (hr.mono (by decide)) (by rfl) (pa_cons (pe_fn Gplain_image (hr.mono (by decide)) (by rfl) (pa_cons (pv 0) (pa_cons (pv 1) pa_nil))) (pa_cons (pe_ix ix_tup (pv 0) pe_int (fun _ _ => rfl)) pa_nil))))), ?_⟩
  obtain ⟨v, u, rfl, hv, ht, hu, hz⟩ := pre
  refine sy_ret (P := IsP (TPm.img a.1.1 a.1.2.1 a.1.2.2 a.2)) (y_call (TPm.img0 a.1.1 a.1.2.1 a.2, a.1.2.2) (ya2 (Pb := IsI a.1.2.2) mono_u (y_call (i2 a.1, a.2) (ya2 mono_u (y_var rfl hv mono_u) (y_var rfl hu mono_u)) (fun vs H1 _ ⟨v, u, e, h1, h2⟩ => ⟨v, u, e, h1, ht.pq, h2, hz, ht.ok⟩) fun _ _ _ h => h) (y_ixT (y_var rfl hv mono_u) y_c rfl)) (fun vs H1 _ ⟨v, u, e, h1, h2⟩ => ⟨v, by rw [e, show u = _ from h2], h1⟩) fun _ _ _ h => h) kq
theorem Turn.back {t : T3} (h : Turn t) : Turn (t.1, -t.2.1, -t.2.2 % 4) := ⟨by have := h.hi; show -t.1 < -t.2.1; omega, by have := h.lo; show -t.2.1 < t.1; omega, h.mx, by show 0 ≤ -t.2.2 % 4; omega, by show -t.2.2 % 4 ≤ 3; omega, by have := h.odd; show (t.1 + -t.2.1) % 2 = 1; omega, by show Int.gcd t.1 (-t.2.1) = 1; rw [Int.gcd_neg]; exact h.gcd⟩
abbrev spback_of : Sp := spF PreT fun t => IsU (tvT (t.1, -t.2.1, -t.2.2 % 4))
theorem lenback_of : ∀ (t : T3) (vs : List V) (H : Hp), PreT t vs H → vs.length = Pback_of.length := fun _ _ _ ⟨_, h, _⟩ => by rw [h]; rfl
theorem okback_of (T : Bl mg) (D : Df K mg "back_of" sback_of) : Ok1 P w K mg base 1 "back_of" Pback_of spback_of := by
  refine mk1 (k := 0) D scback_of (lenback_of) (fun _ _ _ _ _ _ us hl => match us, hl with | [_], _ => rfl) fun f cdv A outer s H vs Q E hr a pre kq => ⟨_, (pss_one (ps_ret (pe_tup (pa_cons (pe_ix ix_tup (pv 0) pe_int (fun _ _ => rfl)) (pa_cons (pe_un un_neg (pe_ix ix_tup (pv 0) pe_int (fun _ _ => rfl))) (pa_cons (pe_op op_mod (pe_un un_neg (pe_ix ix_tup (pv 0) pe_int (fun _ _ => rfl))) pe_int) pa_nil)))))), ?_⟩
  obtain ⟨v, rfl, hv, ht⟩ := pre
  exact sy_ret (y_tup3 (y_ixT (y_var rfl hv mono_u) y_c rfl) (y_neg (y_ixT (y_var rfl hv mono_u) y_c rfl)) (y_i (by decide) (y_neg (y_ixT (y_var rfl hv mono_u) y_c rfl)) y_c)) kq
abbrev spneighbours : Sp := spF (fun (z : Px) vs H => ∃ v, vs = [v] ∧ IsP z v H) fun z => IsPs (TPm.nbs z)
theorem lenneighbours : ∀ (z : Px) (vs : List V) (H : Hp), (∃ v, vs = [v] ∧ IsP z v H) → vs.length = Pneighbours.length := fun _ _ _ ⟨_, h, _⟩ => by rw [h]; rfl
theorem okneighbours (T : Bl mg) (D : Df K mg "neighbours" sneighbours) : Ok1 P w K mg base 1 "neighbours" Pneighbours spneighbours := by
  refine mk1 (k := 0) D scneighbours (lenneighbours) (fun _ _ _ _ _ _ us hl => match us, hl with | [_], _ => rfl) fun f cdv A outer s H vs Q E hr a pre kq => ⟨_, (pss_cons (ps_asg (pv 0) (pg_tup (by rfl) (pgs_cons (pg_name (i := 1) scneighbours.nd rfl (Or.inl rfl)) (pgs_cons (pg_name (i := 2) scneighbours.nd rfl (Or.inl rfl)) pgs_nil))))
      (pss_one (ps_ret (pe_lst (pa_cons (pe_tup (pa_cons (pe_op op_sub (pv 1) pe_int) (pa_cons (pv 2) pa_nil))) (pa_cons (pe_tup (pa_cons (pv 1) (pa_cons (pe_op op_sub (pv 2) pe_int) pa_nil))) (pa_cons (pe_tup (pa_cons (pv 1) (pa_cons (pe_op op_add (pv 2) pe_int) pa_nil))) (pa_cons (pe_tup (pa_cons (pe_op op_add (pv 1) pe_int) (pa_cons (pv 2) pa_nil))) pa_nil)))))))), ?_⟩
  obtain ⟨v, rfl, hv⟩ := pre
  refine qy_un2 (y_var rfl hv mono_u) fun H1 e1 => ?_
  exact sy_ret (P := IsPs (TPm.nbs a)) (y_lstP (ya_pcons (z := (a.1 - 1, a.2)) (y_tup2 (y_sub (y_vI rfl) y_c) (y_vI rfl)) (ya_pcons (z := (a.1, a.2 - 1)) (y_tup2 (y_vI rfl) (y_sub (y_vI rfl) y_c)) (ya_pcons (z := (a.1, a.2 + 1)) (y_tup2 (y_vI rfl) (y_add (y_vI rfl) y_c)) (ya_pcons (z := (a.1 + 1, a.2)) (y_tup2 (y_add (y_vI rfl) y_c) (y_vI rfl)) ya_pnil)))) (by show 4 ≤ 1000; decide)) fun v H2 e2 p => kq v H2 (e1.trans e2) p
abbrev spimage : Sp := spF (Pre3P 400) fun a => IsP (TPm.img a.1.1 a.1.2.1 a.1.2.2 a.2)
theorem lenimage : ∀ (a : T3 × Px) (vs : List V) (H : Hp), Pre3P 400 a vs H → vs.length = Pimage.length := fun _ _ _ ⟨_, _, h, _⟩ => by rw [h]; rfl
/-- need_turn_and_pixel ahead of the rest -/
theorem q_need {N : List Str} {v u : V} {r : List (Option V)} {t : T3} {z : Px} {H : Hp} {D : Ends} {tz : TS} (hv : IsU (tvT t) v H) (ht : Turn t) (hu : IsP z u H) (k : ∀ H1, Ex H H1 → tz D (some v :: some u :: r) H1) :
    tSeq (tDrop (tCall spneed_turn_and_pixel [] E0 (tCons (tVar 0) (tCons (tVar 1) tNil)))) tz D (some v :: some u :: r) H :=
  qy_drop (P := Is .non) (y_call (t, z) (ya2 mono_u (y_var rfl hv mono_u) (y_var rfl hu mono_u)) (fun vs H1 _ ⟨v, u, e, h1, h2⟩ => ⟨v, u, e, h1, ht, h2⟩) fun _ _ _ h => h) fun _ H1 e1 _ => k H1 e1
theorem okimage (T : Bl mg) (D : Df K mg "image" simage) (Gneed_turn_and_pixel : Ok1 P w K mg base 5 "need_turn_and_pixel" Pneed_turn_and_pixel spneed_turn_and_pixel) (Gimage_in : Ok1 P w K mg base 4 "image_in" Pimage_in spimage_in) : Ok1 P w K mg base 6 "image" Pimage spimage := by
  refine mk1 (k := 5) D scimage (lenimage) (fun _ _ _ _ _ _ us hl => match us, hl with | [_, _], _ => rfl) fun f cdv A outer s H vs Q E hr a pre kq => ⟨_, (pss_cons (ps_expr (pe_fn Gneed_turn_and_pixel (hr.mono (by decide)) (by rfl) (pa_cons (pv 0) (pa_cons (pv 1) pa_nil))))
      (pss_one (ps_ret (pe_fn Gimage_in (hr.mono (by decide)) (by rfl) (pa_cons (pv 0) (pa_cons (pv 1) pa_nil)))))), ?_⟩
  obtain ⟨v, u, rfl, hv, ht, hu, hz⟩ := pre
  refine q_need (N := Nimage) (r := []) hv ht hu fun H1 e1 => ?_
  exact sy_ret (P := IsP (TPm.img a.1.1 a.1.2.1 a.1.2.2 a.2)) (y_call a (ya2 mono_u (y_var rfl (hv.mo e1) mono_u) (y_var rfl (hu.mo e1) mono_u)) (fun vs H1 _ ⟨v, u, e, h1, h2⟩ => ⟨v, u, e, h1, ht, h2, hz⟩) fun _ _ _ h => h) fun v H2 e2 p => kq v H2 (e1.trans e2) p
/-! rests -/
abbrev sptimes_u : Sp := spF (Pre2P 404) fun a => IsP (TPm.tU a.1.1 a.1.2.1 a.2)
theorem lentimes_u : ∀ (a : A2P) (vs : List V) (H : Hp), Pre2P 404 a vs H → vs.length = Ptimes_u.length := fun _ _ _ ⟨_, _, h, _⟩ => by rw [h]; rfl
theorem oktimes_u (T : Bl mg) (D : Df K mg "times_u" stimes_u) : Ok1 P w K mg base 1 "times_u" Ptimes_u sptimes_u := by
  refine mk1 (k := 0) D sctimes_u (lentimes_u) (fun _ _ _ _ _ _ us hl => match us, hl with | [_, _], _ => rfl) fun f cdv A outer s H vs Q E hr a pre kq => ⟨_, (pss_cons (ps_asg (pe_slice sl_tupA (pv 0) po_none (po_some pe_int)) (pg_tup (by rfl) (pgs_cons (pg_name (i := 2) sctimes_u.nd rfl (Or.inl rfl)) (pgs_cons (pg_name (i := 3) sctimes_u.nd rfl (Or.inl rfl)) pgs_nil))))
      (pss_cons (ps_asg (pv 1) (pg_tup (by rfl) (pgs_cons (pg_name (i := 4) sctimes_u.nd rfl (Or.inl rfl)) (pgs_cons (pg_name (i := 5) sctimes_u.nd rfl (Or.inl rfl)) pgs_nil))))
      (pss_one (ps_ret (pe_tup (pa_cons (pe_op op_sub (pe_op op_mulW (pv 2) (pv 4)) (pe_op op_mulW (pv 3) (pv 5))) (pa_cons (pe_op op_add (pe_op op_mulW (pv 3) (pv 4)) (pe_op op_mulW (pv 2) (pv 5))) pa_nil))))))), ?_⟩
  obtain ⟨v, u, rfl, hv, hpq, hu, hz⟩ := pre
  have sl := y_slT (K := K) (y_var (i := 0) (σ := L2.start Ntimes_u [v, u]) rfl hv mono_u) eo_none (eo_some (i := 2) ev_c)
  rw [cut2] at sl
  refine qy_un2 sl fun H1 e1 => ?_
  refine qy_un2 (y_var rfl (hu.mo e1) mono_u) fun H2 e2 => ?_
  obtain ⟨z1, z2⟩ := hz.na
  exact sy_ret (y_tup2 (y_sub (y_mul 64 405 (y_vI rfl) (y_vI rfl) hpq.p z1) (y_mul 64 405 (y_vI rfl) (y_vI rfl) hpq.q z2)) (y_add (y_mul 64 405 (y_vI rfl) (y_vI rfl) hpq.q z1) (y_mul 64 405 (y_vI rfl) (y_vI rfl) hpq.p z2))) fun v H3 e3 p => kq v H3 ((e1.trans e2).trans e3) p
/-- (turn[0], -turn[1]) -/
theorem y_conj {K : PySem.W.Frag} {σ : L2.St} {H : Hp} {te : TE} {a : A2} (h : Y te σ H (IsU (tv2 a))) : Y (tTup (tCons (tOp (rIxT K) te (tC (.int 0))) (tCons (tUn (rU fun i => .int (-i)) (tOp (rIxT K) te (tC (.int 1)))) tNil))) σ H (IsU (tv2 (a.1, -a.2.1, []))) :=
  y_tup2 (y_ixT h y_c (at0 _ _)) (y_neg (y_ixT h y_c (at1 _ _ _)))
abbrev sptimes_v : Sp := spF (Pre2P 404) fun a => IsP (TPm.tU a.1.1 (-a.1.2.1) a.2)
theorem lentimes_v : ∀ (a : A2P) (vs : List V) (H : Hp), Pre2P 404 a vs H → vs.length = Ptimes_v.length := fun _ _ _ ⟨_, _, h, _⟩ => by rw [h]; rfl
theorem oktimes_v (T : Bl mg) (D : Df K mg "times_v" stimes_v) (Gtimes_u : Ok1 P w K mg base 1 "times_u" Ptimes_u sptimes_u) : Ok1 P w K mg base 2 "times_v" Ptimes_v sptimes_v := by
  refine mk1 (k := 1) D sctimes_v (lentimes_v) (fun _ _ _ _ _ _ us hl => match us, hl with | [_, _], _ => rfl) fun f cdv A outer s H vs Q E hr a pre kq => ⟨_, (pss_one (ps_ret (pe_fn Gtimes_u (hr.mono (by decide)) (by rfl) (pa_cons (pe_tup (pa_cons (pe_ix ix_tup (pv 0) pe_int (fun _ _ => rfl)) (pa_cons (pe_un un_neg (pe_ix ix_tup (pv 0) pe_int (fun _ _ => rfl))) pa_nil))) (pa_cons (pv 1) pa_nil))))), ?_⟩
  obtain ⟨v, u, rfl, hv, hpq, hu, hz⟩ := pre
  exact sy_ret (P := IsP (TPm.tU a.1.1 (-a.1.2.1) a.2)) (y_call ((a.1.1, -a.1.2.1, []), a.2) (ya2 mono_u (y_conj (a := a.1) (y_var rfl hv mono_u)) (y_var rfl hu mono_u)) (fun vs H1 _ ⟨v, u, e, h1, h2⟩ => ⟨v, u, e, h1, hpq.neg, h2, hz⟩) fun _ _ _ h => h) kq
abbrev sprest_in : Sp := spF (Pre2O 330) fun a => IsP (TPm.rest a.1.1 a.1.2.1 a.2)
theorem lenrest_in : ∀ (a : A2P) (vs : List V) (H : Hp), Pre2O 330 a vs H → vs.length = Prest_in.length := fun _ _ _ ⟨_, _, h, _⟩ => by rw [h]; rfl
theorem okrest_in (T : Bl mg) (D : Df K mg "rest_in" srest_in) (Gtimes_u : Ok1 P w K mg base 1 "times_u" Ptimes_u sptimes_u) (Gtimes_v : Ok1 P w K mg base 2 "times_v" Ptimes_v sptimes_v) (Gplain_image : Ok1 P w K mg base 3 "plain_image" Pplain_image spplain_image) : Ok1 P w K mg base 4 "rest_in" Prest_in sprest_in := by
  refine mk1 (k := 3) D screst_in (lenrest_in) (fun _ _ _ _ _ _ us hl => match us, hl with | [_, _], _ => rfl) fun f cdv A outer s H vs Q E hr a pre kq => ⟨_, (pss_cons (ps_par (i := 2) (j := 3) (by rfl) screst_in.nd rfl rfl (by decide) rfl rfl (pa_cons (pe_fn Gtimes_u (hr.mono (by decide)) (by rfl) (pa_cons (pv 0) (pa_cons (pv 1) pa_nil))) (pa_cons (pe_fn Gtimes_v (hr.mono (by decide)) (by rfl) (pa_cons (pv 0) (pa_cons (pe_fn Gplain_image (hr.mono (by decide)) (by rfl) (pa_cons (pv 0) (pa_cons (pv 1) pa_nil))) pa_nil))) pa_nil)) (by rfl))
      (pss_one (ps_ret (pe_tup (pa_cons (pe_op op_sub (pe_ix ix_tup (pv 2) pe_int (fun _ _ => rfl)) (pe_ix ix_tup (pv 3) pe_int (fun _ _ => rfl))) (pa_cons (pe_op op_sub (pe_ix ix_tup (pv 2) pe_int (fun _ _ => rfl)) (pe_ix ix_tup (pv 3) pe_int (fun _ _ => rfl))) pa_nil)))))), ?_⟩
  obtain ⟨v, u, rfl, hv, hpq, hu, hz, ho⟩ := pre
  refine qy_parP (Pa := IsP (TPm.tU a.1.1 a.1.2.1 a.2)) (Pb := IsP (TPm.tU a.1.1 (-a.1.2.1) (TPm.img0 a.1.1 a.1.2.1 a.2))) mono_u (y_call a (ya2 mono_u (y_var rfl hv mono_u) (y_var rfl hu mono_u)) (fun vs H1 _ ⟨v, u, e, h1, h2⟩ => ⟨v, u, e, h1, hpq, h2, hz.mono (by decide)⟩) fun _ _ _ h => h)
    (y_call (a.1, TPm.img0 a.1.1 a.1.2.1 a.2) (ya2 mono_u (y_var rfl hv mono_u) (y_call a (ya2 mono_u (y_var rfl hv mono_u) (y_var rfl hu mono_u)) (fun vs H1 _ ⟨v, u, e, h1, h2⟩ => ⟨v, u, e, h1, hpq, h2, hz.mono (by decide), ho⟩) fun _ _ _ h => h)) (fun vs H1 _ ⟨v, u, e, h1, h2⟩ => ⟨v, u, e, h1, hpq, h2, (hz.img0 ho).mono (by decide)⟩) fun _ _ _ h => h) fun x y H1 e1 hx hy => ?_
  exact sy_ret (P := IsP (TPm.rest a.1.1 a.1.2.1 a.2)) (y_tup2 (y_sub (y_ixT (y_var rfl hx mono_u) y_c rfl) (y_ixT (y_var rfl hy mono_u) y_c rfl)) (y_sub (y_ixT (y_var rfl hx mono_u) y_c rfl) (y_ixT (y_var rfl hy mono_u) y_c rfl))) fun v H2 e2 p => kq v H2 (e1.trans e2) p
abbrev inn (p q : Int) (z : Px) : Bool := decide (TPm.absI (TPm.tU p q z).1 ≤ TPm.sizeC p q / 2) && decide (TPm.absI (TPm.tU p q z).2 ≤ TPm.sizeC p q / 2)
abbrev spwithin : Sp := spF (Pre2P 404) fun a => IsB (inn a.1.1 a.1.2.1 a.2)
theorem lenwithin : ∀ (a : A2P) (vs : List V) (H : Hp), Pre2P 404 a vs H → vs.length = Pwithin.length := fun _ _ _ ⟨_, _, h, _⟩ => by rw [h]; rfl
theorem okwithin (T : Bl mg) (D : Df K mg "within" swithin) (Gsize_of : Ok1 P w K mg base 1 "size_of" Psize_of spsize_of) (Gtimes_u : Ok1 P w K mg base 1 "times_u" Ptimes_u sptimes_u) : Ok1 P w K mg base 2 "within" Pwithin spwithin := by
  refine mk1 (k := 1) D scwithin (lenwithin) (fun _ _ _ _ _ _ us hl => match us, hl with | [_, _], _ => rfl) fun f cdv A outer s H vs Q E hr a pre kq => ⟨_, (pss_cons (ps_set (i := 2) scwithin.nd rfl (Or.inr rfl) (pe_op op_fdivW (pe_fn Gsize_of (hr.mono (by decide)) (by rfl) (pa_cons (pv 0) pa_nil)) pe_int))
      (pss_one (ps_ret (pe_callB (cr_all rfl) (by rfl) T.m_all (by decide +kernel) (pa_cons (pe_lc (own := [("part", 3)]) (by rfl) scwithin.nd (pi_tup (pe_fn Gtimes_u (hr.mono (by decide)) (by rfl) (pa_cons (pv 0) (pa_cons (pv 1) pa_nil)))) (blkOk_by (own := [("part", 3)]) (N := Nwithin) (sc := defScope swithin) (by decide +kernel)) (fun _ _ _ _ _ => (pg_name (i := 3) scwithin.nd rfl (Or.inl rfl))) (fun _ _ _ _ _ => pts_nil) (fun _ _ _ _ _ => (pe_cmpR op_le (pe_callB call_abs (by rfl) T.m_abs (by decide +kernel) (pa_cons (pv 3) pa_nil)) (pv 2) (nomark _)))) pa_nil))))), ?_⟩
  obtain ⟨v, u, rfl, hv, hpq, hu, hz⟩ := pre
  refine qy_asgI (y_dv 2 (y_call a.1 (ya1 (y_var rfl hv mono_u)) (fun vs H1 _ ⟨v, e, h1⟩ => ⟨v, e, h1, hpq⟩) fun _ _ _ h => h) y_c (by decide) (by decide)) fun H1 e1 => ?_
  refine sy_ret (P := IsB (inn a.1.1 a.1.2.1 a.2)) ((y_all (n := 2) (b := fun i => [decide (TPm.absI (TPm.tU a.1.1 a.1.2.1 a.2).1 ≤ TPm.sizeC a.1.1 a.1.2.1 / 2), decide (TPm.absI (TPm.tU a.1.1 a.1.2.1 a.2).2 ≤ TPm.sizeC a.1.1 a.1.2.1 / 2)].getD i true) (y_lcT (xs := tv (TPm.tU a.1.1 a.1.2.1 a.2)) (fun _ => true) _ (fun _ => mono_is) (fun _ => loc_is) ?_ (by show 2 ≤ 40000; decide) (fun _ => rfl) (fun _ _ _ _ _ => et_yes) ?_)).val ?_) fun v H2 e2 p => kq v H2 (e1.trans e2) p
  · exact y_call a (ya2 mono_u (y_var rfl (hv.mo e1) mono_u) (y_var rfl (hu.mo e1) mono_u)) (fun vs H1 _ ⟨v, u, e, h1, h2⟩ => ⟨v, u, e, h1, hpq, h2, hz⟩) fun _ _ _ h => h
  · intro i x H2 e2 hx _
    match i, hx with
    | 0, hx => cases hx; exact y_i0 (y_abs (y_vI rfl)) (y_vI rfl)
    | 1, hx => cases hx; exact y_i0 (y_abs (y_vI rfl)) (y_vI rfl)
    | i + 2, hx => cases hx
  · show V.bl (_ && (_ && true)) = _
    rw [Bool.and_true]
    rfl
abbrev spleads_back : Sp := spF (Pre2P 404) fun a => IsB (inn a.1.1 (-a.1.2.1) a.2)
theorem lenleads_back : ∀ (a : A2P) (vs : List V) (H : Hp), Pre2P 404 a vs H → vs.length = Pleads_back.length := fun _ _ _ ⟨_, _, h, _⟩ => by rw [h]; rfl
theorem okleads_back (T : Bl mg) (D : Df K mg "leads_back" sleads_back) (Gwithin : Ok1 P w K mg base 2 "within" Pwithin spwithin) : Ok1 P w K mg base 3 "leads_back" Pleads_back spleads_back := by
  refine mk1 (k := 2) D scleads_back (lenleads_back) (fun _ _ _ _ _ _ us hl => match us, hl with | [_, _], _ => rfl) fun f cdv A outer s H vs Q E hr a pre kq => ⟨_, (pss_one (ps_ret (pe_fn Gwithin (hr.mono (by decide)) (by rfl) (pa_cons (pe_tup (pa_cons (pe_ix ix_tup (pv 0) pe_int (fun _ _ => rfl)) (pa_cons (pe_un un_neg (pe_ix ix_tup (pv 0) pe_int (fun _ _ => rfl))) pa_nil))) (pa_cons (pv 1) pa_nil))))), ?_⟩
  obtain ⟨v, u, rfl, hv, hpq, hu, hz⟩ := pre
  exact sy_ret (P := IsB (inn a.1.1 (-a.1.2.1) a.2)) (y_call ((a.1.1, -a.1.2.1, []), a.2) (ya2 mono_u (y_conj (a := a.1) (y_var rfl hv mono_u)) (y_var rfl hu mono_u)) (fun vs H1 _ ⟨v, u, e, h1, h2⟩ => ⟨v, u, e, h1, hpq.neg, h2, hz⟩) fun _ _ _ h => h) kq
theorem rest_sz {p q : Int} (hpq : PQ p q) (ho : TPm.Ok p q) {z : Px} (hz : Sz 330 z) : Sz 404 (TPm.rest p q z) := by
  have a := hpq.tU hz
  have b := hpq.neg.tU (hz.img0 ho)
  have c1 := na_sub (na_up a.1 (show 330 + 66 ≤ 330 + 2 + 66 by decide)) b.1
  have c2 := na_sub (na_up a.2 (show 330 + 66 ≤ 330 + 2 + 66 by decide)) b.2
  exact ⟨Nat.le_of_lt (na_up c1 (by decide)), Nat.le_of_lt (na_up c2 (by decide))⟩
abbrev spcomes_back : Sp := spF (Pre3P 330) fun a => IsB (TPm.backs a.1.1 a.1.2.1 a.2)
theorem lencomes_back : ∀ (a : T3 × Px) (vs : List V) (H : Hp), Pre3P 330 a vs H → vs.length = Pcomes_back.length := fun _ _ _ ⟨_, _, h, _⟩ => by rw [h]; rfl
theorem okcomes_back (T : Bl mg) (D : Df K mg "comes_back" scomes_back) (Gneed_turn_and_pixel : Ok1 P w K mg base 5 "need_turn_and_pixel" Pneed_turn_and_pixel spneed_turn_and_pixel) (Gleads_back : Ok1 P w K mg base 3 "leads_back" Pleads_back spleads_back) (Grest_in : Ok1 P w K mg base 4 "rest_in" Prest_in sprest_in) : Ok1 P w K mg base 6 "comes_back" Pcomes_back spcomes_back := by
  refine mk1 (k := 5) D sccomes_back (lencomes_back) (fun _ _ _ _ _ _ us hl => match us, hl with | [_, _], _ => rfl) fun f cdv A outer s H vs Q E hr a pre kq => ⟨_, (pss_cons (ps_expr (pe_fn Gneed_turn_and_pixel (hr.mono (by decide)) (by rfl) (pa_cons (pv 0) (pa_cons (pv 1) pa_nil))))
      (pss_one (ps_ret (pe_fn Gleads_back (hr.mono (by decide)) (by rfl) (pa_cons (pv 0) (pa_cons (pe_fn Grest_in (hr.mono (by decide)) (by rfl) (pa_cons (pv 0) (pa_cons (pv 1) pa_nil))) pa_nil)))))), ?_⟩
  obtain ⟨v, u, rfl, hv, ht, hu, hz⟩ := pre
  refine q_need (N := Ncomes_back) (r := []) hv ht hu fun H1 e1 => ?_
  refine sy_ret (P := IsB (TPm.backs a.1.1 a.1.2.1 a.2)) (y_call (i2 a.1, TPm.rest a.1.1 a.1.2.1 a.2) (ya2 mono_u (y_var rfl (hv.mo e1) mono_u) (y_call (P := IsP (TPm.rest a.1.1 a.1.2.1 a.2)) (i2 a.1, a.2) (ya2 mono_u (y_var rfl (hv.mo e1) mono_u) (y_var rfl (hu.mo e1) mono_u)) (fun vs H1 _ ⟨v, u, e, h1, h2⟩ => ⟨v, u, e, h1, ht.pq, h2, hz, ht.ok⟩) fun _ _ _ h => h)) (fun vs H1 _ ⟨v, u, e, h1, h2⟩ => ⟨v, u, e, h1, ht.pq, h2, rest_sz ht.pq ht.ok hz⟩) fun _ _ _ h => h) fun v H2 e2 p => kq v H2 (e1.trans e2) p
end
end TPx

/-! The defs of sources: what each promises, and why it keeps it. -/
namespace TPy
open PySem PySem.Spec PyProof.Rows L2 Evl
open TPs hiding Px
section
variable {K : PySem.W.Frag} {σ : L2.St} {H H' : Hp} {tl : TE} {D : Ends} {tu tz : TS} {g : TG}
/-- a loop over pixels whose body only extends the heap -/
theorem s_forP {zs : List Px} (h : Y tl σ H (IsPs zs)) (Pv : Nat → L2.St → Hp → Prop) (h0 : ∀ H1, Ex H H1 → Pv 0 σ H1)
    (hs : ∀ H1, Ex H H1 → ∀ i x z σ' H', Ex H1 H' → zs[i]? = some z → IsP z x H' → Pv i σ' H' → g x σ' H' fun σ2 H2 => tu { D with nx := fun σ3 H3 => Ex H1 H3 ∧ Pv (i + 1) σ3 H3, ct := fun σ3 H3 => Ex H1 H3 ∧ Pv (i + 1) σ3 H3, bk := D.nx } σ2 H2)
    (hd : ∀ σ' H', Ex H H' → Pv zs.length σ' H' → D.nx σ' H') : tFor (iList K tl) g tu D σ H :=
  h H (Ex.refl H) _ fun v H1 e ⟨a, xs, ea, hx, hp⟩ => ⟨a, ea, ⟨xs, sq_of hx⟩, for_list (xs := xs) (fun i σ' H' => Ex H1 H' ∧ Pv i σ' H') ⟨Ex.refl H1, h0 H1 e⟩ (fun i σ' H' _ p => sq_of (p.1 a _ hx)) (fun i x σ' H' hi p => by
    obtain ⟨z, g1, g2⟩ := hp.get hi
    exact hs H1 e i x z σ' H' p.1 g1 (mono_u _ _ _ p.1 g2) p.2) (fun σ' H' p => hd σ' H' (e.trans p.1) (by rw [← hp.len]; exact p.2))⟩
theorem q_forP {zs : List Px} (h : Y tl σ H (IsPs zs)) (Pv : Nat → L2.St → Hp → Prop) (h0 : ∀ H1, Ex H H1 → Pv 0 σ H1)
    (hs : ∀ H1, Ex H H1 → ∀ i x z σ' H', Ex H1 H' → zs[i]? = some z → IsP z x H' → Pv i σ' H' → g x σ' H' fun σ2 H2 => tu { D with nx := fun σ3 H3 => Ex H1 H3 ∧ Pv (i + 1) σ3 H3, ct := fun σ3 H3 => Ex H1 H3 ∧ Pv (i + 1) σ3 H3, bk := tz D } σ2 H2)
    (hd : ∀ σ' H', Ex H H' → Pv zs.length σ' H' → tz D σ' H') : tSeq (tFor (iList K tl) g tu) tz D σ H := s_forP (D := { D with nx := tz D }) h Pv h0 hs hd
end
end TPy
namespace TPx
open PySem PySem.Spec PyProof.Rows L2 TPy Evl
open TPs hiding Px
section
variable {P : Program} {w : World} {K : PySem.W.Frag} {mg : Str → Option Value} {base : Heap}
/-- the sources of g -/
def IsSo (t : T3) (g : Px) : VP := fun v H => ∃ zs, IsPs zs v H ∧ (∀ z, z ∈ zs ↔ TPm.img t.1 t.2.1 t.2.2 z = g) ∧ zs.length ≤ 5
abbrev spsources_in : Sp := spF (Pre3P 360) fun a => IsSo a.1 a.2
theorem lensources_in : ∀ (a : T3 × Px) (vs : List V) (H : Hp), Pre3P 360 a vs H → vs.length = Psources_in.length := fun _ _ _ ⟨_, _, h, _⟩ => by rw [h]; rfl
theorem oksources_in (T : Bl mg) (D : Df K mg "sources_in" ssources_in) (Gquartered : Ok1 P w K mg base 1 "quartered" Pquartered spquartered) (Gplain_image : Ok1 P w K mg base 3 "plain_image" Pplain_image spplain_image) (Gneighbours : Ok1 P w K mg base 1 "neighbours" Pneighbours spneighbours) : Ok1 P w K mg base 4 "sources_in" Psources_in spsources_in := by
  refine mk1 (k := 3) D scsources_in (lensources_in) (fun _ _ _ _ _ _ us hl => match us, hl with | [_, _], _ => rfl) fun f cdv A outer s H vs Q E hr a pre kq => ⟨_, (pss_cons (ps_set (i := 2) scsources_in.nd rfl (Or.inr rfl) (pe_fn Gquartered (hr.mono (by decide)) (by rfl) (pa_cons (pv 1) (pa_cons (pe_un un_neg (pe_ix ix_tup (pv 0) pe_int (fun _ _ => rfl))) pa_nil))))
      (pss_cons (ps_set (i := 3) scsources_in.nd rfl (Or.inl rfl) (pe_fn Gplain_image (hr.mono (by decide)) (by rfl) (pa_cons (pe_tup (pa_cons (pe_ix ix_tup (pv 0) pe_int (fun _ _ => rfl)) (pa_cons (pe_un un_neg (pe_ix ix_tup (pv 0) pe_int (fun _ _ => rfl))) pa_nil))) (pa_cons (pv 2) pa_nil))))
      (pss_one (ps_ret (pe_callB (cr_sortD hr.units) (by rfl) T.m_sorted (by decide +kernel) (pa_cons (pe_lc (own := [("one", 4)]) (by rfl) scsources_in.nd (pi_list (pe_lst (pa_cons (pv 3) (StX.pa_star (pe_fn Gneighbours (hr.mono (by decide)) (by rfl) (pa_cons (pv 3) pa_nil)) pa_nil)))) (blkOk_by (own := [("one", 4)]) (N := Nsources_in) (sc := defScope ssources_in) (by decide +kernel)) (fun _ _ _ _ _ => (pg_name (i := 4) scsources_in.nd rfl (Or.inl rfl))) (fun _ _ _ _ _ => (pts_one (pt_cmpR (op_eqDK (K := K) rfl hr.units) (pe_fn Gplain_image (hr.mono (by decide)) (by rfl) (pa_cons (pv 0) (pa_cons (pv 4) pa_nil))) (pv 2) (nomark _)))) (fun _ _ _ _ _ => (pv 4))) pa_nil)))))), ?_⟩
  obtain ⟨v, u, rfl, hv, ht, hu, hz⟩ := pre
  refine qy_asg (P := IsP (TPm.quart a.2 (-a.1.2.2))) (y_call (a.2, -a.1.2.2) (ya2 (Pb := IsI (-a.1.2.2)) mono_u (y_var rfl hu mono_u) (y_neg (y_ixT (y_var rfl hv mono_u) y_c rfl))) (fun vs H1 _ ⟨v, u, e, h1, h2⟩ => ⟨v, by rw [e, show u = _ from h2], h1⟩) fun _ _ _ h => h) fun gv H1 e1 hg => ?_
  have zg : Sz 360 (TPm.quart a.2 (-a.1.2.2)) := hz.quart _
  have zn : Sz 362 (TPm.img0 a.1.1 (-a.1.2.1) (TPm.quart a.2 (-a.1.2.2))) := zg.img0 ht.ok.neg
  refine qy_asg (P := IsP (TPm.img0 a.1.1 (-a.1.2.1) (TPm.quart a.2 (-a.1.2.2)))) (y_call ((a.1.1, -a.1.2.1, []), TPm.quart a.2 (-a.1.2.2)) (ya2 mono_u (y_conj (a := i2 a.1) (y_var rfl (hv.mo e1) mono_u)) (y_var rfl hg mono_u)) (fun vs H1 _ ⟨v, u, e, h1, h2⟩ => ⟨v, u, e, h1, ht.pq.neg, h2, zg.mono (by decide), ht.ok.neg⟩) fun _ _ _ h => h) fun nv H2 e2 hn => ?_
  have src : ∀ z, z ∈ (TPm.img0 a.1.1 (-a.1.2.1) (TPm.quart a.2 (-a.1.2.2)) :: TPm.nbs (TPm.img0 a.1.1 (-a.1.2.1) (TPm.quart a.2 (-a.1.2.2)))).filter (fun o => decide (TPm.img0 a.1.1 a.1.2.1 o = TPm.quart a.2 (-a.1.2.2))) ↔ TPm.img a.1.1 a.1.2.1 a.1.2.2 z = a.2 := by
    intro z
    rw [List.mem_filter, decide_eq_true_iff, TPm.img_iff, List.mem_cons]
    exact ⟨fun h => h.2, fun h => ⟨TPm.source_near ht.ok h, h⟩⟩
  refine sy_ret (P := IsSo a.1 a.2) ((y_sortP (y_lcF (zs := TPm.img0 a.1.1 (-a.1.2.1) (TPm.quart a.2 (-a.1.2.2)) :: TPm.nbs (TPm.img0 a.1.1 (-a.1.2.1) (TPm.quart a.2 (-a.1.2.2)))) (fun o => decide (TPm.img0 a.1.1 a.1.2.1 o = TPm.quart a.2 (-a.1.2.2))) ?_ (by show 5 ≤ 40000; decide) (fun _ => rfl) (fun _ => rfl) ?_)).imp ?_) fun v H3 e3 p => kq v H3 ((e1.trans e2).trans e3) p
  · exact y_lstP (ya_pcons (y_var rfl hn mono_u) (ya_star (y_call _ (ya1 (y_var rfl hn mono_u)) (fun vs H1 _ h => h) fun _ _ _ h => h))) (by show 5 ≤ 1000; decide)
  · intro x z H3 e3 hm hx
    have zz : Sz 364 z := by
      rcases List.mem_cons.mp hm with q | q
      · rw [q]; exact zn.mono (by decide)
      · exact zn.nbs q
    refine yt_test (y_eqP (y_call (i2 a.1, z) (ya2 mono_u (y_var rfl (((hv.mo e1).mo e2).mo e3) mono_u) (y_var rfl hx mono_u)) (fun vs H1 _ ⟨v, u, e, h1, h2⟩ => ⟨v, u, e, h1, ht.pq, h2, zz.mono (by decide), ht.ok⟩) fun _ _ _ h => h) (y_var rfl ((hg.mo e2).mo e3) mono_u))
  · rintro v H3 e3 ⟨zs, p, hz⟩
    refine ⟨zs, hz, fun z => (p.mem_iff).trans (src z), ?_⟩
    rw [p.length_eq]
    exact List.length_filter_le _ _
abbrev spmate_in : Sp := spF (Pre3P 360) fun a => IsO (TPm.mate a.1.1 a.1.2.1 a.2)
theorem lenmate_in : ∀ (a : T3 × Px) (vs : List V) (H : Hp), Pre3P 360 a vs H → vs.length = Pmate_in.length := fun _ _ _ ⟨_, _, h, _⟩ => by rw [h]; rfl
theorem find_at {α : Type} {f : α → Bool} : ∀ {l : List α} {i : Nat} {z : α}, l[i]? = some z → f z = true → (∀ y ∈ l.take i, f y = false) → l.find? f = some z
  | x :: l, 0, z, h, hz, _ => by cases h; rw [List.find?_cons, hz]
  | x :: l, i + 1, z, h, hz, hn => by
    rw [List.find?_cons, hn x (by rw [List.take_succ_cons]; exact List.mem_cons_self)]
    exact find_at (i := i) h hz fun y hy => hn y (by rw [List.take_succ_cons]; exact List.mem_cons_of_mem _ hy)
theorem okmate_in (T : Bl mg) (D : Df K mg "mate_in" smate_in) (Gplain_image : Ok1 P w K mg base 3 "plain_image" Pplain_image spplain_image) (Gneighbours : Ok1 P w K mg base 1 "neighbours" Pneighbours spneighbours) : Ok1 P w K mg base 4 "mate_in" Pmate_in spmate_in := by
  refine mk1 (k := 3) D scmate_in (lenmate_in) (fun _ _ _ _ _ _ us hl => match us, hl with | [_, _], _ => rfl) fun f cdv A outer s H vs Q E hr a pre kq => ⟨_, (pss_cons (ps_set (i := 2) scmate_in.nd rfl (Or.inl rfl) (pe_fn Gplain_image (hr.mono (by decide)) (by rfl) (pa_cons (pv 0) (pa_cons (pv 1) pa_nil))))
      (pss_cons (ps_for PassesOwn.never (by rfl) (pi_list (pe_fn Gneighbours (hr.mono (by decide)) (by rfl) (pa_cons (pv 1) pa_nil))) (pg_name (i := 3) scmate_in.nd rfl (Or.inl rfl)) (pss_one (ps_if (pt_cmpR (op_eqD hr.units) (pe_fn Gplain_image (hr.mono (by decide)) (by rfl) (pa_cons (pv 0) (pa_cons (pv 3) pa_nil))) (pv 2) (nomark _)) (pss_one (ps_ret (pv 3))) pss_nil)))
      (pss_one (ps_ret pe_non)))), ?_⟩
  obtain ⟨v, u, rfl, hv, ht, hu, hz⟩ := pre
  have img : ∀ {N : List (Option V)} {i : Nat} {x : V} {z : Px} {H1 : Hp}, Ex H H1 → (some v :: N)[i]? = some (some x) → IsP z x H1 → Sz 364 z → Y (tCall spplain_image [] E0 (tCons (tVar 0) (tCons (tVar i) tNil))) (some v :: N) H1 (IsP (TPm.img0 a.1.1 a.1.2.1 z)) := fun {N i x z H1} e g hx zz =>
    y_call (i2 a.1, z) (ya2 mono_u (y_var rfl (hv.mo e) mono_u) (y_var g hx mono_u)) (fun vs H1 _ ⟨v, u, e, h1, h2⟩ => ⟨v, u, e, h1, ht.pq, h2, zz.mono (by decide), ht.ok⟩) fun _ _ _ h => h
  refine qy_asg (img (N := [some u, none, none]) (i := 1) (Ex.refl H) rfl hu (hz.mono (by decide))) fun gv H1 e1 hg => ?_
  refine q_forP (zs := TPm.nbs a.2) (y_call a.2 (ya1 (y_var rfl (hu.mo e1) mono_u)) (fun vs H1 _ h => h) fun _ _ _ h => h) (fun i σ' H' => ∃ st, σ' = [some v, some u, some gv, st] ∧ ∀ y ∈ (TPm.nbs a.2).take i, decide (TPm.img0 a.1.1 a.1.2.1 y = TPm.img0 a.1.1 a.1.2.1 a.2) = false) (fun H2 e2 => ⟨_, rfl, fun y hy => by rw [List.take_zero] at hy; cases hy⟩) ?_ ?_
  · rintro H2 e2 i x z σ' H3 e3 hi hx ⟨st, rfl, hno⟩
    have zz : Sz 362 z := hz.nbs (List.mem_of_getElem? hi)
    refine s_when (yt_test (y_eqP (img (N := [some u, some gv, some x]) (i := 3) ((e1.trans e2).trans e3) rfl hx (zz.mono (by decide))) (y_var rfl ((hg.mo e2).mo e3) mono_u))) (fun hb H4 e4 => ?_) (fun hb H4 e4 => ?_)
    · refine sy_ret (P := IsP z) (y_var rfl (hx.mo e4) mono_u) fun w H5 e5 p => kq w H5 ((((e1.trans e2).trans e3).trans e4).trans e5) (.inl ⟨z, find_at hi hb hno, p⟩)
    · refine ⟨e3.trans e4, _, rfl, fun y hy => ?_⟩
      rw [TPm.take_snoc hi, List.mem_append, List.mem_singleton] at hy
      rcases hy with hy | rfl
      · exact hno y hy
      · exact hb
  · rintro σ' H2 e2 ⟨st, rfl, hno⟩
    refine sy_ret y_c fun w H5 e5 p => kq w H5 ((e1.trans e2).trans e5) (.inr ⟨?_, p⟩)
    refine List.find?_eq_none.mpr fun y hy hb => ?_
    have := hno y (by rw [List.take_length]; exact hy)
    rw [hb] at this
    cases this
abbrev spcame_from : Sp := spF (Pre3P 360) fun a => IsSo a.1 a.2
theorem lencame_from : ∀ (a : T3 × Px) (vs : List V) (H : Hp), Pre3P 360 a vs H → vs.length = Pcame_from.length := fun _ _ _ ⟨_, _, h, _⟩ => by rw [h]; rfl
theorem okcame_from (T : Bl mg) (D : Df K mg "came_from" scame_from) (Gneed_turn_and_pixel : Ok1 P w K mg base 5 "need_turn_and_pixel" Pneed_turn_and_pixel spneed_turn_and_pixel) (Gsources_in : Ok1 P w K mg base 4 "sources_in" Psources_in spsources_in) : Ok1 P w K mg base 6 "came_from" Pcame_from spcame_from := by
  refine mk1 (k := 5) D sccame_from (lencame_from) (fun _ _ _ _ _ _ us hl => match us, hl with | [_, _], _ => rfl) fun f cdv A outer s H vs Q E hr a pre kq => ⟨_, (pss_cons (ps_expr (pe_fn Gneed_turn_and_pixel (hr.mono (by decide)) (by rfl) (pa_cons (pv 0) (pa_cons (pv 1) pa_nil))))
      (pss_one (ps_ret (pe_fn Gsources_in (hr.mono (by decide)) (by rfl) (pa_cons (pv 0) (pa_cons (pv 1) pa_nil)))))), ?_⟩
  obtain ⟨v, u, rfl, hv, ht, hu, hz⟩ := pre
  refine q_need (N := Ncame_from) (r := []) hv ht hu fun H1 e1 => ?_
  exact sy_ret (P := IsSo a.1 a.2) (y_call a (ya2 mono_u (y_var rfl (hv.mo e1) mono_u) (y_var rfl (hu.mo e1) mono_u)) (fun vs H1 _ ⟨v, u, e, h1, h2⟩ => ⟨v, u, e, h1, ht, h2, hz⟩) fun _ _ _ h => h) fun v H2 e2 p => kq v H2 (e1.trans e2) p
/-- no source at all -/
abbrev Bare (t : T3) (g : Px) : Prop := ∀ z, TPm.img t.1 t.2.1 t.2.2 z ≠ g
abbrev IsBr (t : T3) (g : Px) : VP := fun v _ => ∃ b : Bool, v = .bl b ∧ (b = true ↔ Bare t g)
theorem mono_so {t : T3} {g : Px} : Mono (IsSo t g) := fun _ _ _ e ⟨zs, h, r⟩ => ⟨zs, mono_ps _ _ _ e h, r⟩
theorem y_bare {K : PySem.W.Frag} {σ : L2.St} {H : Hp} {te : TE} {t : T3} {g : Px} (h : Y te σ H (IsSo t g)) : Y (tOp (rEqD K) te (tLst tNil)) σ H (IsBr t g) :=
  y_op mono_so h (y_lstP ya_pnil (by decide)) fun x y H1 _ ⟨zs, hx, hm, _⟩ hy Q q => ⟨_, _, dp_pxs hx, dp_pxs hy, pdl_shaped zs, pdl_shaped [], q _ H1 (Ex.refl H1) ⟨_, rfl, by
    rw [show PyData.eqv (.list (zs.map pd)) (.list (([] : List Px).map pd)) = PyData.eqvAll (zs.map pd) (([] : List Px).map pd) by rw [PyData.eqv], pds_eqv, decide_eq_true_iff]
    constructor
    · rintro rfl z e
      exact absurd ((hm z).mpr e) (fun z => nomatch z)
    · intro b
      cases zs with
      | nil => rfl
      | cons z zs => exact absurd ((hm z).mp List.mem_cons_self) (b z)⟩⟩
abbrev spis_bare : Sp := spF (Pre3P 360) fun a => IsBr a.1 a.2
theorem lenis_bare : ∀ (a : T3 × Px) (vs : List V) (H : Hp), Pre3P 360 a vs H → vs.length = Pis_bare.length := fun _ _ _ ⟨_, _, h, _⟩ => by rw [h]; rfl
theorem okis_bare (T : Bl mg) (D : Df K mg "is_bare" sis_bare) (Gneed_turn_and_pixel : Ok1 P w K mg base 5 "need_turn_and_pixel" Pneed_turn_and_pixel spneed_turn_and_pixel) (Gsources_in : Ok1 P w K mg base 4 "sources_in" Psources_in spsources_in) : Ok1 P w K mg base 6 "is_bare" Pis_bare spis_bare := by
  refine mk1 (k := 5) D scis_bare (lenis_bare) (fun _ _ _ _ _ _ us hl => match us, hl with | [_, _], _ => rfl) fun f cdv A outer s H vs Q E hr a pre kq => ⟨_, (pss_cons (ps_expr (pe_fn Gneed_turn_and_pixel (hr.mono (by decide)) (by rfl) (pa_cons (pv 0) (pa_cons (pv 1) pa_nil))))
      (pss_one (ps_ret (pe_cmpR (op_eqD hr.units) (pe_fn Gsources_in (hr.mono (by decide)) (by rfl) (pa_cons (pv 0) (pa_cons (pv 1) pa_nil))) (pe_lst pa_nil) (nomark _))))), ?_⟩
  obtain ⟨v, u, rfl, hv, ht, hu, hz⟩ := pre
  refine q_need (N := Nis_bare) (r := []) hv ht hu fun H1 e1 => ?_
  exact sy_ret (P := IsBr a.1 a.2) (y_bare (y_call a (ya2 mono_u (y_var rfl (hv.mo e1) mono_u) (y_var rfl (hu.mo e1) mono_u)) (fun vs H1 _ ⟨v, u, e, h1, h2⟩ => ⟨v, u, e, h1, ht, h2, hz⟩) fun _ _ _ h => h)) fun v H2 e2 p => kq v H2 (e1.trans e2) p
abbrev spmeeting : Sp := spF (Pre3P 360) fun a => IsO (TPm.mate a.1.1 a.1.2.1 a.2)
theorem lenmeeting : ∀ (a : T3 × Px) (vs : List V) (H : Hp), Pre3P 360 a vs H → vs.length = Pmeeting.length := fun _ _ _ ⟨_, _, h, _⟩ => by rw [h]; rfl
theorem okmeeting (T : Bl mg) (D : Df K mg "meeting" smeeting) (Gneed_turn_and_pixel : Ok1 P w K mg base 5 "need_turn_and_pixel" Pneed_turn_and_pixel spneed_turn_and_pixel) (Gmate_in : Ok1 P w K mg base 4 "mate_in" Pmate_in spmate_in) : Ok1 P w K mg base 6 "meeting" Pmeeting spmeeting := by
  refine mk1 (k := 5) D scmeeting (lenmeeting) (fun _ _ _ _ _ _ us hl => match us, hl with | [_, _], _ => rfl) fun f cdv A outer s H vs Q E hr a pre kq => ⟨_, (pss_cons (ps_expr (pe_fn Gneed_turn_and_pixel (hr.mono (by decide)) (by rfl) (pa_cons (pv 0) (pa_cons (pv 1) pa_nil))))
      (pss_one (ps_ret (pe_fn Gmate_in (hr.mono (by decide)) (by rfl) (pa_cons (pv 0) (pa_cons (pv 1) pa_nil)))))), ?_⟩
  obtain ⟨v, u, rfl, hv, ht, hu, hz⟩ := pre
  refine q_need (N := Nmeeting) (r := []) hv ht hu fun H1 e1 => ?_
  exact sy_ret (P := IsO (TPm.mate a.1.1 a.1.2.1 a.2)) (y_call a (ya2 mono_u (y_var rfl (hv.mo e1) mono_u) (y_var rfl (hu.mo e1) mono_u)) (fun vs H1 _ ⟨v, u, e, h1, h2⟩ => ⟨v, u, e, h1, ht, h2, hz⟩) fun _ _ _ h => h) fun v H2 e2 p => kq v H2 (e1.trans e2) p
end
end TPx

/-! The defs of shears: what each promises, and why it keeps it. -/
namespace TPx
open PySem PySem.Spec PyProof.Rows L2 TPy Evl
open TPs hiding Px
abbrev Stp := Bool × Int × Int
abbrev wd (b : Bool) : V := .str (if b then "x" else "y")
abbrev od (b : Bool) : V := .str (if b then "xyx" else "yxy")
abbrev stV (s : Stp) : List V := [wd s.1, .int s.2.1, .int s.2.2]
structure StOk (s : Stp) : Prop where
  pos : 0 < s.2.2
  top : s.2.1.natAbs < 2 ^ 130
  bot : s.2.2.natAbs < 2 ^ 130
theorem near_na {n d : Int} {k : Nat} (h0 : 0 < d) (h : n.natAbs < 2 ^ k) : (TPm.near n d).natAbs ≤ 2 ^ k := by
  have h1 : (n.natAbs : Int) + 1 ≤ ((2 ^ k : Nat) : Int) := by omega
  generalize ((2 ^ k : Nat) : Int) = X at h1
  have hN : (n.natAbs : Int) ≤ n.natAbs * d := by
    have := Int.mul_le_mul_of_nonneg_left (show (1 : Int) ≤ d by omega) (show (0 : Int) ≤ n.natAbs by omega)
    omega
  have lo : -(n.natAbs : Int) - 1 ≤ TPm.near n d := by
    unfold TPm.near
    refine (Int.le_ediv_iff_mul_le (by omega)).mpr ?_
    have e : (-(n.natAbs : Int) - 1) * (2 * d) = -2 * (n.natAbs * d) - 2 * d := by grind
    rw [e]
    omega
  have hi : TPm.near n d ≤ n.natAbs + 1 := by
    unfold TPm.near
    refine Int.ediv_le_of_le_mul (by omega) ?_
    have e : ((n.natAbs : Int) + 1) * (2 * d) = 2 * (n.natAbs * d) + 2 * d := by grind
    rw [e]
    omega
  have : (TPm.near n d).natAbs ≤ n.natAbs + 1 := by omega
  omega
section
variable {P : Program} {w : World} {K : PySem.W.Frag} {mg : Str → Option Value} {base : Heap}
abbrev SoP (n : Nat) : VP := fun v H => ∃ z, IsP z v H ∧ Sz n z
theorem mono_sop {n : Nat} : Mono (SoP n) := fun _ _ _ e ⟨z, h, s⟩ => ⟨z, mono_u _ _ _ e h, s⟩
abbrev Prest (a : Stp × Px × Nat) (vs : List V) (H : Hp) : Prop := ∃ v u, vs = [v, u] ∧ IsU (stV a.1) v H ∧ StOk a.1 ∧ IsP a.2.1 u H ∧ Sz a.2.2 a.2.1 ∧ a.2.2 ≤ 800
abbrev spstepped : Sp := spF Prest fun a => SoP (a.2.2 + 133)
theorem lenstepped : ∀ (a : Stp × Px × Nat) (vs : List V) (H : Hp), Prest a vs H → vs.length = Pstepped.length := fun _ _ _ ⟨_, _, h, _⟩ => by rw [h]; rfl
theorem step_sz {n : Nat} {x y t b : Int} (h0 : 0 < b) (ht : t.natAbs < 2 ^ 130) (hx : x.natAbs ≤ 2 ^ n) (hy : y.natAbs < 2 ^ (n + 1)) : (x + TPm.near (t * y) b).natAbs ≤ 2 ^ (n + 133) := by
  have h := near_na h0 (wide_lt ht hy)
  have e : 130 + (n + 1) = n + 131 := by omega
  rw [e] at h
  have e2 : (2 : Nat) ^ (n + 133) = 4 * 2 ^ (n + 131) := two4 (n + 131)
  have e3 : (2 : Nat) ^ n ≤ 2 ^ (n + 131) := Nat.pow_le_pow_right (by decide) (by omega)
  rw [e2]
  generalize (2 : Nat) ^ (n + 131) = X at *
  generalize (2 : Nat) ^ n = Y at *
  omega
theorem okstepped (T : Bl mg) (D : Df K mg "stepped" sstepped) (Gnearest : Ok1 P w K mg base 1 "nearest" Pnearest spnearest) : Ok1 P w K mg base 2 "stepped" Pstepped spstepped := by
  refine mk1 (k := 1) D scstepped (lenstepped) (fun _ _ _ _ _ _ us hl => match us, hl with | [_, _], _ => rfl) fun f cdv A outer s H vs Q E hr a pre kq => ⟨_, (pss_cons (ps_asg (pv 0) (pg_tup (by rfl) (pgs_cons (pg_name (i := 2) scstepped.nd rfl (Or.inl rfl)) (pgs_cons (pg_name (i := 3) scstepped.nd rfl (Or.inl rfl)) (pgs_cons (pg_name (i := 4) scstepped.nd rfl (Or.inl rfl)) pgs_nil)))))
      (pss_cons (ps_asg (pv 1) (pg_tup (by rfl) (pgs_cons (pg_name (i := 5) scstepped.nd rfl (Or.inl rfl)) (pgs_cons (pg_name (i := 6) scstepped.nd rfl (Or.inl rfl)) pgs_nil))))
      (pss_one (ps_ret (pe_ifExp (pt_cmpR op_eq (pv 2) pe_str (nomark _)) (pe_tup (pa_cons (pe_op op_add (pv 5) (pe_fn Gnearest (hr.mono (by decide)) (by rfl) (pa_cons (pe_op op_mulW (pv 3) (pv 6)) (pa_cons (pv 4) pa_nil)))) (pa_cons (pv 6) pa_nil))) (pe_tup (pa_cons (pv 5) (pa_cons (pe_op op_add (pv 6) (pe_fn Gnearest (hr.mono (by decide)) (by rfl) (pa_cons (pe_op op_mulW (pv 3) (pv 5)) (pa_cons (pv 4) pa_nil)))) pa_nil)))))))), ?_⟩
  obtain ⟨⟨b, tp, bt⟩, z, n⟩ := a
  obtain ⟨v, u, rfl, hv, ho, hu, hz, hn⟩ := pre
  obtain ⟨h0, h1, h2⟩ := ho
  replace hn : n ≤ 800 := hn
  replace hz : Sz n z := hz
  replace h0 : 0 < bt := h0
  replace h1 : tp.natAbs < 2 ^ 130 := h1
  replace h2 : bt.natAbs < 2 ^ 130 := h2
  refine qy_un3 (y_var rfl hv mono_u) fun H1 e1 => ?_
  refine qy_un2 (y_var rfl (hu.mo e1) mono_u) fun H2 e2 => ?_
  obtain ⟨z1, z2⟩ := hz.na
  have big : ∀ i : Int, i.natAbs < 2 ^ (n + 1) → (tp * i).natAbs < 2 ^ 1000 := fun i hi => na_up (wide_lt h1 hi) (by omega)
  have nr : ∀ {σ : L2.St} {ta tb tc : TE} (i : Int), i.natAbs < 2 ^ (n + 1) → Y ta σ H2 (IsI tp) → Y tb σ H2 (IsI i) → Y tc σ H2 (IsI bt) → Y (tCall spnearest [] E0 (tCons (tOp (rI CMulW fun i j => .int (i * j)) ta tb) (tCons tc tNil))) σ H2 (IsI (TPm.near (tp * i) bt)) := fun i hi a b c =>
    y_call (tp * i, bt) (ya_is2 (y_mul 130 801 a b h1 (na_up hi (by omega))) c) (fun vs H1 _ e => ⟨e, h0, big i hi, na_up h2 (by decide)⟩) fun _ _ _ h => h
  refine sy_ret (P := SoP (n + 133)) (y_if (b := b) (yt_test ((y_eq rfl (y_vI rfl) y_c).val (by cases b <;> rfl))) (fun hb => ?_) (fun hb => ?_)) fun v H3 e3 p => kq v H3 ((e1.trans e2).trans e3) p
  · exact (y_tup2 (y_add (y_vI rfl) (nr z.2 z2 (y_vI rfl) (y_vI rfl) (y_vI rfl))) (y_vI rfl)).imp fun v H3 _ h => ⟨(z.1 + TPm.near (tp * z.2) bt, z.2), h, step_sz h0 h1 hz.1 z2, Nat.le_trans hz.2 (Nat.pow_le_pow_right (by decide) (by omega))⟩
  · exact (y_tup2 (y_vI rfl) (y_add (y_vI rfl) (nr z.1 z1 (y_vI rfl) (y_vI rfl) (y_vI rfl)))).imp fun v H3 _ h => ⟨(z.1, z.2 + TPm.near (tp * z.1) bt), h, Nat.le_trans hz.1 (Nat.pow_le_pow_right (by decide) (by omega)), step_sz h0 h1 hz.2 z1⟩
def Sts (H : Hp) : List V → List Stp → Prop
  | [], [] => True
  | v :: vs, s :: ss => IsU (stV s) v H ∧ Sts H vs ss
  | _, _ => False
theorem Sts.mono {H H' : Hp} (e : Ex H H') : ∀ {vs : List V} {ss : List Stp}, Sts H vs ss → Sts H' vs ss
  | [], [], _ => trivial
  | _ :: _, _ :: _, ⟨h, t⟩ => ⟨mono_u _ _ _ e h, Sts.mono e t⟩
  | [], _ :: _, h => h.elim
  | _ :: _, [], h => h.elim
theorem Sts.len {H : Hp} : ∀ {vs : List V} {ss : List Stp}, Sts H vs ss → vs.length = ss.length
  | [], [], _ => rfl
  | _ :: _, _ :: _, ⟨_, t⟩ => congrArg (· + 1) (Sts.len t)
  | [], _ :: _, h => h.elim
  | _ :: _, [], h => h.elim
theorem Sts.get {H : Hp} : ∀ {vs : List V} {ss : List Stp} {i : Nat} {v : V}, Sts H vs ss → vs[i]? = some v → ∃ s, ss[i]? = some s ∧ IsU (stV s) v H
  | _ :: _, _ :: _, 0, v, ⟨h, _⟩, e => ⟨_, rfl, by cases e; exact h⟩
  | _ :: vs, _ :: ss, i + 1, v, ⟨_, t⟩, e => Sts.get (i := i) t e
  | [], [], _, _, _, e => by simp at e
  | [], _ :: _, _, _, h, _ => h.elim
  | _ :: _, [], _, _, h, _ => h.elim
/-- a chain of three shears -/
abbrev IsCh : VP := fun v H => ∃ ss : List Stp, ss.length = 3 ∧ (∀ s ∈ ss, StOk s) ∧ ∃ a xs, v = .ref a ∧ H a = some (.lst xs) ∧ Sts H xs ss
theorem mono_ch : Mono IsCh := fun _ _ _ e ⟨ss, h1, h2, a, xs, h3, h4, h5⟩ => ⟨ss, h1, h2, a, xs, h3, e a _ h4, h5.mono e⟩
abbrev Preas (z : Px) (vs : List V) (H : Hp) : Prop := ∃ v u, vs = [v, u] ∧ IsCh v H ∧ IsP z u H ∧ Sz 330 z
abbrev spafter_steps : Sp := spF Preas fun _ => SoP 800
theorem lenafter_steps : ∀ (a : Px) (vs : List V) (H : Hp), Preas a vs H → vs.length = Pafter_steps.length := fun _ _ _ ⟨_, _, h, _⟩ => by rw [h]; rfl
theorem okafter_steps (T : Bl mg) (D : Df K mg "after_steps" safter_steps) (Gstepped : Ok1 P w K mg base 2 "stepped" Pstepped spstepped) : Ok1 P w K mg base 3 "after_steps" Pafter_steps spafter_steps := by
  refine mk1 (k := 2) D scafter_steps (lenafter_steps) (fun _ _ _ _ _ _ us hl => match us, hl with | [_, _], _ => rfl) fun f cdv A outer s H vs Q E hr a pre kq => ⟨_, (pss_cons (ps_for PassesOwn.never (by rfl) (pi_list (pv 0)) (pg_name (i := 2) scafter_steps.nd rfl (Or.inl rfl)) (pss_one (ps_set (i := 1) scafter_steps.nd rfl (Or.inl rfl) (pe_fn Gstepped (hr.mono (by decide)) (by rfl) (pa_cons (pv 2) (pa_cons (pv 1) pa_nil))))))
      (pss_one (ps_ret (pv 1)))), ?_⟩
  obtain ⟨v, u, rfl, ⟨ss, l3, ok, p, xs, rfl, hx, hs⟩, hu, hz⟩ := pre
  have l3' : xs.length = 3 := by rw [hs.len, l3]
  refine q_forLn (a := p) (xs := xs) (ev_var rfl) (sq_of hx) (fun i σ' H' => ∃ u' st, σ' = [some (.ref p), some u', st] ∧ Ex H H' ∧ SoP (330 + 133 * i) u' H') (fun H1 e1 => ⟨_, _, rfl, e1, a, hu.mo e1, hz⟩) (fun i σ' H' _ ⟨_, _, _, e, _⟩ => sq_of (e p _ hx)) ?_ ?_
  · rintro i x σ' H1 hi ⟨u', st, rfl, e1, z, hz1, hz2⟩
    obtain ⟨s, g1, g2⟩ := hs.get hi
    have li : i < 3 := by rw [← l3']; exact (List.getElem?_eq_some_iff.mp hi).1
    refine sy_asg (P := SoP (330 + 133 * i + 133)) (y_call (s, z, 330 + 133 * i) (ya2 mono_u (y_var rfl (g2.mo e1) mono_u) (y_var rfl hz1 mono_u)) (fun vs H2 _ ⟨v, u, e, h1, h2⟩ => ⟨v, u, e, h1, ok s (List.mem_of_getElem? g1), h2, hz2, by show 330 + 133 * i ≤ 800; omega⟩) fun _ _ _ h => h) fun v H2 e2 hv => ⟨v, _, rfl, e1.trans e2, hv⟩
  · rintro σ' H1 ⟨u', st, rfl, e1, z, hz1, hz2⟩
    rw [l3'] at hz2
    exact sy_ret (P := SoP 800) ((y_var rfl hz1 mono_u).imp fun v H2 _ h => ⟨z, h, hz2.mono (by decide)⟩) fun v H2 e2 p => kq v H2 (e1.trans e2) p
abbrev Preno (o : Bool) (vs : List V) (_ : Hp) : Prop := vs = [od o]
abbrev spneed_order : Sp := spF Preno fun _ => Is .non
theorem lenneed_order : ∀ (a : Bool) (vs : List V) (H : Hp), Preno a vs H → vs.length = Pneed_order.length := fun _ _ _ h => by rw [h]; rfl
theorem okneed_order (T : Bl mg) (D : Df K mg "need_order" sneed_order) : Ok1 P w K mg base 1 "need_order" Pneed_order spneed_order := by
  refine mk1 (k := 0) D scneed_order (lenneed_order) (fun _ _ _ _ _ _ us hl => match us, hl with | [_], _ => rfl) fun f cdv A outer s H vs Q E hr a pre kq => ⟨_, (pss_one (ps_if (PW.pt (pw_or (pt_not (pt_val (pe_callB call_isi (by rfl) T.m_isinstance (by decide +kernel) (pa_cons (pv 0) (pa_cons (pe_bltn (v := .ty "str") (by rfl) T.m_str (by decide +kernel) rfl) pa_nil))))) (pw_or1 (pt_cmpR op_notIn_seq (pv 0) (pe_tup (pa_cons pe_str (pa_cons pe_str pa_nil))) (by rfl))))) (pss_one ps_never) pss_nil)), ?_⟩
  subst pre
  refine s_when (b := false) (et_is (et_or (a := false) (et_not (a := true) (yt_test (y_isi (P := Is (od a)) (b := true) mono_is (y_vI rfl) (fun v _ e => by rw [show v = _ from e]; exact .base (.str _)) rfl))) fun _ => et_test (ev_niU (ev_var rfl) (eu_tup (ea_cons ev_c (ea_cons ev_c ea_nil)) (by show 2 ≤ 100000; decide)) rfl rfl)) ?_) (fun z => nomatch z) fun _ H1 e1 => kq _ _ e1 rfl
  cases a <;> rfl
abbrev Pre3O (a : T3 × Bool) (vs : List V) (H : Hp) : Prop := ∃ v, vs = [v, od a.2] ∧ IsU (tvT a.1) v H ∧ Turn a.1
abbrev spchain_in : Sp := spF Pre3O fun _ => IsCh
theorem lenchain_in : ∀ (a : T3 × Bool) (vs : List V) (H : Hp), Pre3O a vs H → vs.length = Pchain_in.length := fun _ _ _ ⟨_, h, _⟩ => by rw [h]; rfl
theorem ya_scons {σ : L2.St} {H : Hp} {te : TE} {tr : TA} {s : Stp} {ss : List Stp} (h : Y te σ H (IsU (stV s))) (hr : YA tr σ H (fun vs H => Sts H vs ss)) : YA (tCons te tr) σ H (fun vs H => Sts H vs (s :: ss)) :=
  (ya_cons mono_u h hr).imp fun vs H1 _ ⟨v, r, e, h1, h2⟩ => by rw [e]; exact ⟨h1, h2⟩
theorem y_ch {σ : L2.St} {H : Hp} {ta : TA} {ss : List Stp} (h : YA ta σ H (fun vs H => Sts H vs ss)) (l : ss.length = 3) (ok : ∀ s ∈ ss, StOk s) : Y (tLst ta) σ H IsCh :=
  (y_lst (fun _ _ _ e p => p.mono e) h fun vs H p => by rw [p.len, l]; decide).imp fun v H1 _ ⟨a, xs, e, h1, h2⟩ => ⟨ss, l, ok, a, xs, e, h1, h2⟩
theorem okchain_in (T : Bl mg) (D : Df K mg "chain_in" schain_in) (Gplain_legs : Ok1 P w K mg base 1 "plain_legs" Pplain_legs spplain_legs) : Ok1 P w K mg base 2 "chain_in" Pchain_in spchain_in := by
  refine mk1 (k := 1) D scchain_in (lenchain_in) (fun _ _ _ _ _ _ us hl => match us, hl with | [_, _], _ => rfl) fun f cdv A outer s H vs Q E hr a pre kq => ⟨_, (pss_cons (ps_asg (pe_slice sl_tupA (pv 0) po_none (po_some pe_int)) (pg_tup (by rfl) (pgs_cons (pg_name (i := 2) scchain_in.nd rfl (Or.inl rfl)) (pgs_cons (pg_name (i := 3) scchain_in.nd rfl (Or.inl rfl)) pgs_nil))))
      (pss_cons (ps_asg (pe_slice sl_tupA (pe_fn Gplain_legs (hr.mono (by decide)) (by rfl) (pa_cons (pv 0) pa_nil)) (po_some pe_int) po_none) (pg_tup (by rfl) (pgs_cons (pg_name (i := 4) scchain_in.nd rfl (Or.inl rfl)) (pgs_cons (pg_name (i := 5) scchain_in.nd rfl (Or.inl rfl)) pgs_nil))))
      (pss_cons (ps_if (pt_cmpR op_eq (pv 1) pe_str (nomark _)) (pss_one (ps_ret (pe_lst (pa_cons (pe_tup (pa_cons pe_str (pa_cons (pe_un un_neg (pv 3)) (pa_cons (pv 2) pa_nil)))) (pa_cons (pe_tup (pa_cons pe_str (pa_cons (pv 4) (pa_cons (pv 5) pa_nil)))) (pa_cons (pe_tup (pa_cons pe_str (pa_cons (pe_un un_neg (pv 3)) (pa_cons (pv 2) pa_nil)))) pa_nil)))))) pss_nil)
      (pss_one (ps_ret (pe_lst (pa_cons (pe_tup (pa_cons pe_str (pa_cons (pv 3) (pa_cons (pv 2) pa_nil)))) (pa_cons (pe_tup (pa_cons pe_str (pa_cons (pe_un un_neg (pv 4)) (pa_cons (pv 5) pa_nil)))) (pa_cons (pe_tup (pa_cons pe_str (pa_cons (pv 3) (pa_cons (pv 2) pa_nil)))) pa_nil))))))))), ?_⟩
  obtain ⟨⟨p, q, k⟩, o⟩ := a
  obtain ⟨v, rfl, hv, ht⟩ := pre
  have sl := y_slT (K := K) (y_var (i := 0) (σ := L2.start Nchain_in [v, od o]) rfl hv mono_u) eo_none (eo_some (i := 2) ev_c)
  refine qy_un2 sl fun H1 e1 => ?_
  have c1 := y_call (Pre := Pre2) (Post := fun a => IsU [.int (TPm.lA a.1 a.2.1), .int (TPm.lB a.1 a.2.1), .int (TPm.sizeC a.1 a.2.1)]) (E := E0) (i2 (p, q, k)) (ya1 (y_var (i := 0) (σ := ((L2.start Nchain_in [v, od o]).set 2 (some (.int p))).set 3 (some (.int q))) rfl (hv.mo e1) mono_u)) (fun vs H1 _ ⟨v, e, h1⟩ => ⟨v, e, h1, ht.pq⟩) (fun _ _ _ h => h)
  refine qy_un2 (y_slT (K := K) c1 (eo_some (i := 1) ev_c) eo_none) fun H2 e2 => ?_
  have pq := ht.pq
  have n1 : StOk (true, -q, p) := ⟨ht.ok.p0, by show (-q).natAbs < 2 ^ 130; rw [Int.natAbs_neg]; exact na_up pq.q (by decide), na_up pq.p (by decide)⟩
  have n2 : StOk (false, TPm.lB p q, TPm.sizeC p q) := ⟨ht.ok.cpos, pq.lB, na_up pq.sC (by decide)⟩
  have n3 : StOk (false, q, p) := ⟨ht.ok.p0, na_up pq.q (by decide), na_up pq.p (by decide)⟩
  have n4 : StOk (true, -TPm.lB p q, TPm.sizeC p q) := ⟨ht.ok.cpos, by show (-TPm.lB p q).natAbs < 2 ^ 130; rw [Int.natAbs_neg]; exact pq.lB, na_up pq.sC (by decide)⟩
  refine q_when (b := o) (yt_test ((y_eq rfl (y_vI rfl) y_c).val (by cases o <;> rfl))) (fun hb H3 e3 => ?_) (fun hb H3 e3 => ?_)
  · exact sy_ret (P := IsCh) (y_ch (ss := [(true, -q, p), (false, TPm.lB p q, TPm.sizeC p q), (true, -q, p)]) (ya_scons (y_tup3 y_c (y_neg (y_vI rfl)) (y_vI rfl)) (ya_scons (y_tup3 y_c (y_vI rfl) (y_vI rfl)) (ya_scons (y_tup3 y_c (y_neg (y_vI rfl)) (y_vI rfl)) (fun H1 _ Q q => q [] H1 (Ex.refl H1) trivial)))) rfl (fun s hs => by
      rcases List.mem_cons.mp hs with e | hs
      · rw [e]; exact n1
      rcases List.mem_cons.mp hs with e | hs
      · rw [e]; exact n2
      rw [List.mem_singleton.mp hs]; exact n1)) fun v H4 e4 p => kq v H4 (((e1.trans e2).trans e3).trans e4) p
  · exact sy_ret (P := IsCh) (y_ch (ss := [(false, q, p), (true, -TPm.lB p q, TPm.sizeC p q), (false, q, p)]) (ya_scons (y_tup3 y_c (y_vI rfl) (y_vI rfl)) (ya_scons (y_tup3 y_c (y_neg (y_vI rfl)) (y_vI rfl)) (ya_scons (y_tup3 y_c (y_vI rfl) (y_vI rfl)) (fun H1 _ Q q => q [] H1 (Ex.refl H1) trivial)))) rfl (fun s hs => by
      rcases List.mem_cons.mp hs with e | hs
      · rw [e]; exact n3
      rcases List.mem_cons.mp hs with e | hs
      · rw [e]; exact n4
      rw [List.mem_singleton.mp hs]; exact n3)) fun v H4 e4 p => kq v H4 (((e1.trans e2).trans e3).trans e4) p
theorem y_nt {σ : L2.St} {H : Hp} {i : Nat} {v : V} {t : T3} (g : σ[i]? = some (some v)) (hv : IsU (tvT t) v H) (ht : Turn t) : Y (tCall spneed_turn [] E0 (tCons (tVar i) tNil)) σ H (Is .non) :=
  y_call t (ya1 (y_var g hv mono_u)) (fun vs H1 _ ⟨v, e, h1⟩ => ⟨v, e, h1, ht⟩) fun _ _ _ h => h
theorem y_no {σ : L2.St} {H : Hp} {i : Nat} {o : Bool} (g : σ[i]? = some (some (od o))) : Y (tCall spneed_order [] E0 (tCons (tVar i) tNil)) σ H (Is .non) :=
  y_call o (ya_is1 (y_vI g)) (fun vs H1 _ h => h) fun _ _ _ h => h
abbrev spshear_chain : Sp := spF Pre3O fun _ => IsCh
theorem lenshear_chain : ∀ (a : T3 × Bool) (vs : List V) (H : Hp), Pre3O a vs H → vs.length = Pshear_chain.length := fun _ _ _ ⟨_, h, _⟩ => by rw [h]; rfl
theorem okshear_chain (T : Bl mg) (D : Df K mg "shear_chain" sshear_chain) (Gneed_turn : Ok1 P w K mg base 4 "need_turn" Pneed_turn spneed_turn) (Gneed_order : Ok1 P w K mg base 1 "need_order" Pneed_order spneed_order) (Gchain_in : Ok1 P w K mg base 2 "chain_in" Pchain_in spchain_in) : Ok1 P w K mg base 5 "shear_chain" Pshear_chain spshear_chain := by
  refine mk1 (k := 4) D scshear_chain (lenshear_chain) (fun _ _ _ _ _ _ us hl => match us, hl with | [_, _], _ => rfl) fun f cdv A outer s H vs Q E hr a pre kq => ⟨_, (pss_cons (ps_expr (pe_fn Gneed_turn (hr.mono (by decide)) (by rfl) (pa_cons (pv 0) pa_nil)))
      (pss_cons (ps_expr (pe_fn Gneed_order (hr.mono (by decide)) (by rfl) (pa_cons (pv 1) pa_nil)))
      (pss_one (ps_ret (pe_fn Gchain_in (hr.mono (by decide)) (by rfl) (pa_cons (pv 0) (pa_cons (pv 1) pa_nil))))))), ?_⟩
  obtain ⟨v, rfl, hv, ht⟩ := pre
  refine qy_drop (y_nt rfl hv ht) fun _ H1 e1 _ => ?_
  refine qy_drop (y_no (o := a.2) rfl) fun _ H2 e2 _ => ?_
  exact sy_ret (P := IsCh) (y_call a (ya2 (Pb := Is (od a.2)) mono_u (y_var rfl ((hv.mo e1).mo e2) mono_u) (y_vI rfl)) (fun vs H1 _ ⟨v, u, e, h1, h2⟩ => ⟨v, by rw [e, show u = _ from h2], h1, ht⟩) fun _ _ _ h => h) fun v H3 e3 p => kq v H3 ((e1.trans e2).trans e3) p
abbrev Prens (a : T3 × Bool × Px) (vs : List V) (H : Hp) : Prop := ∃ v u, vs = [v, od a.2.1, u] ∧ IsU (tvT a.1) v H ∧ Turn a.1 ∧ IsP a.2.2 u H ∧ Sz 330 a.2.2
abbrev spneed_sheared : Sp := spF Prens fun _ => Is .non
theorem lenneed_sheared : ∀ (a : T3 × Bool × Px) (vs : List V) (H : Hp), Prens a vs H → vs.length = Pneed_sheared.length := fun _ _ _ ⟨_, _, h, _⟩ => by rw [h]; rfl
theorem okneed_sheared (T : Bl mg) (D : Df K mg "need_sheared" sneed_sheared) (Gneed_turn : Ok1 P w K mg base 4 "need_turn" Pneed_turn spneed_turn) (Gneed_order : Ok1 P w K mg base 1 "need_order" Pneed_order spneed_order) (Gneed_pixel : Ok1 P w K mg base 4 "need_pixel" Pneed_pixel spneed_pixel) : Ok1 P w K mg base 5 "need_sheared" Pneed_sheared spneed_sheared := by
  refine mk1 (k := 4) D scneed_sheared (lenneed_sheared) (fun _ _ _ _ _ _ us hl => match us, hl with | [_, _, _], _ => rfl) fun f cdv A outer s H vs Q E hr a pre kq => ⟨_, (pss_cons (ps_expr (pe_fn Gneed_turn (hr.mono (by decide)) (by rfl) (pa_cons (pv 0) pa_nil)))
      (pss_cons (ps_expr (pe_fn Gneed_order (hr.mono (by decide)) (by rfl) (pa_cons (pv 1) pa_nil)))
      (pss_one (ps_expr (pe_fn Gneed_pixel (hr.mono (by decide)) (by rfl) (pa_cons (pv 2) pa_nil)))))), ?_⟩
  obtain ⟨v, u, rfl, hv, ht, hu, hz⟩ := pre
  refine qy_drop (y_nt rfl hv ht) fun _ H1 e1 _ => ?_
  refine qy_drop (y_no (o := a.2.1) rfl) fun _ H2 e2 _ => ?_
  exact sy_drop (P := Is .non) (y_call a.2.2 (ya1 (y_var rfl ((hu.mo e1).mo e2) mono_u)) (fun vs H1 _ h => h) fun _ _ _ h => h) fun _ H3 e3 _ => kq _ _ ((e1.trans e2).trans e3) rfl
abbrev spsheared : Sp := spF Prens fun _ => SoP 800
theorem lensheared : ∀ (a : T3 × Bool × Px) (vs : List V) (H : Hp), Prens a vs H → vs.length = Psheared.length := fun _ _ _ ⟨_, _, h, _⟩ => by rw [h]; rfl
theorem oksheared (T : Bl mg) (D : Df K mg "sheared" ssheared) (Gneed_sheared : Ok1 P w K mg base 5 "need_sheared" Pneed_sheared spneed_sheared) (Gquartered : Ok1 P w K mg base 1 "quartered" Pquartered spquartered) (Gafter_steps : Ok1 P w K mg base 3 "after_steps" Pafter_steps spafter_steps) (Gchain_in : Ok1 P w K mg base 2 "chain_in" Pchain_in spchain_in) : Ok1 P w K mg base 6 "sheared" Psheared spsheared := by
  refine mk1 (k := 5) D scsheared (lensheared) (fun _ _ _ _ _ _ us hl => match us, hl with | [_, _, _], _ => rfl) fun f cdv A outer s H vs Q E hr a pre kq => ⟨_, (pss_cons (ps_expr (pe_fn Gneed_sheared (hr.mono (by decide)) (by rfl) (pa_cons (pv 0) (pa_cons (pv 1) (pa_cons (pv 2) pa_nil)))))
      (pss_one (ps_ret (pe_fn Gquartered (hr.mono (by decide)) (by rfl) (pa_cons (pe_fn Gafter_steps (hr.mono (by decide)) (by rfl) (pa_cons (pe_fn Gchain_in (hr.mono (by decide)) (by rfl) (pa_cons (pv 0) (pa_cons (pv 1) pa_nil))) (pa_cons (pv 2) pa_nil))) (pa_cons (pe_ix ix_tup (pv 0) pe_int (fun _ _ => rfl)) pa_nil)))))), ?_⟩
  obtain ⟨v, u, rfl, hv, ht, hu, hz⟩ := pre
  refine qy_drop (P := Is .non) (y_call a (ya3 (Pb := Is (od a.2.1)) mono_u mono_is (y_var rfl hv mono_u) (y_vI rfl) (y_var rfl hu mono_u)) (fun vs H1 _ ⟨v, w, u, e, h1, h2, h3⟩ => ⟨v, u, by rw [e, show w = _ from h2], h1, ht, h3, hz⟩) fun _ _ _ h => h) fun _ H1 e1 _ => ?_
  refine sy_ret (P := SoP 800) (y_callE (ya2 (Pa := SoP 800) (Pb := IsI a.1.2.2) mono_sop (y_call a.2.2 (ya2 mono_ch (y_call (a.1, a.2.1) (ya2 (Pb := Is (od a.2.1)) mono_u (y_var rfl (hv.mo e1) mono_u) (y_vI rfl)) (fun vs H1 _ ⟨v, u, e, h1, h2⟩ => ⟨v, by rw [e, show u = _ from h2], h1, ht⟩) fun _ _ _ h => h) (y_var rfl (hu.mo e1) mono_u)) (fun vs H1 _ ⟨v, u, e, h1, h2⟩ => ⟨v, u, e, h1, h2, hz⟩) fun _ _ _ h => h) (y_ixT (y_var rfl (hv.mo e1) mono_u) y_c rfl)) fun vs H2 _ ⟨v, w, e, ⟨z, h1, h2⟩, h3⟩ => ?_) fun v H2 e2 p => kq v H2 (e1.trans e2) p
  exact ⟨(z, a.1.2.2), ⟨v, by rw [e, show w = _ from h3], h1⟩, fun v H3 _ h => ⟨_, h, h2.quart _⟩⟩
end
end TPx

/-! Words that outlast lists and dicts that change; pairs of pixels; dicts by pixels; sets of pixels; loops. -/
namespace TPy
open PySem PySem.Spec PyProof.Rows L2 Evl
open TPs hiding Px
/-- tuples stand -/
def Tk (H H' : Hp) : Prop := ∀ a xs, H a = some (.tup xs) → H' a = some (.tup xs)
theorem Ex.tk {H H' : Hp} (e : Ex H H') : Tk H H' := fun a _ h => e a _ h
theorem Tk.refl (H : Hp) : Tk H H := fun _ _ h => h
theorem Tk.trans {H H1 H2 : Hp} (a : Tk H H1) (b : Tk H1 H2) : Tk H H2 := fun x o h => b x o (a x o h)
theorem Tk.upd {H : Hp} {a : Addr} {o : HO} (h : ∀ xs, H a ≠ some (.tup xs)) : Tk H (upd H a o) := fun b xs e => by
  rw [upd_ne]
  · exact e
  · rintro rfl
    exact h xs e
theorem Tk.lst {H : Hp} {a : Addr} {o : HO} {ys : List V} (h : H a = some (.lst ys)) : Tk H (L2.upd H a o) := Tk.upd fun xs e => by rw [h] at e; cases e
theorem Tk.dT {H : Hp} {a : Addr} {o : HO} {ks : List (List Key × V)} (h : H a = some (.dT ks)) : Tk H (L2.upd H a o) := Tk.upd fun xs e => by rw [h] at e; cases e
theorem IsU.tk {H H' : Hp} {v : V} {xs : List V} (h : IsU xs v H) (t : Tk H H') : IsU xs v H' := let ⟨a, e, g⟩ := h; ⟨a, e, t a _ g⟩
theorem Pxs.tk {H H' : Hp} (t : Tk H H') : ∀ {vs : List V} {zs : List Px}, Pxs H vs zs → Pxs H' vs zs
  | [], [], _ => trivial
  | _ :: _, _ :: _, ⟨h, r⟩ => ⟨IsU.tk h t, Pxs.tk t r⟩
  | [], _ :: _, h => h.elim
  | _ :: _, [], h => h.elim
/-- pairs of pixels -/
def IsPr (p : Px × Px) : VP := fun v H => ∃ va vb, IsU [va, vb] v H ∧ IsP p.1 va H ∧ IsP p.2 vb H
theorem IsPr.tk {H H' : Hp} {v : V} {p : Px × Px} (h : IsPr p v H) (t : Tk H H') : IsPr p v H' := let ⟨a, b, h1, h2, h3⟩ := h; ⟨a, b, h1.tk t, IsU.tk h2 t, IsU.tk h3 t⟩
theorem mono_pr {p : Px × Px} : Mono (IsPr p) := fun _ _ _ e h => h.tk (Ex.tk e)
def Prs (H : Hp) : List V → List (Px × Px) → Prop
  | [], [] => True
  | v :: vs, z :: zs => IsPr z v H ∧ Prs H vs zs
  | _, _ => False
def IsPrs (zs : List (Px × Px)) : VP := fun v H => ∃ a xs, v = .ref a ∧ H a = some (.lst xs) ∧ Prs H xs zs
theorem Prs.tk {H H' : Hp} (t : Tk H H') : ∀ {vs : List V} {zs : List (Px × Px)}, Prs H vs zs → Prs H' vs zs
  | [], [], _ => trivial
  | _ :: _, _ :: _, ⟨h, r⟩ => ⟨h.tk t, Prs.tk t r⟩
  | [], _ :: _, h => h.elim
  | _ :: _, [], h => h.elim
theorem mono_prs {zs : List (Px × Px)} : Mono (IsPrs zs) := fun _ _ _ e ⟨a, xs, h, g, p⟩ => ⟨a, xs, h, e a _ g, p.tk (Ex.tk e)⟩
theorem Prs.len {H : Hp} : ∀ {vs : List V} {zs : List (Px × Px)}, Prs H vs zs → vs.length = zs.length
  | [], [], _ => rfl
  | _ :: _, _ :: _, ⟨_, t⟩ => congrArg (· + 1) (Prs.len t)
  | [], _ :: _, h => h.elim
  | _ :: _, [], h => h.elim
theorem Prs.get {H : Hp} : ∀ {vs : List V} {zs : List (Px × Px)} {i : Nat} {v : V}, Prs H vs zs → vs[i]? = some v → ∃ z, zs[i]? = some z ∧ IsPr z v H
  | _ :: _, _ :: _, 0, v, ⟨h, _⟩, e => ⟨_, rfl, by cases e; exact h⟩
  | _ :: vs, _ :: zs, i + 1, v, ⟨_, t⟩, e => Prs.get (i := i) t e
  | [], [], _, _, _, e => by simp at e
  | [], _ :: _, _, _, h, _ => h.elim
  | _ :: _, [], _, _, h, _ => h.elim
theorem Prs.snoc {H : Hp} {v : V} {z : Px × Px} (hv : IsPr z v H) : ∀ {vs : List V} {zs : List (Px × Px)}, Prs H vs zs → Prs H (vs ++ [v]) (zs ++ [z])
  | [], [], _ => ⟨hv, trivial⟩
  | _ :: _, _ :: _, ⟨h, t⟩ => ⟨h, Prs.snoc hv t⟩
  | [], _ :: _, h => h.elim
  | _ :: _, [], h => h.elim
theorem Prs.rows {H : Hp} : ∀ {vs : List V} {zs : List (Px × Px)}, Prs H vs zs → ∃ ks : List (V × Px × Px), vs = ks.map (·.1) ∧ zs = ks.map (·.2) ∧ ∀ p ∈ ks, IsPr p.2 p.1 H
  | [], [], _ => ⟨[], rfl, rfl, fun _ h => (nomatch h)⟩
  | v :: _, z :: _, ⟨h, t⟩ => by
    obtain ⟨ks, e1, e2, e3⟩ := Prs.rows t
    refine ⟨(v, z) :: ks, by rw [e1]; rfl, by rw [e2]; rfl, fun p hp => ?_⟩
    rcases List.mem_cons.mp hp with q | q
    · rw [q]; exact h
    · exact e3 p q
  | [], _ :: _, h => h.elim
  | _ :: _, [], h => h.elim
theorem Prs.of_rows {H : Hp} : ∀ {ks : List (V × Px × Px)}, (∀ p ∈ ks, IsPr p.2 p.1 H) → Prs H (ks.map (·.1)) (ks.map (·.2))
  | [], _ => trivial
  | p :: ks, h => ⟨h p List.mem_cons_self, Prs.of_rows fun q hq => h q (List.mem_cons_of_mem _ hq)⟩
abbrev pp (p : Px × Px) : PyData := .tuple [pd p.1, pd p.2]
section
variable {K : PySem.W.Frag} {σ : L2.St} {H H' : Hp} {ta tb te tc tl td : TE} {t u : TT} {x y v : V} {P Pa Pb : VP} {D : Ends} {tu tz : TS} {g : TG} {Pg : Program} {w : World}
theorem dp_pr {p : Px × Px} (h : IsPr p v H) : Dp K H v (pp p) := by
  obtain ⟨va, vb, ⟨a, e, g⟩, h1, h2⟩ := h
  rw [e]
  exact .tup (st_of g) (.cons (dp_px h1) (.cons (dp_px h2) .nil))
theorem y_sortPr {zs : List (Px × Px)} (h : Y te σ H (IsPrs zs)) : Y (tCB (rSortD K) (tCons te tNil)) σ H (fun v H => ∃ zs', zs'.Perm zs ∧ IsPrs zs' v H) :=
  y_cb (ya1 h) fun vs H1 _ ⟨v, ev, a, xs, e, hx, hp⟩ Q q => by
    obtain ⟨ks, e1, e2, h3⟩ := hp.rows
    refine ⟨a, ks.map fun p => (p.1, pp p.2), by rw [ev, e], ?_, ?_, ?_, ?_, ?_⟩
    · rw [List.map_map]
      exact sq_of (by rw [hx, e1]; rfl)
    · intro b hb
      obtain ⟨p, hp, rfl⟩ := List.mem_map.mp hb
      exact ⟨dp_pr (h3 p hp), by show (pp p.2).depth ≤ 8; simp [PyData.depth, PyData.depthAll]⟩
    · intro d hd d' hd'
      rw [List.map_map] at hd hd'
      obtain ⟨p, _, rfl⟩ := List.mem_map.mp hd
      obtain ⟨p', _, rfl⟩ := List.mem_map.mp hd'
      rfl
    · refine .inl fun d hd => ?_
      rw [List.map_map] at hd
      obtain ⟨p, _, rfl⟩ := List.mem_map.mp hd
      exact ⟨_, _, rfl⟩
    · intro bs' p hb hp
      obtain ⟨ks', k1, rfl⟩ := perm_map_inv _ hb ks rfl
      refine q _ _ (Ex.new hp) ⟨ks'.map (·.2), by rw [e2]; exact k1.map _, p, _, rfl, upd_same, ?_⟩
      rw [List.map_map]
      exact (Prs.of_rows fun r hr => h3 r (k1.mem_iff.mp hr)).tk (Ex.tk (Ex.new hp))
/-! dicts by pixels -/
theorem kz_inj {z w : Px} (h : kz z = kz w) : z = w := by
  injection h with h1 h2
  injection h2 with h2 _
  injection h1 with h1
  injection h2 with h2
  exact Prod.ext h1 h2
/-- a dict as it stands, maybe locked -/
def IsD (kvs : List (List Key × V)) : VP := fun v H => ∃ a, v = .ref a ∧ Rd H a (.dT kvs)
theorem mono_d {kvs : List (List Key × V)} : Mono (IsD kvs) := fun _ _ _ e ⟨a, h, g⟩ => ⟨a, h, ex_rd e g⟩
abbrev yes (zs : List Px) : List (List Key × V) := zs.map fun z => (kz z, .bl true)
theorem val_yes (g : Px) : ∀ zs : List Px, valV (yes zs) (kz g) = if g ∈ zs then some (.bl true) else none
  | [] => rfl
  | z :: zs => by
    by_cases e : z = g
    · rw [show yes (z :: zs) = (kz z, .bl true) :: yes zs from rfl, valV_pos (by rw [e]), if_pos (by rw [e]; exact List.mem_cons_self)]
    · rw [show yes (z :: zs) = (kz z, .bl true) :: yes zs from rfl, valV_neg (fun h => e (kz_inj h)), val_yes g zs]
      by_cases m : g ∈ zs
      · rw [if_pos m, if_pos (List.mem_cons_of_mem _ m)]
      · rw [if_neg m, if_neg]
        intro h
        rcases List.mem_cons.mp h with h | h
        · exact e h.symm
        · exact m h
theorem yes_some (g : Px) (zs : List Px) : (valV (yes zs) (kz g)).isSome = decide (g ∈ zs) := by
  rw [val_yes]
  by_cases m : g ∈ zs
  · rw [if_pos m, decide_eq_true m]; rfl
  · rw [if_neg m, decide_eq_false m]; rfl
theorem dget_of {kvs : List (List Key × V)} {z : Px} {d b : Addr} (h : Rd H d (.dT kvs)) (hb : H b = some (.tup (tv z))) : DGet H d (.ref b) (valV kvs (kz z)) := .inr ⟨kvs, kz z, b, h, rfl, hb, rfl⟩
theorem y_din {kvs : List (List Key × V)} {z : Px} (hy : Y ta σ H (IsP z)) (hd : Y td σ H (IsD kvs)) : Y (tDIn ta td) σ H (IsB (valV kvs (kz z)).isSome) := fun H1 e Q q =>
  hy H1 e _ fun v H2 e2 ⟨b, eb, hb⟩ => hd H2 (e.trans e2) _ fun x H3 e3 ⟨d, ed, h⟩ => ⟨d, _, ed, by rw [eb]; exact dget_of h (e3 b _ hb), q _ H3 (e2.trans e3) rfl⟩
theorem y_dnin {kvs : List (List Key × V)} {z : Px} (hy : Y ta σ H (IsP z)) (hd : Y td σ H (IsD kvs)) : Y (tDNotIn ta td) σ H (IsB (!(valV kvs (kz z)).isSome)) := fun H1 e Q q =>
  hy H1 e _ fun v H2 e2 ⟨b, eb, hb⟩ => hd H2 (e.trans e2) _ fun x H3 e3 ⟨d, ed, h⟩ => ⟨d, _, ed, by rw [eb]; exact dget_of h (e3 b _ hb), q _ H3 (e2.trans e3) rfl⟩
abbrev inM (zs : List Px) (o : Option Px) : Bool := match o with
  | some z => decide (z ∈ zs)
  | none => false
/-- pixel or None in a dict by pixels -/
theorem y_dinO {zs : List Px} {o : Option Px} (hy : Y ta σ H (IsO o)) (hd : Y td σ H (IsD (yes zs))) : Y (tDInP ta td) σ H (IsB (inM zs o)) := fun H1 e Q q =>
  hy H1 e _ fun v H2 e2 ho => hd H2 (e.trans e2) _ fun x H3 e3 ⟨d, ed, h⟩ => by
    rcases ho with ⟨z, eo, b, eb, hb⟩ | ⟨eo, eb⟩
    · subst eo
      refine .inl ⟨d, _, ed, by rw [eb]; exact dget_of h (e3 b _ hb), q _ H3 (e2.trans e3) ?_⟩
      rw [yes_some]
      rfl
    · subst eo
      exact .inr ⟨d, _, ed, eb, h, q _ H3 (e2.trans e3) rfl⟩
/-- d[z] = v, d not locked -/
theorem s_dput {kvs : List (List Key × V)} {z : Px} {d : Addr} (hd : H d = some (.dT kvs)) (hv : Y tc σ H (Is v)) (ho : Y td σ H (Is (.ref d))) (hy : Y ta σ H (IsP z)) (hz : kvs.length < 100000) (k : ∀ H1, Ex H H1 → D.nx σ (upd H1 d (.dT (putK kvs (kz z) v)))) : sDPut td ta tc D σ H :=
  hv H (Ex.refl H) _ fun v' H1 e1 ev => ho H1 e1 _ fun x H2 e2 ex => hy H2 (e1.trans e2) _ fun y H3 e3 ⟨b, eb, hb⟩ => ⟨d, _, ex, .inr ⟨kvs, kz z, b, ((e1.trans e2).trans e3) d _ hd, eb, hb, sz_lt hz, rfl⟩, by
    rw [show v' = v from ev]
    exact k H3 ((e1.trans e2).trans e3)⟩
/-! ### loops -/
theorem s_forE {a : Addr} {xs : List V} (h : Ev tl σ H (.ref a)) (hx : H a = some (.lst xs)) (Pv : Nat → L2.St → Hp → Prop) (h0 : ∀ H1, Ex H H1 → Pv 0 σ H1) (hl : ∀ i σ' H', Pv i σ' H' → H' a = some (.lst xs))
    (hs : ∀ i x σ' H' T, xs[i]? = some x → Pv i σ' H' → H' T = none → g (.ref T) σ' (upd H' T (.tup [.int (i : Nat), x])) fun σ2 H2 => tu { D with nx := Pv (i + 1), ct := Pv (i + 1), bk := D.nx } σ2 H2) (hd : ∀ σ' H', Pv xs.length σ' H' → D.nx σ' H') : tFor (iEnum K (tCons tl tNil)) g tu D σ H := by
  refine h H (Ex.refl H) _ fun H1 e => ⟨a, xs, rfl, sq_of (e a _ hx), ?_⟩
  refine ⟨fun i m σ' H' => m = xs.length - i ∧ i ≤ xs.length ∧ Pv i σ' H', ⟨xs.length, rfl, Nat.zero_le _, h0 H1 e⟩, ?_⟩
  rintro i m σ' H' ⟨rfl, hi, p⟩
  have hA : SqL K H' a xs := sq_of (hl i σ' H' p)
  by_cases lt : i < xs.length
  · have g1 : xs[i]? = some xs[i] := List.getElem?_eq_getElem _
    refine .inr ⟨⟨xs, _, hA, g1⟩, Pv (i + 1), fun σ2 H2 p' => ⟨xs.length - (i + 1), by omega, rfl, lt, p'⟩, fun x H'' hy => ?_⟩
    obtain ⟨T, x1, rfl, nT, rfl, f1⟩ := hy
    obtain rfl : x1 = _ := Option.some.inj ((f1 _ hA).symm.trans g1)
    exact hs i _ σ' H' T g1 p nT
  · have e3 : i = xs.length := by omega
    subst e3
    exact .inl ⟨⟨xs, hA, Nat.le_refl _⟩, hd σ' H' p⟩
/-- over the keys of a locked dict by pixels, all values True -/
theorem s_forK {d : Addr} {o : Obj} {zs : List Px} (h : Ev td σ H (.ref d)) (hx : H d = some (.frz o (.dT (yes zs)))) (Pv : Nat → L2.St → Hp → Prop) (h0 : ∀ H1, Ex H H1 → Pv 0 σ H1) (hl : ∀ i σ' H', Pv i σ' H' → H' d = some (.frz o (.dT (yes zs))))
    (hs : ∀ i z q σ' H', zs[i]? = some z → Pv i σ' H' → H' q = some (.tup (tv z)) → g (.ref q) σ' H' fun σ2 H2 => tu { D with nx := Pv (i + 1), ct := Pv (i + 1), bk := D.nx } σ2 H2) (hd : ∀ σ' H', Pv zs.length σ' H' → D.nx σ' H') : tFor (iKeys td) g tu D σ H := by
  refine h H (Ex.refl H) _ fun H1 e => ⟨d, o, rfl, .inr ⟨_, e d _ hx, ?_⟩⟩
  have ln : (yes zs).length = zs.length := List.length_map ..
  refine ⟨fun i m σ' H' => m = zs.length - i ∧ i ≤ zs.length ∧ Pv i σ' H', ⟨zs.length, rfl, Nat.zero_le _, h0 H1 e⟩, ?_⟩
  rintro i m σ' H' ⟨rfl, hi, p⟩
  have hA := hl i σ' H' p
  by_cases lt : i < zs.length
  · have g1 : zs[i]? = some zs[i] := List.getElem?_eq_getElem _
    refine .inr ⟨⟨hA, by rw [ln]; exact lt⟩, Pv (i + 1), fun σ2 H2 p' => ⟨zs.length - (i + 1), by omega, rfl, lt, p'⟩, fun x H'' hy => ?_⟩
    obtain ⟨rfl, k, v, q, e1, rfl, hq⟩ := hy
    rw [List.getElem?_map, g1] at e1
    cases e1
    exact hs i _ q σ' H'' g1 p hq
  · have e3 : i = zs.length := by omega
    subst e3
    exact .inl ⟨⟨hA, by rw [ln]; exact Nat.le_refl _⟩, hd σ' H' p⟩
/-! ### a set, a dict, made by a comprehension over pixels -/
/-- a set whose pixels are ys (some order, none twice) -/
def IsSt (Pg : Program) (w : World) (Pm : Px → Prop) : VP := fun v H => ∃ (a : Addr) (L : List (Addr × Px)), v = .ref a ∧ H a = some (PSet Pg w a L) ∧ (∀ p ∈ L, H p.1 = some (.tup (tv p.2))) ∧ (∀ z, z ∈ L.map (·.2) ↔ Pm z)
theorem y_coS {zs : List Px} {j : Nat} {vs : List Nat} (f : Px → Px) (h : Y tl σ H (IsPs zs)) (hz : zs.length ≤ 1000) (hw : ∀ x, wipe ((wipe σ vs).set j (some x)) vs = wipe σ vs)
    (he : ∀ (x : V) (z : Px) H1, Ex H H1 → z ∈ zs → IsP z x H1 → Y te ((wipe σ vs).set j (some x)) H1 (IsP (f z))) :
    Y (tCo (fun D => PSet Pg w D []) (iList K tl) (gName j) tYes (tbSet Pg w te) vs) σ H (IsSt Pg w (fun y => ∃ z ∈ zs, f z = y)) := fun H0 e Q q => h H0 e _ fun v H1 e1 ⟨a, xs, ea, hx, hp⟩ => ⟨a, ea, ⟨xs, sq_of hx⟩, fun Dl hD => by
  have lx : xs.length = zs.length := hp.len
  refine ⟨fun i m H' => m = zs.length - i ∧ i ≤ zs.length ∧ Ex H1 H' ∧ ∃ L : List (Addr × Px), H' Dl = some (PSet Pg w Dl L) ∧ (∀ p ∈ L, H' p.1 = some (.tup (tv p.2))) ∧ (∀ y, y ∈ L.map (·.2) ↔ ∃ z ∈ zs.take i, f z = y) ∧ L.length ≤ i, ⟨zs.length, rfl, Nat.zero_le _, Ex.new hD, [], upd_same, fun _ h => (nomatch h), fun y => ⟨fun h => (nomatch h), fun ⟨z, h, _⟩ => by rw [List.take_zero] at h; cases h⟩, Nat.le_refl _⟩, ?_⟩
  rintro i m H' ⟨rfl, hi, ex, L, h1, h2, h3, h4⟩
  have hA : SqL K H' a xs := sq_of (ex a _ hx)
  by_cases lt : i < zs.length
  · have g1 : xs[i]? = some (xs[i]'(by omega)) := List.getElem?_eq_getElem _
    obtain ⟨z, g2, g3⟩ := hp.get g1
    refine .inr ⟨⟨xs, _, hA, g1⟩, fun H'' => Ex H1 H'' ∧ ∃ L : List (Addr × Px), H'' Dl = some (PSet Pg w Dl L) ∧ (∀ p ∈ L, H'' p.1 = some (.tup (tv p.2))) ∧ (∀ y, y ∈ L.map (·.2) ↔ ∃ z ∈ zs.take (i + 1), f z = y) ∧ L.length ≤ i + 1, fun H'' p' => ⟨zs.length - (i + 1), by omega, rfl, lt, p'⟩, fun x H'' hy => ?_⟩
    obtain ⟨rfl, hy⟩ := hy
    have hy := hy xs hA
    obtain rfl : x = _ := Option.some.inj (hy.symm.trans g1)
    refine ⟨hw _, ?_⟩
    unfold tYes
    dsimp only
    rw [if_pos rfl]
    unfold tbSet
    refine he _ z H'' ((e.trans e1).trans ex) (List.mem_of_getElem? g2) (g3.mo ex) H'' (Ex.refl _) _ fun y H3 e3 ⟨b, eb, hb⟩ => ?_
    have hD3 : H3 Dl = some (PSet Pg w Dl L) := e3 Dl _ h1
    refine ⟨L, b, f z, eb, hb, hD3, fun p hp => e3 _ _ (h2 p hp), by omega, fun L' ad nd => ⟨Ex.mut (ex.trans e3) hD, L', upd_same, ?_, ?_, ?_⟩⟩
    · intro p hp
      have hp3 : H3 p.1 = some (.tup (tv p.2)) := by
        by_cases m : f z ∈ L.map (·.2)
        · rw [ad.1 m] at hp
          exact e3 _ _ (h2 p hp)
        · rcases List.mem_cons.mp ((ad.2 m).mem_iff.mp hp) with q | q
          · rw [q]; exact hb
          · exact e3 _ _ (h2 p q)
      rw [upd_ne]
      · exact hp3
      · intro z; rw [z, hD3] at hp3; cases hp3
    · intro y
      rw [TPm.take_snoc g2]
      constructor
      · intro hy
        by_cases m : f z ∈ L.map (·.2)
        · rw [ad.1 m] at hy
          obtain ⟨z', h', e'⟩ := (h3 y).mp hy
          exact ⟨z', List.mem_append_left _ h', e'⟩
        · rcases List.mem_cons.mp (((ad.2 m).map (·.2)).mem_iff.mp hy) with q | q
          · exact ⟨z, List.mem_append_right _ (List.mem_singleton.mpr rfl), q.symm⟩
          · obtain ⟨z', h', e'⟩ := (h3 y).mp q
            exact ⟨z', List.mem_append_left _ h', e'⟩
      · rintro ⟨z', h', rfl⟩
        by_cases m : f z ∈ L.map (·.2)
        · rw [ad.1 m]
          rcases List.mem_append.mp h' with h' | h'
          · exact (h3 _).mpr ⟨z', h', rfl⟩
          · rw [List.mem_singleton.mp h']; exact m
        · refine ((ad.2 m).map (·.2)).mem_iff.mpr ?_
          rcases List.mem_append.mp h' with h' | h'
          · exact List.mem_cons_of_mem _ ((h3 _).mpr ⟨z', h', rfl⟩)
          · rw [List.mem_singleton.mp h']; exact List.mem_cons_self
    · by_cases m : f z ∈ L.map (·.2)
      · rw [ad.1 m]; omega
      · rw [(ad.2 m).length_eq, List.length_cons]; omega
  · have e3 : i = zs.length := by omega
    subst e3
    refine .inl ⟨⟨xs, hA, by omega⟩, q _ H' (e1.trans ex) ⟨Dl, L, rfl, h1, h2, fun z => (h3 z).trans ?_⟩⟩
    rw [List.take_length]⟩
/-- sorted(set) -/
theorem y_sortS {Pm : Px → Prop} (h : Y te σ H (IsSt Pg w Pm)) : Y (tCB (rSortP Pg w) (tCons te tNil)) σ H (fun v H => ∃ ms, IsPs ms v H ∧ TPm.Asc ms ∧ ∀ y, y ∈ ms ↔ Pm y) :=
  y_cb (ya1 h) fun vs H1 _ ⟨v, ev, a, L, e, h1, h2, h3⟩ Q q => ⟨a, L, by rw [ev, e], h1, h2, fun L' p pm pw hp => q _ _ (Ex.new hp) ⟨L'.map (·.2), ⟨p, _, rfl, upd_same, (Pxs.of_rows fun r hr => h2 r (pm.mem_iff.mp hr)).mono (Ex.new hp)⟩, (show TPm.Asc (L'.map (·.2)) from pw), fun y => ((pm.map (·.2)).mem_iff).trans (h3 y)⟩⟩
/-- set(list of pixels) -/
theorem y_setOf {zs : List Px} (h : Y te σ H (IsPs zs)) (hz : zs.length ≤ 1200) : Y (tCB (rSetP K Pg w) (tCons te tNil)) σ H (IsSt Pg w (fun y => y ∈ zs)) :=
  y_cb (ya1 h) fun vs H1 _ ⟨v, ev, a, xs, e, hx, hp⟩ Q q => by
    obtain ⟨ks, k1, k2, k3⟩ := hp.rows
    refine ⟨a, ks, by rw [ev, e], sq_of (by rw [hx, k1]), k3, by rw [← List.length_map (f := (·.2)), ← k2]; exact hz, fun D L hD hL1 hL2 => q _ _ (Ex.new hD) ⟨D, L, rfl, upd_same, fun p hp => Ex.new hD _ _ (k3 p (hL1 p hp)), fun z => ?_⟩⟩
    rw [k2]
    constructor
    · intro hz
      obtain ⟨p, hp, rfl⟩ := List.mem_map.mp hz
      exact List.mem_map.mpr ⟨p, hL1 p hp, rfl⟩
    · intro hz
      obtain ⟨p, hp, rfl⟩ := List.mem_map.mp hz
      exact hL2 p hp
/-- {z: True for z in pixels}, none twice -/
theorem y_coD {G : List Px → Prop} {j : Nat} {vs : List Nat} (h : Y tl σ H (fun v H => ∃ zs, IsPs zs v H ∧ G zs)) (hG : ∀ zs, G zs → zs.Nodup ∧ zs.length ≤ 1000) (hw : ∀ x, wipe ((wipe σ vs).set j (some x)) vs = wipe σ vs) (hj : ∀ x, ((wipe σ vs).set j (some x))[j]? = some (some x)) :
    Y (tCo (fun _ => .dT []) (iList K tl) (gName j) tYes (tbDic (tVar j) (tC (.bl true))) vs) σ H (fun v H' => ∃ a zs, v = .ref a ∧ H a = none ∧ H' a = some (.dT (yes zs)) ∧ G zs) := fun H0 e Q q => h H0 e _ fun v H1 e1 ⟨zs, ⟨a, xs, ea, hx, hp⟩, hg⟩ => ⟨a, ea, ⟨xs, sq_of hx⟩, fun Dl hD => by
  obtain ⟨nd, hz⟩ := hG zs hg
  have lx : xs.length = zs.length := hp.len
  refine ⟨fun i m H' => m = zs.length - i ∧ i ≤ zs.length ∧ Ex H1 H' ∧ H' Dl = some (.dT (yes (zs.take i))), ⟨zs.length, rfl, Nat.zero_le _, Ex.new hD, upd_same⟩, ?_⟩
  rintro i m H' ⟨rfl, hi, ex, h1⟩
  have hA : SqL K H' a xs := sq_of (ex a _ hx)
  by_cases lt : i < zs.length
  · have g1 : xs[i]? = some (xs[i]'(by omega)) := List.getElem?_eq_getElem _
    obtain ⟨z, g2, g3⟩ := hp.get g1
    refine .inr ⟨⟨xs, _, hA, g1⟩, fun H'' => Ex H1 H'' ∧ H'' Dl = some (.dT (yes (zs.take (i + 1)))), fun H'' p' => ⟨zs.length - (i + 1), by omega, rfl, lt, p'⟩, fun x H'' hy => ?_⟩
    obtain ⟨rfl, hy⟩ := hy
    have hy := hy xs hA
    obtain rfl : x = _ := Option.some.inj (hy.symm.trans g1)
    refine ⟨hw _, ?_⟩
    obtain ⟨b, eb, hb⟩ := g3.mo ex
    refine ⟨_, hj _, _, b, z, eb, hb, h1, sz_lt (by rw [List.length_map]; have := List.length_take_le i zs; omega), Ex.mut ex hD, ?_⟩
    have nm : z ∉ zs.take i := by
      have n2 := nd.sublist (List.take_sublist (i + 1) zs)
      rw [TPm.take_snoc g2] at n2
      intro m
      exact (List.nodup_append.mp n2).2.2 z m z (List.mem_singleton.mpr rfl) rfl
    rw [putK_new _ (by rw [val_yes, if_neg nm]), TPm.take_snoc g2]
    simp only [yes, List.map_append, List.map_cons, List.map_nil]
    exact upd_same
  · have e3 : i = zs.length := by omega
    subst e3
    refine .inl ⟨⟨xs, hA, by omega⟩, q _ H' (e1.trans ex) ⟨Dl, zs, rfl, fresh_back (e.trans e1) hD, ?_, hg⟩⟩
    rw [List.take_length] at h1
    exact h1⟩
theorem y_newL : Y (tLst tNil) σ H (fun v H' => ∃ l, v = .ref l ∧ H l = none ∧ H' l = some (.lst [])) := fun H1 e Q q => ⟨Nat.zero_le _, fun p hp => q _ _ (Ex.new hp) ⟨p, rfl, fresh_back e hp, upd_same⟩⟩
/-! ### items, slices, joins of lists of pixels -/
theorem atI_nat {α : Type} {xs : List α} {i : Nat} {x : α} (h : xs[i]? = some x) : atI xs (i : Int) = some x := by
  unfold atI
  rw [ixN_nat (List.getElem?_eq_some_iff.mp h).1]
  exact h
theorem y_ixP {zs : List Px} {i : Nat} {z : Px} (ha : Y ta σ H (IsPs zs)) (hb : Y tb σ H (IsI i)) (hz : zs[i]? = some z) : Y (tOp (rIxL K) ta tb) σ H (IsP z) :=
  y_op mono_ps ha hb fun a b H1 _ ⟨p, xs, e1, e2, e3⟩ hy Q q => by
    have lt : i < xs.length := by rw [e3.len]; exact (List.getElem?_eq_some_iff.mp hz).1
    obtain ⟨w, g1, g2⟩ := e3.get (List.getElem?_eq_getElem lt)
    obtain rfl : w = z := Option.some.inj (g1.symm.trans hz)
    exact ⟨p, xs, i, _, e1, hy, .inl (.inl e2), atI_nat (List.getElem?_eq_getElem lt), q _ H1 (Ex.refl H1) g2⟩
theorem y_geP {z w : Px} (ha : Y ta σ H (IsP z)) (hb : Y tb σ H (IsP w)) : Y (tOp (rGeP K) ta tb) σ H (IsB (decide (¬ ltz z w))) :=
  y_op mono_u ha hb fun x y H1 _ ⟨a, e1, h1⟩ ⟨b, e2, h2⟩ Q q => ⟨a, b, z, w, e1, e2, st_of h1, st_of h2, q _ H1 (Ex.refl H1) rfl⟩
theorem y_ltP {z w : Px} (ha : Y ta σ H (IsP z)) (hb : Y tb σ H (IsP w)) : Y (tOp (rLtT K) ta tb) σ H (IsB (decide (ltz z w))) :=
  y_op mono_u ha hb fun x y H1 _ ⟨a, e1, h1⟩ ⟨b, e2, h2⟩ Q q => ⟨a, b, tz z, tz w, e1, e2, st_of h1, st_of h2, q _ H1 (Ex.refl H1) (by rw [lexLt_pair]; rfl)⟩
theorem y_catP {l m : List Px} (ha : Y ta σ H (IsPs l)) (hb : Y tb σ H (IsPs m)) (hz : l.length + m.length ≤ 100000) : Y (tOp rCat ta tb) σ H (IsPs (l ++ m)) :=
  y_op mono_ps ha hb fun x y H1 _ ⟨a, xs, e1, h1, p1⟩ ⟨b, ys, e2, h2, p2⟩ Q q => ⟨a, b, xs, ys, e1, e2, h1, h2, by rw [p1.len, p2.len]; exact sz_of hz, fun p hp => q _ _ (Ex.new hp) ⟨p, _, rfl, upd_same, (p1.app p2).mono (Ex.new hp)⟩⟩
theorem cut_lo (xs : List V) (n : Nat) (h : n ≤ xs.length) : cutV xs (some (n : Int)) none = xs.drop n := by
  unfold cutV
  rw [HT.sIx_nat, HT.sIx_none, Nat.min_eq_left h]
  exact List.take_of_length_le (by rw [List.length_drop]; omega)
theorem cut_hi (xs : List V) (n : Nat) (h : n ≤ xs.length) : cutV xs none (some (n : Int)) = xs.take n := by
  unfold cutV
  rw [HT.sIx_nat, HT.sIx_none, Nat.min_eq_left h, Nat.sub_zero]
  rfl
end
end TPy

/-! The defs of pictures: what each promises, and why it keeps it. -/
namespace TPx
open PySem PySem.Spec PyProof.Rows L2 TPy Evl
open TPs hiding Px
theorem asc_at {zs : List Px} (h : TPm.Asc zs) {i j : Nat} {z w : Px} (hi : zs[i]? = some z) (hj : zs[j]? = some w) (l : i < j) : TPm.lt z w := by
  obtain ⟨a, rfl⟩ := List.getElem?_eq_some_iff.mp hi
  obtain ⟨b, rfl⟩ := List.getElem?_eq_some_iff.mp hj
  exact List.pairwise_iff_getElem.mp h i j a b l
structure Pic (zs : List Px) : Prop where
  few : zs.length ≤ 400
  asc : TPm.Asc zs
abbrev imT (t : T3) (z : Px) : Px := TPm.img t.1 t.2.1 t.2.2 z
/-- ms: the images of zs, in order -/
structure Im (t : T3) (zs ms : List Px) : Prop where
  asc : TPm.Asc ms
  mem : ∀ y, y ∈ ms ↔ ∃ z ∈ zs, imT t z = y
theorem Im.few {t : T3} {zs ms : List Px} (h : Im t zs ms) : ms.length ≤ zs.length := by
  have := TPm.len_sub (l := ms) (m := zs.map (imT t)) h.asc.nodup fun y hy => by
    obtain ⟨z, hz, e⟩ := (h.mem y).mp hy
    exact List.mem_map.mpr ⟨z, hz, e⟩
  rwa [List.length_map] at this
theorem Im.pic {t : T3} {zs ms : List Px} (h : Im t zs ms) (p : zs.length ≤ 400) : Pic ms := ⟨Nat.le_trans h.few p, h.asc⟩
theorem Im.sz {t : T3} {zs ms : List Px} {n : Nat} (h : Im t zs ms) (ht : Turn t) (hz : ∀ z ∈ zs, Sz n z) : ∀ y ∈ ms, Sz (n + 2) y := fun y hy => by
  obtain ⟨z, m, e⟩ := (h.mem y).mp hy
  rw [← e]
  exact (hz z m).img ht.ok
section
variable {P : Program} {w : World} {K : PySem.W.Frag} {mg : Str → Option Value} {base : Heap}
abbrev PreL (a : List Px) (vs : List V) (H : Hp) : Prop := ∃ v, vs = [v] ∧ IsPs a v H ∧ Pic a
abbrev spneed_pixels : Sp := spF PreL fun _ => Is .non
theorem lenneed_pixels : ∀ (a : List Px) (vs : List V) (H : Hp), PreL a vs H → vs.length = Pneed_pixels.length := fun _ _ _ ⟨_, h, _⟩ => by rw [h]; rfl
theorem ps_isl {v : V} {H : Hp} {zs : List Px} (h : IsPs zs v H) : TyX K H v (.type "list") := by
  obtain ⟨p, xs, e, g, _⟩ := h
  rw [e]
  exact .base (.lst g)
theorem okneed_pixels (T : Bl mg) (D : Df K mg "need_pixels" sneed_pixels) (Gis_pixel : Ok1 P w K mg base 3 "is_pixel" Pis_pixel spis_pixel) : Ok1 P w K mg base 4 "need_pixels" Pneed_pixels spneed_pixels := by
  refine mk1 (k := 3) D scneed_pixels (lenneed_pixels) (fun _ _ _ _ _ _ us hl => match us, hl with | [_], _ => rfl) fun f cdv A outer s H vs Q E hr a pre kq => ⟨_, (pss_cons (ps_if (PW.pt (pw_or (pt_not (pt_val (pe_callB call_isi (by rfl) T.m_isinstance (by decide +kernel) (pa_cons (pv 0) (pa_cons (pe_bltn (v := .ty "list") (by rfl) T.m_list (by decide +kernel) rfl) pa_nil))))) (pw_or1 (pt_cmpR op_gt (pe_callB call_len_seq (by rfl) T.m_len (by decide +kernel) (pa_cons (pv 0) pa_nil)) (pe_glob (v := .int 400) (by rfl) T.i_MOST_PIXELS.choose_spec ⟨_, rfl⟩) (nomark _))))) (pss_one ps_never) pss_nil)
      (pss_one (ps_for PassesOwn.never (by rfl) (pi_enum (by rfl) T.m_enumerate (pa_cons (pv 0) pa_nil)) (pg_tup (by rfl) (pgs_cons (pg_name (i := 1) scneed_pixels.nd rfl (Or.inl rfl)) (pgs_cons (pg_name (i := 2) scneed_pixels.nd rfl (Or.inl rfl)) pgs_nil))) (pss_one (ps_if (PW.pt (pw_or (pt_not (pt_val (pe_fn Gis_pixel (hr.mono (by decide)) (by rfl) (pa_cons (pv 2) pa_nil)))) (pw_or1 (PW.pt (pw_and (pt_cmpR op_gt (pv 1) pe_int (nomark _)) (pw_and1 (pt_cmpR (op_geP hr.units0) (pe_ix ix_list (pv 0) (pe_op op_sub (pv 1) pe_int) (fun _ _ => rfl)) (pv 2) (nomark _)))))))) (pss_one ps_never) pss_nil))))), ?_⟩
  obtain ⟨v, rfl, hv, hp⟩ := pre
  have hv0 := hv
  obtain ⟨p, xs, rfl, hx, hs⟩ := hv0
  refine q_when (b := false) (et_is (et_or (a := false) (et_not (a := true) (yt_test (y_isi (b := true) mono_ps (y_var rfl hv mono_ps) (fun v _ h => ps_isl h) rfl))) fun _ => yt_test (y_i0 (y_lenP (y_var rfl hv mono_ps)) y_c)) ?_) (fun z => nomatch z) fun _ H1 e1 => ?_
  · show (false || decide ((400 : Int) < (a.length : Int))) = false
    rw [decide_eq_false (by have := hp.few; omega)]
    rfl
  refine s_forE (a := p) (xs := xs) (ev_var rfl) (e1 p _ hx) (fun i σ' H' => ∃ s1 s2, σ' = [some (.ref p), s1, s2] ∧ Ex H H') (fun H2 e2 => ⟨_, _, rfl, e1.trans e2⟩) (fun i σ' H' ⟨_, _, _, e⟩ => e p _ hx) ?_ fun σ' H' ⟨_, _, _, e⟩ => kq _ _ e rfl
  rintro i x σ' H2 T hi ⟨s1, s2, rfl, e2⟩ hT
  obtain ⟨z, g1, g2⟩ := hs.get hi
  have e3 : Ex H (upd H2 T (.tup [.int (i : Nat), x])) := e2.trans (Ex.new hT)
  refine ⟨T, [.int (i : Nat), x], rfl, st_of upd_same, rfl, _, [x], rfl, _, [], rfl, rfl, ?_⟩
  refine s_when (b := false) (et_is (et_or (a := false) (et_not (a := true) (yt_test (y_call z (ya1 (y_var rfl (g2.mo e3) mono_u)) (fun vs H1 _ h => h) fun _ _ _ h => h))) fun _ => et_and (a := decide (0 < (i : Int))) (b := false) (yt_test (y_i0 (y_vI rfl) y_c)) fun hb => ?_) ?_) (fun z => nomatch z) fun _ H4 e4 => ⟨_, _, rfl, e3.trans e4⟩
  · have h0 : 0 < i := by have := of_decide_eq_true hb; omega
    obtain ⟨y, g3⟩ := TPm.get_some (l := a) (i := i - 1) (by have := (List.getElem?_eq_some_iff.mp g1).1; omega)
    have h1 : ltz y z := asc_at hp.asc g3 g1 (by omega)
    refine et_is (yt_test (y_geP (y_ixP (i := i - 1) (y_var rfl (hv.mo e3) mono_ps) ((y_sub (y_vI rfl) y_c).val (by congr 1; omega)) g3) (y_var rfl (g2.mo e3) mono_u))) ?_
    exact decide_eq_false (fun h => h h1)
  · show (false || (_ && false)) = false
    simp
abbrev PreTL (n : Nat) (a : T3 × List Px) (vs : List V) (H : Hp) : Prop := ∃ v u, vs = [v, u] ∧ IsU (tvT a.1) v H ∧ Turn a.1 ∧ IsPs a.2 u H ∧ Pic a.2 ∧ ∀ z ∈ a.2, Sz n z
abbrev PreTL0 (a : T3 × List Px) (vs : List V) (H : Hp) : Prop := ∃ v u, vs = [v, u] ∧ IsU (tvT a.1) v H ∧ Turn a.1 ∧ IsPs a.2 u H ∧ Pic a.2
abbrev spneed_turn_and_picture : Sp := spF PreTL0 fun _ => Is .non
theorem lenneed_turn_and_picture : ∀ (a : T3 × List Px) (vs : List V) (H : Hp), PreTL0 a vs H → vs.length = Pneed_turn_and_picture.length := fun _ _ _ ⟨_, _, h, _⟩ => by rw [h]; rfl
theorem okneed_turn_and_picture (T : Bl mg) (D : Df K mg "need_turn_and_picture" sneed_turn_and_picture) (Gneed_turn : Ok1 P w K mg base 4 "need_turn" Pneed_turn spneed_turn) (Gneed_pixels : Ok1 P w K mg base 4 "need_pixels" Pneed_pixels spneed_pixels) : Ok1 P w K mg base 5 "need_turn_and_picture" Pneed_turn_and_picture spneed_turn_and_picture := by
  refine mk1 (k := 4) D scneed_turn_and_picture (lenneed_turn_and_picture) (fun _ _ _ _ _ _ us hl => match us, hl with | [_, _], _ => rfl) fun f cdv A outer s H vs Q E hr a pre kq => ⟨_, (pss_cons (ps_expr (pe_fn Gneed_turn (hr.mono (by decide)) (by rfl) (pa_cons (pv 0) pa_nil)))
      (pss_one (ps_expr (pe_fn Gneed_pixels (hr.mono (by decide)) (by rfl) (pa_cons (pv 1) pa_nil))))), ?_⟩
  obtain ⟨v, u, rfl, hv, ht, hu, hp⟩ := pre
  refine qy_drop (y_nt rfl hv ht) fun _ H1 e1 _ => ?_
  exact sy_drop (P := Is .non) (y_call a.2 (ya1 (y_var rfl (hu.mo e1) mono_ps)) (fun vs H1 _ ⟨v, e, h⟩ => ⟨v, e, h, hp⟩) fun _ _ _ h => h) fun _ H2 e2 _ => kq _ _ (e1.trans e2) rfl
abbrev IsIm (t : T3) (zs : List Px) : VP := fun v H => ∃ ms, IsPs ms v H ∧ Im t zs ms
theorem mono_im {t : T3} {zs : List Px} : Mono (IsIm t zs) := fun _ _ _ e ⟨ms, h, i⟩ => ⟨ms, mono_ps _ _ _ e h, i⟩
abbrev PreTS (n : Nat) (a : T3 × List Px) (vs : List V) (H : Hp) : Prop := ∃ v u, vs = [v, u] ∧ IsU (tvT a.1) v H ∧ Turn a.1 ∧ IsPs a.2 u H ∧ a.2.length ≤ 400 ∧ ∀ z ∈ a.2, Sz n z
abbrev spimages_of : Sp := spF (PreTS 350) fun a => IsIm a.1 a.2
theorem lenimages_of : ∀ (a : T3 × List Px) (vs : List V) (H : Hp), PreTS 350 a vs H → vs.length = Pimages_of.length := fun _ _ _ ⟨_, _, h, _⟩ => by rw [h]; rfl
theorem okimages_of (T : Bl mg) (D : Df K mg "images_of" simages_of) (Gimage_in : Ok1 P w K mg base 4 "image_in" Pimage_in spimage_in) : Ok1 P w K mg base 5 "images_of" Pimages_of spimages_of := by
  refine mk1 (k := 4) D scimages_of (lenimages_of) (fun _ _ _ _ _ _ us hl => match us, hl with | [_, _], _ => rfl) fun f cdv A outer s H vs Q E hr a pre kq => ⟨_, (pss_one (ps_ret (pe_callB (cr_sortP rfl) (by rfl) T.m_sorted (by decide +kernel) (pa_cons (pe_scP (own := [("pixel", 2)]) (hu_of hr) (by rfl) scimages_of.nd (pi_list (pv 1)) (blkOk_by (own := [("pixel", 2)]) (N := Nimages_of) (sc := defScope simages_of) (by decide +kernel)) (fun _ _ _ _ _ => (pg_name (i := 2) scimages_of.nd rfl (Or.inl rfl))) (fun _ _ _ _ _ => pts_nil) (fun _ _ _ _ _ => (pe_fn Gimage_in (hr.mono (by decide)) (by rfl) (pa_cons (pv 0) (pa_cons (pv 2) pa_nil))))) pa_nil)))), ?_⟩
  obtain ⟨v, u, rfl, hv, ht, hu, hl, hz⟩ := pre
  refine sy_ret (P := IsIm a.1 a.2) ((y_sortS (y_coS (imT a.1) (y_var rfl hu mono_ps) (by omega) (fun _ => rfl) fun x z H1 e m hx => ?_)).imp fun v H1 _ ⟨ms, h1, h2, h3⟩ => ⟨ms, h1, h2, h3⟩) kq
  exact y_call (a.1, z) (ya2 mono_u (y_var rfl (hv.mo e) mono_u) (y_var rfl hx mono_u)) (fun vs H1 _ ⟨v, u, e, h1, h2⟩ => ⟨v, u, e, h1, ht, h2, (hz z m).mono (by decide)⟩) fun _ _ _ h => h
/-- need_turn_and_picture ahead of the rest -/
theorem q_needP {v u : V} {r : List (Option V)} {t : T3} {zs : List Px} {H : Hp} {D : Ends} {tz : TS} (hv : IsU (tvT t) v H) (ht : Turn t) (hu : IsPs zs u H) (hp : Pic zs) (k : ∀ H1, Ex H H1 → tz D (some v :: some u :: r) H1) :
    tSeq (tDrop (tCall spneed_turn_and_picture [] E0 (tCons (tVar 0) (tCons (tVar 1) tNil)))) tz D (some v :: some u :: r) H :=
  qy_drop (P := Is .non) (y_call (t, zs) (ya2 mono_u (y_var rfl hv mono_u) (y_var rfl hu mono_ps)) (fun vs H1 _ ⟨v, u, e, h1, h2⟩ => ⟨v, u, e, h1, ht, h2, hp⟩) fun _ _ _ h => h) fun _ H1 e1 _ => k H1 e1
theorem y_im {σ : L2.St} {H : Hp} {v u : V} {i j : Nat} {t : T3} {zs : List Px} (g1 : σ[i]? = some (some v)) (g2 : σ[j]? = some (some u)) (hv : IsU (tvT t) v H) (ht : Turn t) (hu : IsPs zs u H) (hl : zs.length ≤ 400) (hz : ∀ z ∈ zs, Sz 350 z) :
    Y (tCall spimages_of [] E0 (tCons (tVar i) (tCons (tVar j) tNil))) σ H (IsIm t zs) :=
  y_call (t, zs) (ya2 mono_u (y_var g1 hv mono_u) (y_var g2 hu mono_ps)) (fun vs H1 _ ⟨v, u, e, h1, h2⟩ => ⟨v, u, e, h1, ht, h2, hl, hz⟩) fun _ _ _ h => h
abbrev spturned_picture : Sp := spF (PreTL 350) fun a => IsIm a.1 a.2
theorem lenturned_picture : ∀ (a : T3 × List Px) (vs : List V) (H : Hp), PreTL 350 a vs H → vs.length = Pturned_picture.length := fun _ _ _ ⟨_, _, h, _⟩ => by rw [h]; rfl
theorem okturned_picture (T : Bl mg) (D : Df K mg "turned_picture" sturned_picture) (Gneed_turn_and_picture : Ok1 P w K mg base 5 "need_turn_and_picture" Pneed_turn_and_picture spneed_turn_and_picture) (Gimages_of : Ok1 P w K mg base 5 "images_of" Pimages_of spimages_of) : Ok1 P w K mg base 6 "turned_picture" Pturned_picture spturned_picture := by
  refine mk1 (k := 5) D scturned_picture (lenturned_picture) (fun _ _ _ _ _ _ us hl => match us, hl with | [_, _], _ => rfl) fun f cdv A outer s H vs Q E hr a pre kq => ⟨_, (pss_cons (ps_expr (pe_fn Gneed_turn_and_picture (hr.mono (by decide)) (by rfl) (pa_cons (pv 0) (pa_cons (pv 1) pa_nil))))
      (pss_one (ps_ret (pe_fn Gimages_of (hr.mono (by decide)) (by rfl) (pa_cons (pv 0) (pa_cons (pv 1) pa_nil)))))), ?_⟩
  obtain ⟨v, u, rfl, hv, ht, hu, hp, hz⟩ := pre
  refine q_needP (r := []) hv ht hu hp fun H1 e1 => ?_
  exact sy_ret (P := IsIm a.1 a.2) (y_im rfl rfl (hv.mo e1) ht (hu.mo e1) hp.few hz) fun v H2 e2 p => kq v H2 (e1.trans e2) p
theorem y_lenIm {σ : L2.St} {H : Hp} {te : TE} {t : T3} {zs : List Px} (h : Y te σ H (IsIm t zs)) : Y (tCB (rLenS K) (tCons te tNil)) σ H (fun v _ => ∃ ms, Im t zs ms ∧ v = .int ms.length) :=
  y_cb (ya1 h) fun vs H1 _ ⟨v, ev, ms, ⟨a, xs, e, h, p⟩, im⟩ Q q => ⟨a, xs, by rw [ev, e], .inl (sq_of h), q _ H1 (Ex.refl H1) ⟨ms, im, by rw [p.len]⟩⟩
abbrev splost_number : Sp := spF (PreTL 350) fun a v _ => ∃ ms, Im a.1 a.2 ms ∧ v = .int ((a.2.length : Int) - ms.length)
theorem lenlost_number : ∀ (a : T3 × List Px) (vs : List V) (H : Hp), PreTL 350 a vs H → vs.length = Plost_number.length := fun _ _ _ ⟨_, _, h, _⟩ => by rw [h]; rfl
theorem oklost_number (T : Bl mg) (D : Df K mg "lost_number" slost_number) (Gneed_turn_and_picture : Ok1 P w K mg base 5 "need_turn_and_picture" Pneed_turn_and_picture spneed_turn_and_picture) (Gimages_of : Ok1 P w K mg base 5 "images_of" Pimages_of spimages_of) : Ok1 P w K mg base 6 "lost_number" Plost_number splost_number := by
  refine mk1 (k := 5) D sclost_number (lenlost_number) (fun _ _ _ _ _ _ us hl => match us, hl with | [_, _], _ => rfl) fun f cdv A outer s H vs Q E hr a pre kq => ⟨_, (pss_cons (ps_expr (pe_fn Gneed_turn_and_picture (hr.mono (by decide)) (by rfl) (pa_cons (pv 0) (pa_cons (pv 1) pa_nil))))
      (pss_one (ps_ret (pe_op op_sub (pe_callB call_len_seq (by rfl) T.m_len (by decide +kernel) (pa_cons (pv 1) pa_nil)) (pe_callB call_len_seq (by rfl) T.m_len (by decide +kernel) (pa_cons (pe_fn Gimages_of (hr.mono (by decide)) (by rfl) (pa_cons (pv 0) (pa_cons (pv 1) pa_nil))) pa_nil)))))), ?_⟩
  obtain ⟨v, u, rfl, hv, ht, hu, hp, hz⟩ := pre
  refine q_needP (r := []) hv ht hu hp fun H1 e1 => ?_
  refine sy_ret (P := fun v _ => ∃ ms, Im a.1 a.2 ms ∧ v = .int ((a.2.length : Int) - ms.length)) (y_op mono_is (y_lenP (y_var rfl (hu.mo e1) mono_ps)) (y_lenIm (y_im rfl rfl (hv.mo e1) ht (hu.mo e1) hp.few hz)) ?_) fun v H2 e2 p => kq v H2 (e1.trans e2) p
  rintro x y H2 e2 hx ⟨ms, im, hy⟩ Q q
  exact ⟨_, _, hx, hy, q _ H2 (Ex.refl H2) ⟨ms, im, rfl⟩⟩
abbrev IsIm2 (t t2 : T3) (zs : List Px) : VP := fun v H => ∃ ms ks, IsPs ks v H ∧ Im t zs ms ∧ Im t2 ms ks
abbrev bkT (t : T3) : T3 := (t.1, -t.2.1, -t.2.2 % 4)
abbrev spthere_and_back : Sp := spF (PreTL 340) fun a => IsIm2 a.1 (bkT a.1) a.2
theorem lenthere_and_back : ∀ (a : T3 × List Px) (vs : List V) (H : Hp), PreTL 340 a vs H → vs.length = Pthere_and_back.length := fun _ _ _ ⟨_, _, h, _⟩ => by rw [h]; rfl
theorem okthere_and_back (T : Bl mg) (D : Df K mg "there_and_back" sthere_and_back) (Gneed_turn_and_picture : Ok1 P w K mg base 5 "need_turn_and_picture" Pneed_turn_and_picture spneed_turn_and_picture) (Gimages_of : Ok1 P w K mg base 5 "images_of" Pimages_of spimages_of) (Gback_of : Ok1 P w K mg base 1 "back_of" Pback_of spback_of) : Ok1 P w K mg base 6 "there_and_back" Pthere_and_back spthere_and_back := by
  refine mk1 (k := 5) D scthere_and_back (lenthere_and_back) (fun _ _ _ _ _ _ us hl => match us, hl with | [_, _], _ => rfl) fun f cdv A outer s H vs Q E hr a pre kq => ⟨_, (pss_cons (ps_expr (pe_fn Gneed_turn_and_picture (hr.mono (by decide)) (by rfl) (pa_cons (pv 0) (pa_cons (pv 1) pa_nil))))
      (pss_one (ps_ret (pe_fn Gimages_of (hr.mono (by decide)) (by rfl) (pa_cons (pe_fn Gback_of (hr.mono (by decide)) (by rfl) (pa_cons (pv 0) pa_nil)) (pa_cons (pe_fn Gimages_of (hr.mono (by decide)) (by rfl) (pa_cons (pv 0) (pa_cons (pv 1) pa_nil))) pa_nil)))))), ?_⟩
  obtain ⟨v, u, rfl, hv, ht, hu, hp, hz⟩ := pre
  refine q_needP (r := []) hv ht hu hp fun H1 e1 => ?_
  refine sy_ret (P := IsIm2 a.1 (bkT a.1) a.2) (y_callE (ya2 (Pb := IsIm a.1 a.2) mono_u (y_call a.1 (ya1 (y_var rfl (hv.mo e1) mono_u)) (fun vs H1 _ ⟨v, e, h1⟩ => ⟨v, e, h1, ht⟩) fun _ _ _ h => h) (y_im rfl rfl (hv.mo e1) ht (hu.mo e1) hp.few fun z m => (hz z m).mono (by decide))) ?_) fun v H2 e2 p => kq v H2 (e1.trans e2) p
  rintro vs H2 e2 ⟨v, w, e, h1, ms, h2, im⟩
  exact ⟨(bkT a.1, ms), ⟨v, w, e, h1, ht.back, h2, (im.pic hp.few).few, fun y hy => ((im.sz ht hz) y hy).mono (by decide)⟩, fun v H3 _ ⟨ks, h3, im2⟩ => ⟨ms, ks, h3, im, im2⟩⟩
abbrev spis_picture : Sp := spF PreL fun _ => IsB true
theorem lenis_picture : ∀ (a : List Px) (vs : List V) (H : Hp), PreL a vs H → vs.length = Pis_picture.length := fun _ _ _ ⟨_, h, _⟩ => by rw [h]; rfl
theorem y_slL {σ : L2.St} {H : Hp} {ta : TE} {tl th : TO} {xs : List V} {lo hi : Option Int} (ha : Y ta σ H (IsLs xs)) (h1 : EvO tl σ H lo) (h2 : EvO th σ H hi) : Y (tSl (rSlL K) ta tl th) σ H (IsLs (cutV xs lo hi)) := fun H1 e Q q =>
  ha H1 e _ fun v H2 e2 ⟨p, e1, hp⟩ => h1 H2 (e.trans e2) _ fun H3 e3 => h2 H3 ((e.trans e2).trans e3) _ fun H4 e4 => ⟨p, xs, e1, .inl (.inl ((e3.trans e4) p _ hp)), fun p' hp' => q _ _ (((e2.trans e3).trans e4).trans (Ex.new hp')) ⟨p', rfl, upd_same⟩⟩
theorem okis_picture (T : Bl mg) (D : Df K mg "is_picture" sis_picture) (Gis_pixel : Ok1 P w K mg base 3 "is_pixel" Pis_pixel spis_pixel) : Ok1 P w K mg base 4 "is_picture" Pis_picture spis_picture := by
  refine mk1 (k := 3) D scis_picture (lenis_picture) (fun _ _ _ _ _ _ us hl => match us, hl with | [_], _ => rfl) fun f cdv A outer s H vs Q E hr a pre kq => ⟨_, (pss_cons (ps_if (PW.pt (pw_or (pt_not (pt_val (pe_callB call_isi (by rfl) T.m_isinstance (by decide +kernel) (pa_cons (pv 0) (pa_cons (pe_bltn (v := .ty "list") (by rfl) T.m_list (by decide +kernel) rfl) pa_nil))))) (pw_or (pt_cmpR op_gt (pe_callB call_len_seq (by rfl) T.m_len (by decide +kernel) (pa_cons (pv 0) pa_nil)) (pe_glob (v := .int 400) (by rfl) T.i_MOST_PIXELS.choose_spec ⟨_, rfl⟩) (nomark _)) (pw_or1 (pt_not (pt_val (pe_callB (cr_all rfl) (by rfl) T.m_all (by decide +kernel) (pa_cons (pe_lc (own := [("pixel", 1)]) (by rfl) scis_picture.nd (pi_list (pv 0)) (blkOk_by (own := [("pixel", 1)]) (N := Nis_picture) (sc := defScope sis_picture) (by decide +kernel)) (fun _ _ _ _ _ => (pg_name (i := 1) scis_picture.nd rfl (Or.inl rfl))) (fun _ _ _ _ _ => pts_nil) (fun _ _ _ _ _ => (pe_fn Gis_pixel (hr.mono (by decide)) (by rfl) (pa_cons (pv 1) pa_nil)))) pa_nil)))))))) (pss_one (ps_ret pe_bl)) pss_nil)
      (pss_one (ps_ret (pe_callB (cr_all rfl) (by rfl) T.m_all (by decide +kernel) (pa_cons (pe_lc (own := [("one", 2), ("other", 3)]) (by rfl) scis_picture.nd (pi_zip (by rfl) T.m_zip (pa_cons (pv 0) (pa_cons (pe_slice sl_list (pv 0) (po_some pe_int) po_none) pa_nil))) (blkOk_by (own := [("one", 2), ("other", 3)]) (N := Nis_picture) (sc := defScope sis_picture) (by decide +kernel)) (fun _ _ _ _ _ => (pg_tupK (K := K) 2 rfl rfl (pgs_cons (pg_name (i := 2) scis_picture.nd rfl (Or.inl rfl)) (pgs_cons (pg_name (i := 3) scis_picture.nd rfl (Or.inl rfl)) pgs_nil)))) (fun _ _ _ _ _ => pts_nil) (fun _ _ _ _ _ => (pe_cmpR (op_ltTK (K := K) rfl hr.units0) (pv 2) (pv 3) (nomark _)))) pa_nil))))), ?_⟩
  obtain ⟨v, rfl, hv, hp⟩ := pre
  have hv0 := hv
  obtain ⟨p, xs, rfl, hx, hs⟩ := hv0
  refine q_when (b := false) (et_is (et_or (a := false) (et_not (a := true) (yt_test (y_isi (b := true) mono_ps (y_var rfl hv mono_ps) (fun v _ h => ps_isl h) rfl))) fun _ => et_or (a := false) (et_is (yt_test (y_i0 (y_lenP (y_var rfl hv mono_ps)) y_c)) ?_) fun _ => et_not (a := true) (et_is (yt_test (y_all (n := a.length) (b := fun _ => true) (y_lcP (fun _ => true) _ (fun _ => mono_is) (fun _ => loc_is) (y_var rfl hv mono_ps) (by have := hp.few; omega) (fun _ => rfl) (fun _ _ _ _ _ _ _ => et_yes) fun i x z H1 e hi hx _ => ?_))) ?_)) rfl) (fun z => nomatch z) fun _ H1 e1 => ?_
  · exact decide_eq_false (by have := hp.few; omega)
  · exact y_call z (ya1 (y_var rfl hx mono_u)) (fun vs H1 _ h => h) fun _ _ _ h => h
  · simp
  have lx : xs.length ≤ 400 := by rw [hs.len]; exact hp.few
  by_cases h0 : xs.length = 0
  · have e0 : xs = [] := List.length_eq_zero_iff.mp h0
    subst e0
    refine sy_ret (P := IsB true) ((y_all (n := 0) (b := fun _ => true) (y_lcZ (xs := []) (ys := []) (fun _ => true) _ (fun _ => mono_is) (fun _ => loc_is) (y_var rfl ⟨p, rfl, e1 p _ hx⟩ mono_ls) (y_slL (xs := []) (lo := some 1) (hi := none) (y_var rfl ⟨p, rfl, e1 p _ hx⟩ mono_ls) (eo_some ev_c) eo_none) (Nat.le_refl _) (Nat.zero_le _) (fun _ _ => rfl) (fun _ _ _ _ _ _ _ => et_yes) fun i x y H2 _ hi _ _ => by cases hi))) fun v H2 e2 q => kq v H2 (e1.trans e2) q
  · have sl := y_slL (K := K) (σ := L2.start Nis_picture [.ref p]) (H := H1) (tl := tPart (tC (.int 1))) (th := tNoPart) (lo := some 1) (hi := none) (y_var (i := 0) rfl ⟨p, rfl, e1 p _ hx⟩ mono_ls) (eo_some ev_c) eo_none
    rw [show (some (1 : Int)) = some ((1 : Nat) : Int) from rfl, cut_lo xs 1 (by omega)] at sl
    refine sy_ret (P := IsB true) ((y_all (n := (xs.drop 1).length) (b := fun _ => true) (y_lcZ (xs := xs) (ys := xs.drop 1) (fun _ => true) _ (fun _ => mono_is) (fun _ => loc_is) (y_var rfl ⟨p, rfl, e1 p _ hx⟩ mono_ls) sl (by rw [List.length_drop]; omega) (by rw [List.length_drop]; omega) (fun _ _ => rfl) (fun _ _ _ _ _ _ _ => et_yes) fun i x y H2 e2 hi hj _ => ?_)).val (by simp)) fun v H2 e2 q => kq v H2 (e1.trans e2) q
    rw [List.getElem?_drop] at hj
    obtain ⟨z, g1, g2⟩ := hs.get hi
    obtain ⟨z', g3, g4⟩ := hs.get hj
    have lt : ltz z z' := asc_at hp.asc g1 g3 (by omega)
    exact (y_ltP (y_var rfl (g2.mo (e1.trans e2)) mono_u) (y_var rfl (g4.mo (e1.trans e2)) mono_u)).val (by rw [decide_eq_true lt])
end
end TPx

/-! The defs of pictures, second part: meetings, gaps, sheared pictures. -/
namespace TPx
open PySem PySem.Spec PyProof.Rows L2 TPy Evl
open TPs hiding Px
section
variable {P : Program} {w : World} {K : PySem.W.Frag} {mg : Str → Option Value} {base : Heap}
/-- who meets whom -/
abbrev IsMt (t : T3) (zs : List Px) : VP := fun v H => ∃ ps, ps.Perm (TPm.prN (imT t) zs zs.length) ∧ IsPrs ps v H
/-- the dict's word: the last pixel of pre with each image -/
def Fst (f : Px → Px) (pre : List Px) (kvs : List (List Key × V)) (H : Hp) : Prop := ∀ g, (∀ y, TPm.lastW f pre g = some y → ∃ v, valV kvs (kz g) = some v ∧ IsP y v H) ∧ (TPm.lastW f pre g = none → valV kvs (kz g) = none)
theorem Fst.tk {f : Px → Px} {pre : List Px} {kvs : List (List Key × V)} {H H' : Hp} (h : Fst f pre kvs H) (t : Tk H H') : Fst f pre kvs H' := fun g => ⟨fun y e => let ⟨v, e1, e2⟩ := (h g).1 y e; ⟨v, e1, e2.tk t⟩, (h g).2⟩
theorem Fst.put {f : Px → Px} {pre : List Px} {kvs : List (List Key × V)} {H : Hp} {z : Px} {v : V} (h : Fst f pre kvs H) (hv : IsP z v H) : Fst f (pre ++ [z]) (putK kvs (kz (f z)) v) H := fun g => by
  rw [TPm.lastW_snoc, valV_put]
  by_cases e : f z = g
  · rw [if_pos e, if_pos (by rw [e])]
    exact ⟨fun y hy => by cases hy; exact ⟨v, rfl, hv⟩, fun h => (nomatch h)⟩
  · rw [if_neg e, if_neg (fun q => e (kz_inj q).symm)]
    exact h g
theorem ev_dget {σ : L2.St} {H : Hp} {td ty : TE} {kvs : List (List Key × V)} {g : Px} {d b : Addr} {v : V} (hd : Ev td σ H (.ref d)) (hy : Ev ty σ H (.ref b)) (h : H d = some (.dT kvs)) (hb : H b = some (.tup (tv g))) (hv : valV kvs (kz g) = some v) : Ev (tDGet td ty) σ H v := fun H1 e Q q =>
  hd H1 e _ fun H2 e2 => hy H2 (e.trans e2) _ fun H3 e3 => ⟨d, v, rfl, by rw [← hv]; exact dget_of (.inl (((e.trans e2).trans e3) d _ h)) (((e.trans e2).trans e3) b _ hb), q H3 (e2.trans e3)⟩
abbrev spmeetings_in : Sp := spF (PreTL 350) fun a => IsMt a.1 a.2
theorem lenmeetings_in : ∀ (a : T3 × List Px) (vs : List V) (H : Hp), PreTL 350 a vs H → vs.length = Pmeetings_in.length := fun _ _ _ ⟨_, _, h, _⟩ => by rw [h]; rfl
theorem okmeetings_in (T : Bl mg) (D : Df K mg "meetings_in" smeetings_in) (Gneed_turn_and_picture : Ok1 P w K mg base 5 "need_turn_and_picture" Pneed_turn_and_picture spneed_turn_and_picture) (Gimage_in : Ok1 P w K mg base 4 "image_in" Pimage_in spimage_in) : Ok1 P w K mg base 6 "meetings_in" Pmeetings_in spmeetings_in := by
  refine mk1 (k := 5) D scmeetings_in (lenmeetings_in) (fun _ _ _ _ _ _ us hl => match us, hl with | [_, _], _ => rfl) fun f cdv A outer s H vs Q E hr a pre kq => ⟨_, (pss_cons (ps_expr (pe_fn Gneed_turn_and_picture (hr.mono (by decide)) (by rfl) (pa_cons (pv 0) (pa_cons (pv 1) pa_nil))))
      (pss_cons (ps_par (i := 2) (j := 3) (by rfl) scmeetings_in.nd rfl rfl (by decide) rfl rfl (pa_cons pe_dnewT (pa_cons (pe_lst pa_nil) pa_nil)) (by rfl))
      (pss_cons (ps_for PassesOwn.never (by rfl) (pi_list (pv 1)) (pg_name (i := 4) scmeetings_in.nd rfl (Or.inl rfl)) (pss_cons (ps_set (i := 5) scmeetings_in.nd rfl (Or.inl rfl) (pe_fn Gimage_in (hr.mono (by decide)) (by rfl) (pa_cons (pv 0) (pa_cons (pv 4) pa_nil))))
      (pss_cons (ps_if (pt_cmp (pc_din (hu_of hr) (pv 5) (pv 2)) (by rfl)) (pss_one (ps_expr (pe_bm PySem.F.plainAttrs_list PySem.F.slot_list_append PySem.F.type_list_append mt_append (pv 3) (pa_cons (pe_tup (pa_cons (pe_dget (hu_of hr) (pv 2) (pv 5) (fun _ _ => rfl)) (pa_cons (pv 4) pa_nil))) pa_nil)))) pss_nil)
      (pss_one (ps_dput (hu_of hr) (pv 2) (pv 5) (pv 4) (by rfl))))))
      (pss_one (ps_ret (pe_callB (cr_sortD hr.units) (by rfl) T.m_sorted (by decide +kernel) (pa_cons (pv 3) pa_nil))))))), ?_⟩
  obtain ⟨v, u, rfl, hv, ht, hu, hp, hz⟩ := pre
  refine q_needP (r := [none, none, none, none]) hv ht hu hp fun H1 e1 => ?_
  have hu0 := hu
  obtain ⟨p, xs, rfl, hx, hs⟩ := hu0
  intro d hd
  refine ⟨Nat.zero_le _, fun l hl => ⟨.ref d, .ref l, rfl, ?_⟩⟩
  have ld : l ≠ d := by
    intro z
    rw [z, upd_same] at hl
    cases hl
  have hl1 : H1 l = none := by
    rw [upd_ne ld] at hl
    exact hl
  refine q_forLn (a := p) (xs := xs) (ev_var rfl) (sq_of ((Ex.mut (Ex.new hd) hl1) p _ (e1 p _ hx))) (fun i σ' H' => ∃ s4 s5 kvs fs, σ' = [some v, some (.ref p), some (.ref d), some (.ref l), s4, s5] ∧ Ex H1 H' ∧ H' d = some (.dT kvs) ∧ H' l = some (.lst fs) ∧ Fst (imT a.1) (a.2.take i) kvs H' ∧ kvs.length ≤ i ∧ Prs H' fs (TPm.prN (imT a.1) a.2 i)) (fun H2 e2 => ?_) (fun i σ' H' _ ⟨_, _, _, _, _, e, _⟩ => sq_of (e p _ (e1 p _ hx))) ?_ ?_
  · refine ⟨_, _, [], [], rfl, (Ex.mut (Ex.new hd) hl1).trans e2, e2 d _ (by rw [upd_ne (Ne.symm ld)]; exact upd_same), e2 l _ upd_same, fun g => ⟨fun y h => ?_, fun _ => rfl⟩, Nat.zero_le _, trivial⟩
    rw [List.take_zero] at h
    cases h
  · rintro i x σ' H2 hi ⟨s4, s5, kvs, fs, rfl, e2, h2d, h2l, hF, hk, hP⟩
    obtain ⟨z, g1, g2⟩ := hs.get hi
    have il : i < 400 := by have := (List.getElem?_eq_some_iff.mp g1).1; have := hp.few; omega
    have fl : fs.length ≤ i := by
      rw [hP.len]
      have := TPm.pr_gl_len (f := imT a.1) (l := a.2) i (by have := (List.getElem?_eq_some_iff.mp g1).1; omega)
      omega
    have gx : IsP z x H2 := g2.mo (e1.trans e2)
    refine qy_asg (P := IsP (imT a.1 z)) (y_call (a.1, z) (ya2 mono_u (y_var rfl (hv.mo (e1.trans e2)) mono_u) (y_var rfl gx mono_u)) (fun vs H1 _ ⟨v, u, e, h1, h2⟩ => ⟨v, u, e, h1, ht, h2, (hz z (List.mem_of_getElem? g1)).mono (by decide)⟩) fun _ _ _ h => h) fun gv H3 e3 hg => ?_
    have h3d : H3 d = some (.dT kvs) := e3 d _ h2d
    have h3l : H3 l = some (.lst fs) := e3 l _ h2l
    have fin : ∀ H5 fs', Ex H1 H5 → Tk H3 H5 → H5 d = some (.dT kvs) → H5 l = some (.lst fs') → Prs H5 fs' (TPm.prN (imT a.1) a.2 (i + 1)) →
        sDPut (tVar 2) (tVar 5) (tVar 4) { nx := fun σ' H' => ∃ s4 s5 kvs fs, σ' = [some v, some (.ref p), some (.ref d), some (.ref l), s4, s5] ∧ Ex H1 H' ∧ H' d = some (.dT kvs) ∧ H' l = some (.lst fs) ∧ Fst (imT a.1) (a.2.take (i + 1)) kvs H' ∧ kvs.length ≤ i + 1 ∧ Prs H' fs (TPm.prN (imT a.1) a.2 (i + 1)), rt := Q, bk := fun _ _ => False, ct := fun _ _ => False } [some v, some (.ref p), some (.ref d), some (.ref l), some x, some gv] H5 := fun H5 fs' q1 q2 q3 q4 q5 => by
      refine s_dput (z := imT a.1 z) (v := x) q3 (y_vI rfl) (y_vI rfl) (y_var rfl (hg.tk q2) mono_u) (by omega) fun H6 e6 => ?_
      have t6 : Tk H3 (upd H6 d (.dT (putK kvs (kz (imT a.1 z)) x))) := (q2.trans (Ex.tk e6)).trans (Tk.dT (e6 d _ q3))
      refine ⟨_, _, _, fs', rfl, Ex.mut (q1.trans e6) hd, upd_same, by rw [upd_ne ld]; exact e6 l _ q4, ?_, ?_, q5.tk ((Ex.tk e6).trans (Tk.dT (e6 d _ q3)))⟩
      · rw [TPm.take_snoc g1]
        exact (hF.tk ((Ex.tk e3).trans t6)).put (gx.tk ((Ex.tk e3).trans t6))
      · have := length_putK kvs (kz (imT a.1 z)) x
        omega
    have hok : (valV kvs (kz (imT a.1 z))).isSome = (TPm.lastW (imT a.1) (a.2.take i) (imT a.1 z)).isSome := by
      cases hq : TPm.lastW (imT a.1) (a.2.take i) (imT a.1 z) with
      | none => rw [(hF (imT a.1 z)).2 hq]; rfl
      | some y =>
        obtain ⟨w, e, _⟩ := (hF (imT a.1 z)).1 y hq
        rw [e]
        rfl
    refine q_when (b := (valV kvs (kz (imT a.1 z))).isSome) (yt_B (y_din (y_var rfl hg mono_u) (y_var rfl ⟨d, rfl, .inl h3d⟩ mono_d))) (fun hb H4 e4 => ?_) (fun hb H4 e4 => ?_)
    · rw [hok] at hb
      obtain ⟨y, hy⟩ := Option.isSome_iff_exists.mp hb
      obtain ⟨vy, hvy, hyy⟩ := (hF (imT a.1 z)).1 y hy
      obtain ⟨b, rfl, hgb⟩ := hg
      refine s_appU (l := l) (xs := fs) (ys := [vy, x]) (e4 l _ h3l) (ev_var rfl) (eu_tup (ea_cons (ev_dget (ev_var rfl) (ev_var rfl) (e4 d _ h3d) (e4 b _ hgb) hvy) (ea_cons (ev_var rfl) ea_nil)) (by show 2 ≤ 100000; decide)) (by omega) fun p' H5 hp' e5 h5 => ?_
      have h5l : H5 l = some (.lst fs) := e5 l _ (e4 l _ h3l)
      have t5 : Tk H3 (upd H5 l (.lst (fs ++ [.ref p']))) := (Ex.tk (e4.trans e5)).trans (Tk.lst h5l)
      refine fin _ (fs ++ [.ref p']) (Ex.mut (((e2.trans e3).trans e4).trans e5) hl1) t5 ?_ upd_same ?_
      · rw [upd_ne (Ne.symm ld)]
        exact e5 d _ (e4 d _ h3d)
      · rw [TPm.prN_some g1 hy]
        refine Prs.snoc ⟨vy, x, ⟨p', rfl, ?_⟩, hyy.tk ((Ex.tk e3).trans t5), gx.tk ((Ex.tk e3).trans t5)⟩ (hP.tk ((Ex.tk e3).trans t5))
        exact Tk.lst h5l _ _ h5
    · rw [hok] at hb
      have hn : TPm.lastW (imT a.1) (a.2.take i) (imT a.1 z) = none := by
        cases hq : TPm.lastW (imT a.1) (a.2.take i) (imT a.1 z) with
        | none => rfl
        | some y => rw [hq] at hb; cases hb
      refine fin H4 fs ((e2.trans e3).trans e4) (Ex.tk e4) (e4 d _ h3d) (e4 l _ h3l) ?_
      rw [TPm.prN_none g1 hn]
      exact hP.tk (Ex.tk (e3.trans e4))
  · rintro σ' H2 ⟨s4, s5, kvs, fs, rfl, e2, h2d, h2l, hF, hk, hP⟩
    rw [hs.len] at hP
    refine sy_ret (P := IsMt a.1 a.2) (y_sortPr (y_var rfl ⟨l, fs, rfl, h2l, hP⟩ mono_prs)) fun v H3 e3 q => kq v H3 ((e1.trans e2).trans e3) q
/-- gaps: bare, all around are images -/
structure Gp (t : T3) (zs : List Px) (n : Nat) (g : Px) : Prop where
  bare : Bare t g
  round : ∀ y ∈ TPm.nbs g, ∃ z ∈ zs, imT t z = y
  sz : Sz n g
abbrev IsGp (t : T3) (zs : List Px) (n : Nat) : VP := fun v H => ∃ gs, IsPs gs v H ∧ gs.length ≤ 400 ∧ ∀ g ∈ gs, Gp t zs n g
noncomputable def cd (p : Prop) : Bool := @decide p (Classical.propDecidable p)
theorem cd_iff {p : Prop} : cd p = true ↔ p := by
  unfold cd
  exact @decide_eq_true_iff p (Classical.propDecidable p)
theorem yt_br {σ : L2.St} {H : Hp} {te : TE} {t : T3} {g : Px} (h : Y te σ H (IsBr t g)) : EvT (tTest te) σ H (cd (Bare t g)) := yt_test (h.imp fun v H1 _ ⟨b, e, h⟩ => by
  rw [e]
  show V.bl b = V.bl (cd (Bare t g))
  congr 1
  rw [Bool.eq_iff_iff, h, cd_iff])
abbrev spgaps_in : Sp := spF (PreTL 340) fun a => IsGp a.1 a.2 344
theorem lengaps_in : ∀ (a : T3 × List Px) (vs : List V) (H : Hp), PreTL 340 a vs H → vs.length = Pgaps_in.length := fun _ _ _ ⟨_, _, h, _⟩ => by rw [h]; rfl
theorem okgaps_in (T : Bl mg) (D : Df K mg "gaps_in" sgaps_in) (Gneed_turn_and_picture : Ok1 P w K mg base 5 "need_turn_and_picture" Pneed_turn_and_picture spneed_turn_and_picture) (Gimages_of : Ok1 P w K mg base 5 "images_of" Pimages_of spimages_of) (Gsources_in : Ok1 P w K mg base 4 "sources_in" Psources_in spsources_in) (Gneighbours : Ok1 P w K mg base 1 "neighbours" Pneighbours spneighbours) : Ok1 P w K mg base 6 "gaps_in" Pgaps_in spgaps_in := by
  refine mk1 (k := 5) D scgaps_in (lengaps_in) (fun _ _ _ _ _ _ us hl => match us, hl with | [_, _], _ => rfl) fun f cdv A outer s H vs Q E hr a pre kq => ⟨_, (pss_cons (ps_expr (pe_fn Gneed_turn_and_picture (hr.mono (by decide)) (by rfl) (pa_cons (pv 0) (pa_cons (pv 1) pa_nil))))
      (pss_cons (ps_set (i := 2) scgaps_in.nd rfl (Or.inr rfl) (pe_dcP (own := [("goal", 7)]) (hu_of hr) (by rfl) scgaps_in.nd (pi_list (pe_fn Gimages_of (hr.mono (by decide)) (by rfl) (pa_cons (pv 0) (pa_cons (pv 1) pa_nil)))) (blkOk_by (own := [("goal", 7)]) (N := Ngaps_in) (sc := defScope sgaps_in) (by decide +kernel)) (fun _ _ _ _ _ => (pg_name (i := 7) scgaps_in.nd rfl (Or.inl rfl))) (fun _ _ _ _ _ => pts_nil) (fun _ _ _ _ _ => (pv 7)) (fun _ _ _ _ _ => pe_bl)))
      (pss_cons (ps_set (i := 3) scgaps_in.nd rfl (Or.inl rfl) (pe_lst pa_nil))
      (pss_cons (ps_lock (ps_for PassesOwn.never (by rfl) (pi_keys (pv 2)) (pg_tup (by rfl) (pgs_cons (pg_name (i := 4) scgaps_in.nd rfl (Or.inl rfl)) (pgs_cons (pg_name (i := 5) scgaps_in.nd rfl (Or.inl rfl)) pgs_nil))) (pss_cons (ps_set (i := 6) scgaps_in.nd rfl (Or.inl rfl) (pe_tup (pa_cons (pe_op op_add (pv 4) pe_int) (pa_cons (pv 5) pa_nil))))
      (pss_one (ps_if (PW.pt (pw_and (pt_cmp (pc_dnotin (hu_of hr) (pv 6) (pv 2)) (by rfl)) (pw_and (pt_val (pe_callB (cr_all rfl) (by rfl) T.m_all (by decide +kernel) (pa_cons (pe_lc (own := [("one", 8)]) (by rfl) scgaps_in.nd (pi_list (pe_fn Gneighbours (hr.mono (by decide)) (by rfl) (pa_cons (pv 6) pa_nil))) (blkOk_by (own := [("one", 8)]) (N := Ngaps_in) (sc := defScope sgaps_in) (by decide +kernel)) (fun _ _ _ _ _ => (pg_name (i := 8) scgaps_in.nd rfl (Or.inl rfl))) (fun _ _ _ _ _ => pts_nil) (fun _ _ _ _ _ => (pe_cmp (pc_din (hu_of hr) (pv 8) (pv 2)) (by rfl)))) pa_nil))) (pw_and1 (pt_cmpR (op_eqD hr.units) (pe_fn Gsources_in (hr.mono (by decide)) (by rfl) (pa_cons (pv 0) (pa_cons (pv 6) pa_nil))) (pe_lst pa_nil) (nomark _)))))) (pss_one (ps_expr (pe_bm PySem.F.plainAttrs_list PySem.F.slot_list_append PySem.F.type_list_append mt_append (pv 3) (pa_cons (pv 6) pa_nil)))) pss_nil)))))
      (pss_one (ps_ret (pe_callB (cr_sortD hr.units) (by rfl) T.m_sorted (by decide +kernel) (pa_cons (pv 3) pa_nil)))))))), ?_⟩
  obtain ⟨v, u, rfl, hv, ht, hu, hp, hz⟩ := pre
  refine q_needP (r := [none, none, none, none, none, none, none]) hv ht hu hp fun H1 e1 => ?_
  refine qy_asg (y_coD (G := Im a.1 a.2) (y_im rfl rfl (hv.mo e1) ht (hu.mo e1) hp.few fun z m => (hz z m).mono (by decide)) (fun ms im => ⟨im.asc.nodup, by have := im.few; have := hp.few; omega⟩) (fun _ => rfl) (fun _ => rfl)) ?_
  rintro dv H2 e2 ⟨d, ms, rfl, hd1, hd, im⟩
  refine qy_asg y_newL ?_
  rintro lv H3 e3 ⟨l, rfl, hl2, hl⟩
  have hd3 : H3 d = some (.dT (yes ms)) := e3 d _ hd
  have hl1 : H1 l = none := fresh_back e2 hl2
  have ld : l ≠ d := by
    intro z
    rw [z, hd3] at hl
    cases hl
  refine ⟨d, .dT (yes ms), hd3, True.intro, fun od => ?_⟩
  have ex3 : ∀ {H4 : Hp} {o : HO}, Ex H1 H4 → Ex H1 (upd H4 d o) := fun e => Ex.mut e hd1
  refine s_forK (d := d) (o := od) (zs := ms) (ev_var rfl) upd_same (fun i σ' H' => ∃ s4 s5 s6 fs gs, σ' = [some v, some u, some (.ref d), some (.ref l), s4, s5, s6, none, none] ∧ Ex H1 H' ∧ H' d = some (.frz od (.dT (yes ms))) ∧ H' l = some (.lst fs) ∧ Pxs H' fs gs ∧ (∀ g ∈ gs, Gp a.1 a.2 344 g) ∧ fs.length ≤ i)
    (fun H4 e4 => ⟨_, _, _, [], [], rfl, (ex3 (e2.trans e3)).trans e4, e4 d _ upd_same, e4 l _ (by rw [upd_ne ld]; exact hl), trivial, fun g h => (nomatch h), Nat.zero_le _⟩) (fun i σ' H' ⟨_, _, _, _, _, _, _, h, _⟩ => h) ?_ ?_
  · rintro i z q σ' H4 hi ⟨s4, s5, s6, fs, gs, rfl, e4, h4d, h4l, hP, hG, hk⟩ hq
    have im400 : i < 400 := by have := (List.getElem?_eq_some_iff.mp hi).1; have := im.few; have := hp.few; omega
    refine ⟨q, tv z, rfl, st_of hq, rfl, _, [.int z.2], rfl, _, [], rfl, rfl, ?_⟩
    refine qy_asg (P := IsP (z.1 + 1, z.2)) (y_tup2 (y_add (y_vI rfl) y_c) (y_vI rfl)) fun gv H5 e5 hg => ?_
    obtain ⟨g, eg⟩ : ∃ g : Px, g = (z.1 + 1, z.2) := ⟨_, rfl⟩
    rw [← eg] at hg
    have gz : Sz 344 g := (im.sz ht hz z (List.mem_of_getElem? hi)).nbs (TPm.mem_nbs.mpr (by rw [eg]; exact .inr (.inr (.inr ⟨rfl, rfl⟩))))
    have dict : ∀ {H6 : Hp}, Ex H5 H6 → IsD (yes ms) (.ref d) H6 := fun e => ⟨d, rfl, .inr ⟨od, e d _ (e5 d _ h4d)⟩⟩
    refine s_when (b := !decide (g ∈ ms) && ((List.range 4).all (fun i => decide ((TPm.nbs g).getD i (0, 0) ∈ ms)) && cd (Bare a.1 g))) (et_and (et_is (yt_B (y_dnin (y_var rfl hg mono_u) (y_var rfl (dict (Ex.refl _)) mono_d))) (by rw [yes_some])) fun _ => et_and (yt_test (y_all (n := 4) (y_lcP (zs := TPm.nbs g) (fun _ => true) (fun i => IsB (decide ((TPm.nbs g).getD i (0, 0) ∈ ms))) (fun _ => mono_is) (fun _ => loc_is) (y_call g (ya1 (y_var rfl hg mono_u)) (fun vs H1 _ h => h) fun _ _ _ h => h) (by show 4 ≤ 40000; decide) (fun _ => rfl) (fun _ _ _ _ _ _ _ => et_yes) fun i x y H6 e6 hj hx _ => ?_))) fun _ => ?_) (fun hb H6 e6 => ?_) (fun hb H6 e6 => ?_)
    · have ey : (TPm.nbs g).getD i (0, 0) = y := by simp [hj]
      rw [ey]
      exact (y_din (y_var rfl hx mono_u) (y_var rfl (dict e6) mono_d)).val (by rw [yes_some])
    · exact yt_br (y_bare (y_call (a.1, g) (ya2 mono_u (y_var rfl (hv.mo ((e1.trans e4).trans e5)) mono_u) (y_var rfl hg mono_u)) (fun vs H1 _ ⟨v, u, e, h1, h2⟩ => ⟨v, u, e, h1, ht, h2, gz.mono (by decide)⟩) fun _ _ _ h => h))
    · rw [Bool.and_eq_true, Bool.and_eq_true, cd_iff] at hb
      refine s_app (l := l) (xs := fs) (e6 l _ (e5 l _ h4l)) (ev_var rfl) (ev_var rfl) (by omega) fun H7 e7 => ?_
      have h7l : H7 l = some (.lst fs) := e7 l _ (e6 l _ (e5 l _ h4l))
      refine ⟨_, _, _, fs ++ [gv], gs ++ [g], rfl, Ex.mut (((e4.trans e5).trans e6).trans e7) hl1, by rw [upd_ne (Ne.symm ld)]; exact e7 d _ (e6 d _ (e5 d _ h4d)), upd_same, (Pxs.app (hP.mono ((e5.trans e6).trans e7)) (Pxs.one (hg.mo (e6.trans e7)))).tk (Tk.lst h7l), ?_, by rw [List.length_append]; exact Nat.succ_le_succ hk⟩
      intro g' hg'
      rcases List.mem_append.mp hg' with m | m
      · exact hG g' m
      · rw [List.mem_singleton.mp m]
        refine ⟨hb.2.2, fun y hy => (im.mem y).mp ?_, gz⟩
        obtain ⟨j, lj, ej⟩ := List.mem_iff_getElem.mp hy
        have h4 := List.all_eq_true.mp hb.2.1 j (List.mem_range.mpr lj)
        have := of_decide_eq_true h4
        rw [List.getD_eq_getElem?_getD, List.getElem?_eq_getElem lj] at this
        rw [← ej]
        exact this
    · exact ⟨_, _, _, fs, gs, rfl, (e4.trans e5).trans e6, e6 d _ (e5 d _ h4d), e6 l _ (e5 l _ h4l), hP.mono (e5.trans e6), hG, Nat.le_succ_of_le hk⟩
  · rintro σ' H4 ⟨s4, s5, s6, fs, gs, rfl, e4, h4d, h4l, hP, hG, hk⟩
    refine ⟨h4d, ?_⟩
    have t4 : Tk H4 (upd H4 d (.dT (yes ms))) := Tk.upd fun xs e => by rw [h4d] at e; cases e
    refine sy_ret (P := IsGp a.1 a.2 344) ((y_sortP (y_var rfl ⟨l, fs, rfl, by rw [upd_ne ld]; exact h4l, hP.tk t4⟩ mono_ps)).imp fun v H5 _ ⟨gs', p, h⟩ => ⟨gs', h, ?_, fun g m => hG g (p.mem_iff.mp m)⟩) fun v H5 e5 q => kq v H5 ((e1.trans (ex3 e4)).trans e5) q
    rw [p.length_eq, ← hP.len]
    have := im.few
    have := hp.few
    omega
abbrev PreTOL (a : T3 × Bool × List Px) (vs : List V) (H : Hp) : Prop := ∃ v u, vs = [v, od a.2.1, u] ∧ IsU (tvT a.1) v H ∧ Turn a.1 ∧ IsPs a.2.2 u H ∧ Pic a.2.2 ∧ ∀ z ∈ a.2.2, Sz 330 z
abbrev spsheared_picture : Sp := spF PreTOL fun a v H => ∃ ys : List Px, IsPs ys v H ∧ ys.length = a.2.2.length
theorem lensheared_picture : ∀ (a : T3 × Bool × List Px) (vs : List V) (H : Hp), PreTOL a vs H → vs.length = Psheared_picture.length := fun _ _ _ ⟨_, _, h, _⟩ => by rw [h]; rfl
theorem sel_some {n : Nat} {H : Hp} : ∀ {ys : List V} {is : List Nat}, Sel H (fun _ => SoP n) ys is → ∃ zs : List Px, Pxs H ys zs ∧ zs.length = is.length
  | [], [], _ => ⟨[], trivial, rfl⟩
  | _ :: _, _ :: _, ⟨⟨z, h, _⟩, t⟩ => by
    obtain ⟨zs, h1, h2⟩ := sel_some t
    exact ⟨z :: zs, ⟨h, h1⟩, congrArg (· + 1) h2⟩
  | [], _ :: _, h => h.elim
  | _ :: _, [], h => h.elim
theorem y_sortE {σ : L2.St} {H : Hp} {te : TE} {G : List Px → Prop} (h : Y te σ H (fun v H => ∃ zs, IsPs zs v H ∧ G zs)) (hG : ∀ zs zs', zs'.Perm zs → G zs → G zs') : Y (tCB (rSortD K) (tCons te tNil)) σ H (fun v H => ∃ zs, IsPs zs v H ∧ G zs) := fun H1 e Q q =>
  h H1 e _ fun v H2 e2 ⟨zs, hz, g⟩ => by
    have s := y_sortP (K := K) (σ := [some v]) (H := H2) (te := tVar 0) (y_var rfl hz mono_ps) H2 (Ex.refl H2) Q fun v' H3 e3 ⟨zs', p, h'⟩ => q v' H3 (e2.trans e3) ⟨zs', h', hG zs zs' p g⟩
    obtain ⟨v', ev, s⟩ := s
    cases ev
    exact s
theorem loc_sop {n : Nat} : Loc (SoP n) := fun v H a ys zs hy ⟨z, h, s⟩ => ⟨z, loc_u v H a ys zs hy h, s⟩
theorem oksheared_picture (T : Bl mg) (D : Df K mg "sheared_picture" ssheared_picture) (Gshear_chain : Ok1 P w K mg base 5 "shear_chain" Pshear_chain spshear_chain) (Gneed_pixels : Ok1 P w K mg base 4 "need_pixels" Pneed_pixels spneed_pixels) (Gsheared : Ok1 P w K mg base 6 "sheared" Psheared spsheared) : Ok1 P w K mg base 7 "sheared_picture" Psheared_picture spsheared_picture := by
  refine mk1 (k := 6) D scsheared_picture (lensheared_picture) (fun _ _ _ _ _ _ us hl => match us, hl with | [_, _, _], _ => rfl) fun f cdv A outer s H vs Q E hr a pre kq => ⟨_, (pss_cons (ps_expr (pe_fn Gshear_chain (hr.mono (by decide)) (by rfl) (pa_cons (pv 0) (pa_cons (pv 1) pa_nil))))
      (pss_cons (ps_expr (pe_fn Gneed_pixels (hr.mono (by decide)) (by rfl) (pa_cons (pv 2) pa_nil)))
      (pss_one (ps_ret (pe_callB (cr_sortD hr.units) (by rfl) T.m_sorted (by decide +kernel) (pa_cons (pe_lc (own := [("pixel", 3)]) (by rfl) scsheared_picture.nd (pi_list (pv 2)) (blkOk_by (own := [("pixel", 3)]) (N := Nsheared_picture) (sc := defScope ssheared_picture) (by decide +kernel)) (fun _ _ _ _ _ => (pg_name (i := 3) scsheared_picture.nd rfl (Or.inl rfl))) (fun _ _ _ _ _ => pts_nil) (fun _ _ _ _ _ => (pe_fn Gsheared (hr.mono (by decide)) (by rfl) (pa_cons (pv 0) (pa_cons (pv 1) (pa_cons (pv 3) pa_nil)))))) pa_nil)))))), ?_⟩
  obtain ⟨v, u, rfl, hv, ht, hu, hp, hz⟩ := pre
  refine qy_drop (P := IsCh) (y_call (a.1, a.2.1) (ya2 (Pb := Is (od a.2.1)) mono_u (y_var rfl hv mono_u) (y_vI rfl)) (fun vs H1 _ ⟨v, u, e, h1, h2⟩ => ⟨v, by rw [e, show u = _ from h2], h1, ht⟩) fun _ _ _ h => h) fun _ H1 e1 _ => ?_
  refine qy_drop (P := Is .non) (y_call a.2.2 (ya1 (y_var rfl (hu.mo e1) mono_ps)) (fun vs H1 _ ⟨v, e, h⟩ => ⟨v, e, h, hp⟩) fun _ _ _ h => h) fun _ H2 e2 _ => ?_
  refine sy_ret (P := fun v H => ∃ ys : List Px, IsPs ys v H ∧ ys.length = a.2.2.length) (y_sortE ((y_lcP (fun _ => true) (fun _ => SoP 800) (fun _ => mono_sop) (fun _ => loc_sop) (y_var rfl ((hu.mo e1).mo e2) mono_ps) (by have := hp.few; omega) (fun _ => rfl) (fun _ _ _ _ _ _ _ => et_yes) fun i x z H3 e3 hi hx _ => ?_).imp fun v H3 _ ⟨p, ys, e, h1, h2⟩ => ?_) fun zs zs' p g => by rw [p.length_eq]; exact g) fun v H3 e3 p => kq v H3 ((e1.trans e2).trans e3) p
  · exact y_call (a.1, a.2.1, z) (ya3 (Pb := Is (od a.2.1)) mono_u mono_is (y_var rfl (((hv.mo e1).mo e2).mo e3) mono_u) (y_vI rfl) (y_var rfl hx mono_u)) (fun vs H1 _ ⟨v, w, u, e, h1, h2, h3⟩ => ⟨v, u, by rw [e, show w = _ from h2], h1, ht, h3, hz z (List.mem_of_getElem? hi)⟩) fun _ _ _ h => h
  · obtain ⟨zs, h3, h4⟩ := sel_some h2
    refine ⟨zs, ⟨p, ys, e, h1, h3⟩, ?_⟩
    rw [h4, filter_yes, List.length_range]
end
end TPx

/-! Draws from a source: a list of three ints at s that changes, everything else stands. -/
namespace TPy
open PySem PySem.Spec PyProof.Rows L2 Evl
open TPs hiding Px
/-- the source: at most N draws were counted -/
def Src (s : Addr) (H : Hp) (N : Nat) : Prop := ∃ x b n : Int, H s = some (.lst [.int x, .int b, .int n]) ∧ 0 ≤ b ∧ b.natAbs < 2 ^ 200 ∧ 0 ≤ n ∧ n ≤ N
def Xs (s : Addr) (H H' : Hp) : Prop := ∀ a o, a ≠ s → H a = some o → H' a = some o
theorem Xs.refl (s : Addr) (H : Hp) : Xs s H H := fun _ _ _ h => h
theorem Xs.trans {s : Addr} {H H1 H2 : Hp} (a : Xs s H H1) (b : Xs s H1 H2) : Xs s H H2 := fun x o n h => b x o n (a x o n h)
theorem Ex.xs {s : Addr} {H H' : Hp} (e : Ex H H') : Xs s H H' := fun a o _ h => e a o h
theorem Xs.ex {s : Addr} {H H' : Hp} (h : Xs s H H') (n : H s = none) : Ex H H' := fun a o e => h a o (by rintro rfl; rw [n] at e; cases e) e
theorem Src.mono {s : Addr} {H : Hp} {N M : Nat} (h : Src s H N) (l : N ≤ M) : Src s H M := let ⟨x, b, n, h1, h2, h3, h4, h5⟩ := h; ⟨x, b, n, h1, h2, h3, h4, by omega⟩
theorem Src.ex {s : Addr} {H H' : Hp} {N : Nat} (h : Src s H N) (e : Ex H H') : Src s H' N := let ⟨x, b, n, h1, h2⟩ := h; ⟨x, b, n, e s _ h1, h2⟩
theorem Src.tk {s : Addr} {H H' : Hp} {N : Nat} (h : Src s H N) (x : Xs s H H') : Tk H H' := fun a xs e => x a _ (by rintro rfl; obtain ⟨_, _, _, g, _⟩ := h; rw [e] at g; cases g) e
theorem Src.put {s l : Addr} {H : Hp} {N : Nat} {o : HO} (h : Src s H N) (n : s ≠ l) : Src s (upd H l o) N := let ⟨x, b, k, h1, h2⟩ := h; ⟨x, b, k, by rw [upd_ne n]; exact h1, h2⟩
theorem Xs.put {s l : Addr} {H H' : Hp} {o : HO} (h : Xs s H H') (n : H l = none) : Xs s H (upd H' l o) := fun a u m e => by
  rw [upd_ne (ne_of_none e n)]
  exact h a u m e
theorem IsPs.xs {s : Addr} {H H' : Hp} {N : Nat} {v : V} {zs : List Px} (h : IsPs zs v H) (hs : Src s H N) (x : Xs s H H') : IsPs zs v H' := by
  obtain ⟨a, xs, e, g, p⟩ := h
  refine ⟨a, xs, e, x a _ ?_ g, p.tk (hs.tk x)⟩
  rintro rfl
  obtain ⟨i, b, n, g2, _⟩ := hs
  rw [g] at g2
  cases g2
  match zs, p with
  | z :: zs, ⟨⟨q, e, _⟩, _⟩ => cases e
abbrev IsR (R : Int → Prop) : VP := fun v _ => ∃ i, v = .int i ∧ R i
theorem loc_r {R : Int → Prop} {v : V} {H H' : Hp} (h : IsR R v H) : IsR R v H' := h
section
variable {K : PySem.W.Frag} {σ : L2.St} {H H' : Hp} {ta tb te tc : TE} {t u : TT} {x y v : V} {P Pa Pb Pc : VP} {D : Ends} {tz : TS} {s : Addr} {N N' N1 N2 N3 M : Nat}
/-- what a reading with draws evaluates to, wherever the source stands -/
def Zv (s : Addr) (te : TE) (σ : L2.St) (N N' : Nat) (P : VP) : Prop := ∀ H, Src s H N → ∀ Q : VK, (∀ v H2, P v H2 → Xs s H H2 → Src s H2 N' → Q v H2) → te σ H Q
def Za (s : Addr) (ta : TA) (σ : L2.St) (N N' : Nat) (R : List V → Hp → Prop) : Prop := ∀ H, Src s H N → ∀ Q : List V → Hp → Prop, (∀ v H2, R v H2 → Xs s H H2 → Src s H2 N' → Q v H2) → ta σ H Q
/-- words that stand while the source changes -/
def Ms (P : VP) : Prop := ∀ v H H', Tk H H' → P v H → P v H'
theorem ms_r {R : Int → Prop} : Ms (IsR R) := fun _ _ _ _ h => h
theorem ms_is {v : V} : Ms (Is v) := fun _ _ _ _ h => h
theorem ms_u {xs : List V} : Ms (IsU xs) := fun _ _ _ t h => h.tk t
theorem ms_x {α : Type} {P : α → VP} (h : ∀ x, Ms (P x)) : Ms (fun v H => ∃ x, P x v H) := fun v H H' t ⟨x, g⟩ => ⟨x, h x v H H' t g⟩
theorem zv_y (h : ∀ H, Y te σ H P) : Zv s te σ N N P := fun H hs Q q => h H H (Ex.refl H) Q fun v H2 e p => q v H2 p (Ex.xs e) (hs.ex e)
theorem zv_i {i : Int} {R : Int → Prop} (h : ∀ H, Y te σ H (IsI i)) (r : R i) : Zv s te σ N N (IsR R) := zv_y fun H => (h H).imp fun v _ _ e => ⟨i, e, r⟩
theorem Zv.imp (h : Zv s te σ N N' Pa) (f : ∀ v H, Pa v H → P v H) : Zv s te σ N N' P := fun H hs Q q => h H hs Q fun v H2 p x z => q v H2 (f v H2 p) x z
theorem zv_op {r : R2} (ma : Ms Pa) (ha : Zv s ta σ N N1 Pa) (hb : Zv s tb σ N1 N2 Pb) (hr : ∀ x y H, Pa x H → Pb y H → ∀ Q : VK, (∀ v H2, Ex H H2 → P v H2 → Q v H2) → r x y H Q) : Zv s (tOp r ta tb) σ N N2 P := fun H hs Q q =>
  ha H hs _ fun x H2 px x2 s2 => hb H2 s2 _ fun y H3 py x3 s3 => hr x y H3 (ma x H2 H3 (s2.tk x3) px) py Q fun v H4 e4 pv => q v H4 pv ((x2.trans x3).trans (Ex.xs e4)) (s3.ex e4)
theorem zv_i0 {g : Int → Int → Int} {A B R : Int → Prop} (ha : Zv s ta σ N N1 (IsR A)) (hb : Zv s tb σ N1 N2 (IsR B)) (hr : ∀ i j, A i → B j → R (g i j)) : Zv s (tOp (rI0 fun i j => .int (g i j)) ta tb) σ N N2 (IsR R) :=
  zv_op ms_r ha hb fun x y H ⟨i, ex, hi⟩ ⟨j, ey, hj⟩ Q q => ⟨i, j, ex, ey, q _ H (Ex.refl H) ⟨_, rfl, hr i j hi hj⟩⟩
theorem za_nil : Za s tNil σ N N (fun vs _ => vs = []) := fun H hs Q q => q [] H rfl (Xs.refl s H) hs
theorem za_cons {tr : TA} {R : List V → Hp → Prop} (m : Ms P) (h : Zv s te σ N N1 P) (hr : Za s tr σ N1 N2 R) : Za s (tCons te tr) σ N N2 (fun vs H => ∃ v r, vs = v :: r ∧ P v H ∧ R r H) := fun H hs Q q =>
  h H hs _ fun v H2 pv x2 s2 => hr H2 s2 _ fun r H3 pr x3 s3 => q _ H3 ⟨v, r, rfl, m v H2 H3 (s2.tk x3) pv, pr⟩ (x2.trans x3) s3
theorem za1 (h : Zv s te σ N N1 P) : Za s (tCons te tNil) σ N N1 (fun vs H => ∃ v, vs = [v] ∧ P v H) := fun H hs Q q =>
  h H hs _ fun v H2 pv x2 s2 => q _ H2 ⟨v, rfl, pv⟩ x2 s2
theorem za2 (m : Ms Pa) (h : Zv s ta σ N N1 Pa) (h2 : Zv s tb σ N1 N2 Pb) : Za s (tCons ta (tCons tb tNil)) σ N N2 (fun vs H => ∃ v w, vs = [v, w] ∧ Pa v H ∧ Pb w H) := fun H hs Q q =>
  za_cons m h (za1 h2) H hs Q fun vs H2 ⟨v, r, e, h1, w, e2, h3⟩ => q vs H2 ⟨v, w, by rw [e, e2], h1, h3⟩
theorem za3 (m : Ms Pa) (m2 : Ms Pb) (h : Zv s ta σ N N1 Pa) (h2 : Zv s tb σ N1 N2 Pb) (h3 : Zv s tc σ N2 N3 Pc) : Za s (tCons ta (tCons tb (tCons tc tNil))) σ N N3 (fun vs H => ∃ v w u, vs = [v, w, u] ∧ Pa v H ∧ Pb w H ∧ Pc u H) := fun H hs Q q =>
  za_cons m h (za2 m2 h2 h3) H hs Q fun vs H2 ⟨v, r, e, h1, w, u, e2, h4, h5⟩ => q vs H2 ⟨v, w, u, by rw [e, e2], h1, h4, h5⟩
theorem zv_tup {ta : TA} {R : List V → Hp → Prop} (mr : ∀ vs H H', Ex H H' → R vs H → R vs H') (h : Za s ta σ N N1 R) (hl : ∀ vs H, R vs H → vs.length ≤ 1000) : Zv s (tTup ta) σ N N1 (fun v H => ∃ xs, IsU xs v H ∧ R xs H) := fun H hs Q q =>
  h H hs _ fun vs H2 r x2 s2 => ⟨Nat.le_trans (hl vs H2 r) (by decide), fun p hp => q _ _ ⟨vs, ⟨p, rfl, upd_same⟩, mr _ _ _ (Ex.new hp) r⟩ (x2.trans (Ex.xs (Ex.new hp))) (s2.ex (Ex.new hp))⟩
theorem zv_lst {ta : TA} {R : List V → Hp → Prop} (mr : ∀ vs H H', Ex H H' → R vs H → R vs H') (h : Za s ta σ N N1 R) (hl : ∀ vs H, R vs H → vs.length ≤ 1000) : Zv s (tLst ta) σ N N1 (fun v H => ∃ xs, IsLs xs v H ∧ R xs H) := fun H hs Q q =>
  h H hs _ fun vs H2 r x2 s2 => ⟨Nat.le_trans (hl vs H2 r) (by decide), fun p hp => q _ _ ⟨vs, ⟨p, rfl, upd_same⟩, mr _ _ _ (Ex.new hp) r⟩ (x2.trans (Ex.xs (Ex.new hp))) (s2.ex (Ex.new hp))⟩
/-- [..][i], i plain -/
theorem zv_ixL {i : Nat} {R : List V → Hp → Prop} (ha : Zv s ta σ N N1 (fun v H => ∃ xs, IsLs xs v H ∧ R xs H)) (hb : ∀ H, Y tb σ H (IsI i)) (hx : ∀ xs H, R xs H → ∃ v, xs[i]? = some v ∧ P v H) (mr : ∀ vs H H', Ex H H' → R vs H → R vs H') : Zv s (tOp (rIxL K) ta tb) σ N N1 P := fun H hs Q q =>
  ha H hs _ fun x H2 ⟨xs, ⟨a, ea, hxs⟩, r⟩ x2 s2 => hb H2 H2 (Ex.refl H2) _ fun y H3 e3 ey => by
    obtain ⟨v, h1, h2⟩ := hx xs H3 (mr _ _ _ e3 r)
    exact ⟨a, xs, i, v, ea, ey, sq_of (e3 a _ hxs), atI_nat h1, q v H3 h2 (x2.trans (Ex.xs e3)) (s2.ex e3)⟩
/-- a fixed list [..][draw] -/
theorem zv_ixD {n : Nat} {xs : List V} (ha : ∀ H, Y ta σ H (IsLs xs)) (hb : Zv s tb σ N N1 (IsR fun d => 0 ≤ d ∧ d < n)) (hl : n ≤ xs.length) (h3 : xs.length ≠ 3) (hx : ∀ v ∈ xs, ∀ H, P v H) : Zv s (tOp (rIxL K) ta tb) σ N N1 P := fun H hs Q q =>
  ha H H (Ex.refl H) _ fun x H2 e2 ⟨a, ea, hxs⟩ => hb H2 (hs.ex e2) _ fun y H3 ⟨d, ed, h0, h1⟩ x3 s3 => by
    have lt : d.toNat < xs.length := by omega
    have ne : a ≠ s := by
      rintro rfl
      obtain ⟨i, b, k, g, _⟩ := hs.ex e2
      rw [hxs] at g
      cases g
      exact h3 rfl
    refine ⟨a, xs, d, xs[d.toNat], ea, ed, sq_of (x3 a _ ne hxs), ?_, q _ H3 (hx _ (List.getElem_mem lt) H3) ((Ex.xs e2).trans x3) s3⟩
    have := atI_nat (List.getElem?_eq_getElem lt)
    rwa [Int.toNat_of_nonneg h0] at this
/-! statements -/
theorem zs_asg {i : Nat} (h : Zv s te σ N N' P) (hs : Src s H N) (k : ∀ v H2, P v H2 → Xs s H H2 → Src s H2 N' → D.nx (σ.set i (some v)) H2) : tAsg te (gName i) D σ H := h H hs _ fun v H2 p x z => k v H2 p x z
theorem zq_asg {i : Nat} (h : Zv s te σ N N' P) (hs : Src s H N) (k : ∀ v H2, P v H2 → Xs s H H2 → Src s H2 N' → tz D (σ.set i (some v)) H2) : tSeq (tAsg te (gName i)) tz D σ H := zs_asg (D := { D with nx := tz D }) h hs k
theorem zq_par {i j : Nat} (m : Ms Pa) (h : Zv s ta σ N N1 Pa) (h2 : Zv s tb σ N1 N2 Pb) (hs : Src s H N) (k : ∀ v w H2, Pa v H2 → Pb w H2 → Xs s H H2 → Src s H2 N2 → tz D ((σ.set i (some v)).set j (some w)) H2) : tSeq (tPar i j (tCons ta (tCons tb tNil))) tz D σ H :=
  show tPar i j (tCons ta (tCons tb tNil)) { D with nx := tz D } σ H from za2 m h h2 H hs _ fun vs H2 ⟨v, w, e, h1, h2⟩ x z => ⟨v, w, e, k v w H2 h1 h2 x z⟩
theorem zs_ret (h : Zv s te σ N N' P) (hs : Src s H N) (k : ∀ v H2, P v H2 → Xs s H H2 → Src s H2 N' → D.rt v H2) : tRet te D σ H := h H hs _ fun v H2 p x z => k v H2 p x z
theorem zs_app {l : Addr} {xs : List V} {j : Nat} (h : Zv s te σ N N' P) (hs : Src s H N) (hj : σ[j]? = some (some (.ref l))) (hl : H l = some (.lst xs)) (ne : l ≠ s) (hz : xs.length < 100000) (k : ∀ v H2, P v H2 → Xs s H H2 → Src s H2 N' → H2 l = some (.lst xs) → D.nx σ (upd H2 l (.lst (xs ++ [v])))) :
    tDrop (tBM K "list" rAppend (tVar j) (tCons te tNil)) D σ H :=
  ⟨.ref l, hj, .inl ⟨rfl, xs, sq_of hl⟩, h H hs _ fun v H2 p x z => ⟨l, xs, v, rfl, rfl, x l _ ne hl, sz_lt hz, k v H2 p x z (x l _ ne hl)⟩⟩
/-- int(..), min(.., ..), max(.., ..) -/
abbrev rInt1 : List V → Hp → VK → Prop := fun xs H Q => (∃ i, xs = [.int i] ∧ Q (.int i) H) ∨ ∃ k, xs = [.bl k] ∧ Q (.int (if k then 1 else 0)) H
theorem y_int {i : Int} (h : Y te σ H (IsI i)) : Y (tCB rInt1 (tCons te tNil)) σ H (IsI i) := y_cb (ya_is1 h) fun vs H1 _ ev Q q => .inl ⟨i, ev, q _ H1 (Ex.refl H1) rfl⟩
theorem y_intB {b : Bool} (h : Y te σ H (IsB b)) : Y (tCB rInt1 (tCons te tNil)) σ H (IsI (if b then 1 else 0)) := y_cb (ya_is1 h) fun vs H1 _ ev Q q => .inr ⟨b, ev, q _ H1 (Ex.refl H1) rfl⟩
theorem y_max {i j : Int} (h : Y ta σ H (IsI i)) (h2 : Y tb σ H (IsI j)) : Y (tCB rMax2 (tCons ta (tCons tb tNil))) σ H (IsI (if j > i then j else i)) := y_cb (ya_is2 h h2) fun vs H1 _ ev Q q => ⟨i, j, ev, q _ H1 (Ex.refl H1) rfl⟩
theorem y_pw {i j : Int} (hc : CPowW i j) (h : Y ta σ H (IsI i)) (h2 : Y tb σ H (IsI j)) : Y (tOp (rI CPowW fun i j => .int (i ^ j.toNat)) ta tb) σ H (IsI (i ^ j.toNat)) := y_i hc h h2
theorem y_md {i j : Int} (hc : 0 < j) (h : Y ta σ H (IsI i)) (h2 : Y tb σ H (IsI j)) : Y (tOp (rI (fun _ j => 0 < j) fun i j => .int (i % j)) ta tb) σ H (IsI (i % j)) := y_i hc h h2
end
end TPy

/-! The law's own defs: source, draw, common, spin. -/
namespace TPx
open PySem PySem.Spec PyProof.Rows L2 TPy Evl
open TPs hiding Px
section
variable {P : Program} {w : World} {K : PySem.W.Frag} {mg : Str → Option Value} {base : Heap}
abbrev sp_law_source : Sp := fun vs H Q _ => ∃ (e : Int) (k : Nat), vs = [.int e, .int k] ∧ k ≤ 10 ∧ ∀ s H', Ex H H' → H s = none → Src s H' 0 → Q (.ref s) H'
theorem len_law_source : ∀ (vs : List V) (H : Hp) (Q : VK) (E : XK), sp_law_source vs H Q E → vs.length = P_law_source.length := fun _ _ _ _ ⟨_, _, h, _⟩ => by rw [h]; rfl
theorem y_newLs {σ : L2.St} {H : Hp} {ta : TA} {xs : List V} (h : YA ta σ H (fun vs _ => vs = xs)) (hl : xs.length ≤ 1000) : Y (tLst ta) σ H (fun v H' => ∃ l, v = .ref l ∧ H l = none ∧ H' l = some (.lst xs)) := fun H1 e Q q =>
  h H1 e _ fun vs H2 e2 ev => ⟨by rw [ev]; exact Nat.le_trans hl (by decide), fun p hp => q _ _ (e2.trans (Ex.new hp)) ⟨p, rfl, fresh_back (e.trans e2) hp, by rw [upd_same, ev]⟩⟩
theorem pw10 (j : Int) (h : j = 18 ∨ j = 44 ∨ j = 39 ∨ j = 40 ∨ j = 15) : CPowW 10 j := by
  rcases h with rfl | rfl | rfl | rfl | rfl <;> exact ⟨by decide, by decide +kernel⟩
theorem ok_law_source (T : Bl mg) (D : Df K mg "_law_source" s_law_source) : Ok1 P w K mg base 1 "_law_source" P_law_source sp_law_source := by
  refine mk0 (k := 0) D sc_law_source (len_law_source) (fun _ _ _ _ _ _ us hl => match us, hl with | [_, _], _ => rfl) fun f cdv A outer s0 H vs Q E hr pre => ⟨_, (pss_cons (ps_set (i := 2) sc_law_source.nd rfl (Or.inl rfl) (pe_callB call_abs (by rfl) T.m_abs (by decide +kernel) (pa_cons (pv 0) pa_nil)))
      (pss_one (ps_ret (pe_lst (pa_cons (pe_callB (call_max2 rfl) (by rfl) T.m_max (by decide +kernel) (pa_cons pe_int (pa_cons (pe_op op_sub (pv 2) (pe_op op_powW pe_int pe_int)) pa_nil))) (pa_cons (pe_op op_add (pe_op op_add (pe_op op_mulW (pe_op op_mod (pe_callTy call_int1 (by rfl) T.m_int (by decide +kernel) (pa_cons (pv 2) pa_nil)) (pe_op op_add (pe_op op_powW pe_int pe_int) pe_int)) pe_int) (pe_op op_mulW pe_int (pv 1))) (pe_callTy call_int1 (by rfl) T.m_int (by decide +kernel) (pa_cons (pe_cmpR op_lt (pv 0) pe_int (nomark _)) pa_nil))) (pa_cons pe_int pa_nil))))))), ?_⟩
  obtain ⟨e, k, rfl, hk, kq⟩ := pre
  refine qy_asgI (y_abs (y_vI rfl)) fun H1 e1 => ?_
  obtain ⟨m, hm⟩ : ∃ m, m = TPm.absI e % (10 ^ (44 : Int).toNat + 31) := ⟨_, rfl⟩
  have m0 : 0 ≤ m := by rw [hm]; exact Int.emod_nonneg _ (by decide +kernel)
  have m1 : m < 10 ^ (44 : Int).toNat + 31 := by rw [hm]; exact Int.emod_lt_of_pos _ (by decide +kernel)
  have big : (10 ^ (44 : Int).toNat + 31 : Int) = 100000000000000000000000000000000000000000031 := by decide +kernel
  rw [big] at m1
  have md : m.natAbs < 2 ^ 160 := Nat.lt_trans (show m.natAbs < 100000000000000000000000000000000000000000031 by omega) (by decide)
  have md' : (TPm.absI e % (10 ^ (44 : Int).toNat + 31)).natAbs < 2 ^ 160 := by rw [← hm]; exact md
  refine sy_ret (P := fun v H => ∃ s, v = .ref s ∧ H1 s = none ∧ Src s H 0) ((y_newLs (ya_is3 (y_max y_c (y_sub (y_vI rfl) (y_pw (pw10 18 (by decide)) y_c y_c))) (y_add (y_add (y_mul 160 10 (y_md (by decide +kernel) (y_int (y_vI rfl)) (y_add (y_pw (pw10 44 (by decide)) y_c y_c) y_c)) y_c md' (by decide)) (y_mul 2 10 y_c (y_vI rfl) (by decide) (by show (k : Int).natAbs < 2 ^ 10; omega))) (y_intB (y_i0 (y_vI rfl) y_c))) y_c) (by show 3 ≤ 1000; decide)).imp fun v H2 _ ⟨s, ev, hn, h1⟩ => ⟨s, ev, hn, _, _, 0, h1, ?_, ?_, Int.le_refl _, Int.le_refl _⟩) fun v H2 e2 ⟨s, ev, hn, hs⟩ => by rw [ev]; exact kq s H2 (e1.trans e2) (fresh_back e1 hn) hs
  · have : (0 : Int) ≤ if decide (e < 0) = true then 1 else 0 := by split <;> decide
    show 0 ≤ TPm.absI e % (10 ^ (44 : Int).toNat + 31) * 97 + 2 * (k : Int) + if decide (e < 0) = true then 1 else 0
    rw [← hm]
    omega
  · have h1 : (0 : Int) ≤ if decide (e < 0) = true then 1 else 0 := by split <;> decide
    have h2 : (if decide (e < 0) = true then 1 else 0 : Int) ≤ 1 := by split <;> decide
    show (TPm.absI e % (10 ^ (44 : Int).toNat + 31) * 97 + 2 * (k : Int) + if decide (e < 0) = true then 1 else 0).natAbs < 2 ^ 200
    rw [← hm]
    generalize (if decide (e < 0) = true then 1 else 0 : Int) = j at *
    exact Nat.lt_trans (show (m * 97 + 2 * (k : Int) + j).natAbs < 100000000000000000000000000000000000000000031000 by omega) (by decide)
/-! draw -/
abbrev sp_law_draw : Sp := fun vs H Q _ => ∃ (s : Addr) (N : Nat) (c : Int), vs = [.ref s, .int c] ∧ Src s H N ∧ N ≤ 100000 ∧ 0 < c ∧ c.natAbs < 2 ^ 200 ∧ ∀ d H', 0 ≤ d → d < c → Xs s H H' → Src s H' (N + 1) → Q (.int d) H'
theorem len_law_draw : ∀ (vs : List V) (H : Hp) (Q : VK) (E : XK), sp_law_draw vs H Q E → vs.length = P_law_draw.length := fun _ _ _ _ ⟨_, _, _, h, _⟩ => by rw [h]; rfl
theorem xs_upd {s : Addr} {H H1 H2 : Hp} {o : HO} (e : Ex H H1) (e2 : Ex (upd H1 s o) H2) : Xs s H H2 := fun a u n h => e2 a u (by rw [upd_ne n]; exact e a u h)
theorem ok_law_draw (T : Bl mg) (D : Df K mg "_law_draw" s_law_draw) : Ok1 P w K mg base 1 "_law_draw" P_law_draw sp_law_draw := by
  refine mk0 (k := 0) D sc_law_draw (len_law_draw) (fun _ _ _ _ _ _ us hl => match us, hl with | [_, _], _ => rfl) fun f cdv A outer s0 H vs Q E hr pre => ⟨_, (pss_cons (ps_if (pt_cmpR op_gt (pe_ix ix_list (pv 0) pe_int (fun _ _ => rfl)) pe_int (nomark _)) (pss_cons (ps_set (i := 2) sc_law_draw.nd rfl (Or.inl rfl) (pe_op op_mod (pe_callTy call_int1 (by rfl) T.m_int (by decide +kernel) (pa_cons (pe_ix ix_list (pv 0) pe_int (fun _ _ => rfl)) pa_nil)) (pv 1)))
      (pss_cons (ps_asg (pe_op op_fdivW (pe_ix ix_list (pv 0) pe_int (fun _ _ => rfl)) (pv 1)) (pg_sub (pv 0) pe_int set_list))
      (pss_one (ps_ret (pv 2))))) pss_nil)
      (pss_cons (ps_asg (pe_op op_add (pe_ix ix_list (pv 0) pe_int (fun _ _ => rfl)) pe_int) (pg_sub (pv 0) pe_int set_list))
      (pss_cons (ps_set (i := 3) sc_law_draw.nd rfl (Or.inl rfl) (pe_op op_mod (pe_callTy call_int1 (by rfl) T.m_int (by decide +kernel) (pa_cons (pe_op op_powW (pe_op op_add (pe_ix ix_list (pv 0) pe_int (fun _ _ => rfl)) (pe_op op_mulW pe_int (pe_ix ix_list (pv 0) pe_int (fun _ _ => rfl)))) pe_int) pa_nil)) (pe_op op_add (pe_op op_powW pe_int pe_int) pe_int)))
      (pss_cons (ps_set (i := 3) sc_law_draw.nd rfl (Or.inl rfl) (pe_op op_mod (pe_callTy call_int1 (by rfl) T.m_int (by decide +kernel) (pa_cons (pe_op op_powW (pe_op op_add (pe_op op_mulW (pv 3) (pe_ix ix_list (pv 0) pe_int (fun _ _ => rfl))) pe_int) pe_int) pa_nil)) (pe_op op_add (pe_op op_powW pe_int pe_int) pe_int)))
      (pss_one (ps_ret (pe_op op_mod (pe_callTy call_int1 (by rfl) T.m_int (by decide +kernel) (pa_cons (pe_op op_fdivW (pv 3) pe_int) pa_nil)) (pv 1)))))))), ?_⟩
  obtain ⟨s, N, c, rfl, ⟨x, b, n, hs, b0, b1, n0, n1⟩, hN, c0, c1, k⟩ := pre
  have ix0 : ∀ {y z r : Int} {σ : L2.St} {H1 : Hp}, σ[0]? = some (some (.ref s)) → H1 s = some (.lst [.int y, .int z, .int r]) → Y (tOp (rIxL K) (tVar 0) (tC (.int 0))) σ H1 (IsI y) := fun g h => y_ixL (y_var g ⟨s, rfl, h⟩ mono_ls) y_c rfl
  have ix1 : ∀ {y z r : Int} {σ : L2.St} {H1 : Hp}, σ[0]? = some (some (.ref s)) → H1 s = some (.lst [.int y, .int z, .int r]) → Y (tOp (rIxL K) (tVar 0) (tC (.int 1))) σ H1 (IsI z) := fun g h => y_ixL (y_var g ⟨s, rfl, h⟩ mono_ls) y_c rfl
  have ix2 : ∀ {y z r : Int} {σ : L2.St} {H1 : Hp}, σ[0]? = some (some (.ref s)) → H1 s = some (.lst [.int y, .int z, .int r]) → Y (tOp (rIxL K) (tVar 0) (tC (.int 2))) σ H1 (IsI r) := fun g h => y_ixL (y_var g ⟨s, rfl, h⟩ mono_ls) y_c rfl
  refine q_when (b := decide (0 < x)) (yt_test (y_i0 (ix0 rfl hs) y_c)) (fun _ H1 e1 => ?_) (fun _ H1 e1 => ?_)
  · refine qy_asgI (y_md c0 (y_int (ix0 rfl (e1 s _ hs))) (y_vI rfl)) fun H2 e2 => ?_
    refine q_setL (l := s) (xs := [.int x, .int b, .int n]) (j := 0) (v := .int (x / c)) (e2 s _ (e1 s _ hs)) (ev_of (y_dv 200 (ix0 rfl (e2 s _ (e1 s _ hs))) (y_vI rfl) c0 c1)) (ev_var rfl) ev_c (by show 0 < 3; decide) fun H3 e3 => ?_
    refine sy_ret (y_vI rfl) fun v H4 e4 p => ?_
    rw [show v = .int (x % c) from p]
    exact k _ H4 (Int.emod_nonneg _ (by omega)) (Int.emod_lt_of_pos _ c0) (xs_upd ((e1.trans e2).trans e3) e4) ⟨x / c, b, n, e4 s _ upd_same, b0, b1, n0, by omega⟩
  · refine q_setL (l := s) (xs := [.int x, .int b, .int n]) (j := 2) (v := .int (n + 1)) (e1 s _ hs) (ev_of (y_add (ix2 rfl (e1 s _ hs)) y_c)) (ev_var rfl) ev_c (by show 2 < 3; decide) fun H2 e2 => ?_
    have h2 : upd H2 s (.lst [.int x, .int b, .int (n + 1)]) s = some (.lst [.int x, .int b, .int (n + 1)]) := upd_same
    have s1 : (900007 * (n + 1)).natAbs < 2 ^ 200 := Nat.lt_trans (show (900007 * (n + 1)).natAbs < 1000000000000000 by omega) (by decide)
    refine qy_asgI (y_md (by decide +kernel) (y_int (y_pw (pow_ok (a := 201) (by decide) (na_add b1 s1) (by decide)) (y_add (ix1 rfl h2) (y_mul 20 30 y_c (ix2 rfl h2) (by decide) (by omega))) y_c)) (y_add (y_pw (pw10 39 (by decide)) y_c y_c) y_c)) fun H3 e3 => ?_
    generalize hm : (b + 900007 * (n + 1)) ^ (3 : Int).toNat % (10 ^ (39 : Int).toNat + 3) = m
    have m0 : 0 ≤ m := by rw [← hm]; exact Int.emod_nonneg _ (by decide +kernel)
    have m1 : m < 10 ^ (39 : Int).toNat + 3 := by rw [← hm]; exact Int.emod_lt_of_pos _ (by decide +kernel)
    have big : (10 ^ (39 : Int).toNat + 3 : Int) = 1000000000000000000000000000000000000003 := by decide +kernel
    rw [big] at m1
    have md : m.natAbs < 2 ^ 160 := Nat.lt_trans (show m.natAbs < 1000000000000000000000000000000000000003 by omega) (by decide)
    have h3 := e3 s _ h2
    have n2 : (n + 1).natAbs < 2 ^ 30 := by omega
    refine qy_asgI (y_md (by decide +kernel) (y_int (y_pw (pow_ok (a := 191) (by decide) (na_add (wide_lt md n2) (show (60013 : Int).natAbs < 2 ^ (160 + 30) by decide)) (by decide)) (y_add (y_mul 160 30 (y_vI rfl) (ix2 rfl h3) md n2) y_c) y_c)) (y_add (y_pw (pw10 40 (by decide)) y_c y_c) y_c)) fun H4 e4 => ?_
    refine sy_ret (y_md c0 (y_int (y_dv 30 (y_vI rfl) y_c (by decide) (by decide))) (y_vI rfl)) fun v H5 e5 p => ?_
    rw [show v = .int _ from p]
    exact k _ H5 (Int.emod_nonneg _ (by omega)) (Int.emod_lt_of_pos _ c0) (xs_upd (e1.trans e2) ((e3.trans e4).trans e5)) ⟨x, b, n + 1, ((e3.trans e4).trans e5) s _ h2, b0, b1, by omega, by omega⟩
theorem zv_draw {s : Addr} {σ : L2.St} {N i : Nat} {c : Int} {tc : TE} (g : σ[i]? = some (some (.ref s))) (hc : ∀ H, Y tc σ H (IsI c)) (h0 : 0 < c) (h1 : c.natAbs < 2 ^ 200) (hN : N ≤ 100000) : Zv s (tCall sp_law_draw [] E0 (tCons (tVar i) (tCons tc tNil))) σ N (N + 1) (IsR fun d => 0 ≤ d ∧ d < c) := fun H hs Q q =>
  (ya_is2 (y_vI g) (hc H)) H (Ex.refl H) _ fun vs H2 e2 ev => ⟨s, N, c, by rw [ev]; rfl, hs.ex e2, hN, h0, h1, fun d H3 d0 d1 x3 s3 => q _ H3 ⟨d, rfl, d0, d1⟩ ((Ex.xs e2).trans x3) s3⟩
abbrev sp_law_common : Sp := spF (fun (a : Int × Int) vs _ => vs = [.int a.1, .int a.2]) fun a => IsI (Int.gcd a.1 a.2 : Int)
theorem len_law_common : ∀ (a : Int × Int) (vs : List V) (_ : Hp), vs = [.int a.1, .int a.2] → vs.length = P_law_common.length := fun _ _ _ h => by rw [h]; rfl
theorem ok_law_common (T : Bl mg) (D : Df K mg "_law_common" s_law_common) : Ok1 P w K mg base 1 "_law_common" P_law_common sp_law_common := by
  refine mk1 (k := 0) D sc_law_common (len_law_common) (fun _ _ _ _ _ _ us hl => match us, hl with | [_, _], _ => rfl) fun f cdv A outer s H vs Q E hr a pre kq => ⟨_, (pss_cons (ps_par (i := 0) (j := 1) (by rfl) sc_law_common.nd rfl rfl (by decide) rfl rfl (pa_cons (pe_callB call_abs (by rfl) T.m_abs (by decide +kernel) (pa_cons (pv 0) pa_nil)) (pa_cons (pe_callB call_abs (by rfl) T.m_abs (by decide +kernel) (pa_cons (pv 1) pa_nil)) pa_nil)) (by rfl))
      (pss_cons (ps_while PassesOwn.never (pt_cmpR op_gt (pv 1) pe_int (nomark _)) (pss_one (ps_par (i := 0) (j := 1) (by rfl) sc_law_common.nd rfl rfl (by decide) rfl rfl (pa_cons (pv 1) (pa_cons (pe_op op_mod (pe_callTy call_int1 (by rfl) T.m_int (by decide +kernel) (pa_cons (pv 0) pa_nil)) (pv 1)) pa_nil)) (by rfl))))
      (pss_one (ps_ret (pv 0))))), ?_⟩
  subst pre
  refine qy_par (y_abs (y_vI rfl)) (y_abs (y_vI rfl)) fun H1 e1 => ?_
  refine q_while (fun m σ' H' => ∃ c d : Nat, σ' = [some (.int c), some (.int d)] ∧ m = d ∧ Nat.gcd c d = Int.gcd a.1 a.2 ∧ Ex H H') _ ⟨a.1.natAbs, a.2.natAbs, by rw [← natabs_eq, ← natabs_eq]; rfl, rfl, rfl, e1⟩ ?_
  rintro m σ' H2 ⟨c, d, rfl, rfl, hg, e2⟩
  refine ⟨decide (0 < (m : Int)), yt_test (y_i0 (y_vI rfl) y_c), fun hb H3 e3 => ?_, fun hb H3 e3 => ?_⟩
  · have hm : 0 < m := by have := of_decide_eq_true hb; omega
    refine ⟨fun σ2 H4 => ∃ c d : Nat, σ2 = [some (.int c), some (.int d)] ∧ d < m ∧ Nat.gcd c d = Int.gcd a.1 a.2 ∧ Ex H H4, fun σ2 H4 ⟨c, d, h1, h2, h3, h4⟩ => ⟨d, h2, c, d, h1, rfl, h3, h4⟩, ?_⟩
    exact sy_par (y_vI rfl) (y_i (by omega) (y_int (y_vI rfl)) (y_vI rfl)) fun H4 e4 => ⟨m, c % m, rfl, Nat.mod_lt _ hm, by rw [← hg, Nat.gcd_comm c m, Nat.gcd_rec m c, Nat.gcd_comm], (e2.trans e3).trans e4⟩
  · have hm : m = 0 := by have := of_decide_eq_false hb; omega
    subst hm
    rw [Nat.gcd_zero_right] at hg
    exact sy_ret (y_vI rfl) fun v H4 e4 p => kq v H4 ((e2.trans e3).trans e4) (by rw [← hg]; exact p)
end
end TPx

/-! The law's own defs: spin, dot, lot, there. -/
namespace TPy
open PySem PySem.Spec PyProof.Rows L2 Evl
open TPs hiding Px
section
variable {K : PySem.W.Frag} {σ : L2.St} {H H' : Hp} {ta tb te tc tr : TE} {t u : TT} {x y v : V} {P Pa Pb Pc : VP} {D : Ends} {tz : TS} {s : Addr} {N N' N1 N2 N3 M : Nat}
/-- n values of one word -/
def RP (P : VP) (n : Nat) (vs : List V) (H : Hp) : Prop := vs.length = n ∧ ∀ v ∈ vs, P v H
theorem RP.get {n i : Nat} {vs : List V} (h : RP P n vs H) (l : i < n) : ∃ v, vs[i]? = some v ∧ P v H := by
  have lt : i < vs.length := by rw [h.1]; exact l
  exact ⟨vs[i], List.getElem?_eq_getElem lt, h.2 _ (List.getElem_mem lt)⟩
theorem RP.cons {n : Nat} {vs : List V} (hv : P v H) (h : RP P n vs H) : RP P (n + 1) (v :: vs) H := ⟨congrArg (· + 1) h.1, fun u hu => by
  rcases List.mem_cons.mp hu with e | e
  · rw [e]; exact hv
  · exact h.2 u e⟩
theorem RP.tk {n : Nat} {vs : List V} (m : Ms P) (t : Tk H H') (h : RP P n vs H) : RP P n vs H' := ⟨h.1, fun v hv => m v H H' t (h.2 v hv)⟩
theorem za_pnil : Za s tNil σ N N (RP P 0) := fun H hs Q q => q [] H ⟨rfl, fun _ h => (nomatch h)⟩ (Xs.refl s H) hs
theorem za_pcons {tr : TA} {n : Nat} (m : Ms P) (h : Zv s te σ N N1 P) (hr : Za s tr σ N1 N2 (RP P n)) : Za s (tCons te tr) σ N N2 (RP P (n + 1)) := fun H hs Q q =>
  za_cons m h hr H hs Q fun vs H2 ⟨v, r, e, h1, h2⟩ => q vs H2 (by rw [e]; exact h2.cons h1)
theorem ya_wnil : YA tNil σ H (RP P 0) := fun H1 _ Q q => q [] H1 (Ex.refl H1) ⟨rfl, fun _ h => (nomatch h)⟩
theorem ya_wcons {tr : TA} {n : Nat} (m : Mono P) (h : Y te σ H P) (hr : YA tr σ H (RP P n)) : YA (tCons te tr) σ H (RP P (n + 1)) :=
  (ya_cons m h hr).imp fun vs H1 _ ⟨v, r, e, h1, h2⟩ => by rw [e]; exact h2.cons h1
theorem y_ixR {i : Nat} {R : List V → Hp → Prop} (mr : ∀ vs H H', Ex H H' → R vs H → R vs H') (ha : Y ta σ H (fun v H => ∃ a xs, v = .ref a ∧ H a = some (.lst xs) ∧ R xs H)) (hb : Y tb σ H (IsI i)) (hx : ∀ xs H, R xs H → ∃ v, xs[i]? = some v ∧ P v H) : Y (tOp (rIxL K) ta tb) σ H P :=
  y_op (fun v H1 H2 e ⟨a, xs, h1, h2, h3⟩ => ⟨a, xs, h1, e a _ h2, mr _ _ _ e h3⟩) ha hb fun x y H1 _ ⟨a, xs, h1, h2, h3⟩ hy Q q => by
    obtain ⟨v, g1, g2⟩ := hx xs H1 h3
    exact ⟨a, xs, i, v, h1, hy, sq_of h2, atI_nat g1, q v H1 (Ex.refl H1) g2⟩
theorem Zv.up (h : Zv s te σ N N1 P) (l : N1 ≤ N2) : Zv s te σ N N2 P := fun H hs Q q => h H hs Q fun v H2 p x z => q v H2 p x (z.mono l)
theorem zv_if {b : Bool} (h : ∀ H, EvT t σ H b) (h1 : b = true → Zv s ta σ N N1 P) (h2 : b = false → Zv s tb σ N N1 P) : Zv s (tIf t ta tb) σ N N1 P := fun H hs Q q => h H H (Ex.refl H) _ fun H2 e2 => by
  cases b with
  | true => exact h1 rfl H2 (hs.ex e2) Q fun v H3 p x z => q v H3 p ((Ex.xs e2).trans x) z
  | false => exact h2 rfl H2 (hs.ex e2) Q fun v H3 p x z => q v H3 p ((Ex.xs e2).trans x) z
theorem y_lst' {ta : TA} {xs : List V} (h : YA ta σ H (fun vs _ => vs = xs)) (hl : xs.length ≤ 1000) : Y (tLst ta) σ H (IsLs xs) := (y_lst (R := fun vs _ => vs = xs) (fun _ _ _ _ h => h) h fun vs _ e => by rw [e]; exact hl).imp fun v H1 _ ⟨a, ys, e, h1, h2⟩ => ⟨a, e, by rw [h1, h2]⟩
theorem y_newD : Y tDNewT σ H (fun v H' => ∃ d, v = .ref d ∧ H d = none ∧ H' d = some (.dT [])) := fun H1 e Q q => fun p hp => q _ _ (Ex.new hp) ⟨p, rfl, fresh_back e hp, upd_same⟩
theorem zq_un2 {i j : Nat} {G : Px → Prop} (h : Zv s te σ N N' (fun v H => ∃ z, IsP z v H ∧ G z)) (hs : Src s H N) (k : ∀ (z : Px) H1, G z → Xs s H H1 → Src s H1 N' → tz D ((σ.set i (some (.int z.1))).set j (some (.int z.2))) H1) : tSeq (tAsg te (gTup K 2 (gCons (gName i) (gCons (gName j) gNil)))) tz D σ H :=
  h H hs _ fun v H1 ⟨z, ⟨p, e1, hp⟩, g⟩ x z' => ⟨p, tv z, e1, .inl (.inl hp), rfl, _, [.int z.2], rfl, _, [], rfl, rfl, k z H1 g x z'⟩
theorem xs_fresh {l : Addr} (hs : Src s H' N) (x : Xs s H H') (h : H' l = none) : H l = none ∧ l ≠ s := by
  have ne : l ≠ s := by
    rintro rfl
    obtain ⟨_, _, _, g, _⟩ := hs
    rw [h] at g
    cases g
  refine ⟨?_, ne⟩
  cases e : H l with
  | none => rfl
  | some o =>
    rw [x l o ne e] at h
    cases h
theorem y_min {i j : Int} (h : Y ta σ H (IsI i)) (h2 : Y tb σ H (IsI j)) : Y (tCB (fun xs H Q => ∃ i j, xs = [.int i, .int j] ∧ Q (.int (if j < i then j else i)) H) (tCons ta (tCons tb tNil))) σ H (IsI (if j < i then j else i)) := y_cb (ya_is2 h h2) fun vs H1 _ ev Q q => ⟨i, j, ev, q _ H1 (Ex.refl H1) rfl⟩
end
end TPy
namespace TPx
open PySem PySem.Spec PyProof.Rows L2 TPy Evl
open TPs hiding Px
theorem gcd_pred (p : Int) : Int.gcd p (p - 1) = 1 := by
  have h1 : (Int.gcd p (p - 1) : Int) ∣ p := Int.gcd_dvd_left ..
  have h2 : (Int.gcd p (p - 1) : Int) ∣ p - 1 := Int.gcd_dvd_right ..
  have h3 := Int.dvd_sub h1 h2
  rw [show p - (p - 1) = 1 by omega] at h3
  have := Int.eq_one_of_dvd_one (Int.natCast_nonneg _) h3
  omega
section
variable {P : Program} {w : World} {K : PySem.W.Frag} {mg : Str → Option Value} {base : Heap}
abbrev sp_law_spin : Sp := fun vs H Q _ => ∃ (s : Addr) (N : Nat) (m : Int), vs = [.ref s, .int m] ∧ Src s H N ∧ N ≤ 90000 ∧ 0 < m ∧ m ≤ 1000000000000000 ∧ ∀ v t H', IsU (tvT t) v H' → Turn t → Xs s H H' → Src s H' (N + 7) → Q v H'
theorem len_law_spin : ∀ (vs : List V) (H : Hp) (Q : VK) (E : XK), sp_law_spin vs H Q E → vs.length = P_law_spin.length := fun _ _ _ _ ⟨_, _, _, h, _⟩ => by rw [h]; rfl
theorem na_small {i : Int} (h0 : 0 ≤ i) (h : i ≤ 1000000000000000) : i.natAbs < 2 ^ 200 := Nat.lt_trans (show i.natAbs < 1000000000000001 by omega) (by decide)
theorem ok_law_spin (T : Bl mg) (D : Df K mg "_law_spin" s_law_spin) (G_law_draw : Ok1 P w K mg base 1 "_law_draw" P_law_draw sp_law_draw) (G_law_common : Ok1 P w K mg base 1 "_law_common" P_law_common sp_law_common) : Ok1 P w K mg base 2 "_law_spin" P_law_spin sp_law_spin := by
  refine mk0 (k := 1) D sc_law_spin (len_law_spin) (fun _ _ _ _ _ _ us hl => match us, hl with | [_, _], _ => rfl) fun f cdv A outer s0 H vs Q E hr pre => ⟨_, (pss_cons (ps_par (i := 2) (j := 3) (by rfl) sc_law_spin.nd rfl rfl (by decide) rfl rfl (pa_cons (pe_op op_add pe_int (pe_fn G_law_draw (hr.mono (by decide)) (by rfl) (pa_cons (pv 0) (pa_cons (pv 1) pa_nil)))) (pa_cons (pe_fn G_law_draw (hr.mono (by decide)) (by rfl) (pa_cons (pv 0) (pa_cons pe_int pa_nil))) pa_nil)) (by rfl))
      (pss_cons (ps_set (i := 4) sc_law_spin.nd rfl (Or.inl rfl) (pe_ix ix_list (pe_lst (pa_cons (pe_fn G_law_draw (hr.mono (by decide)) (by rfl) (pa_cons (pv 0) (pa_cons (pv 2) pa_nil))) (pa_cons (pe_op op_sub (pv 2) pe_int) (pa_cons (pe_callB (call_max2 rfl) (by rfl) T.m_max (by decide +kernel) (pa_cons pe_int (pa_cons (pe_op op_sub (pv 2) pe_int) pa_nil))) (pa_cons (pe_fn G_law_draw (hr.mono (by decide)) (by rfl) (pa_cons (pv 0) (pa_cons (pe_callB (call_min2 rfl) (by rfl) T.m_min (by decide +kernel) (pa_cons (pv 2) (pa_cons pe_int pa_nil))) pa_nil))) (pa_cons (pe_fn G_law_draw (hr.mono (by decide)) (by rfl) (pa_cons (pv 0) (pa_cons (pv 2) pa_nil))) pa_nil)))))) (pv 3) (fun _ _ => rfl)))
      (pss_cons (ps_while PassesOwn.never (PW.pt (pw_or (pt_cmpR op_gt (pe_fn G_law_common (hr.mono (by decide)) (by rfl) (pa_cons (pv 2) (pa_cons (pv 4) pa_nil))) pe_int (nomark _)) (pw_or1 (pt_cmpR op_eq (pe_op op_mod (pe_callTy call_int1 (by rfl) T.m_int (by decide +kernel) (pa_cons (pe_op op_add (pv 2) (pv 4)) pa_nil)) pe_int) pe_int (nomark _))))) (pss_one (ps_set (i := 4) sc_law_spin.nd rfl (Or.inl rfl) (pe_op op_add (pv 4) pe_int))))
      (pss_one (ps_ret (pe_tup (pa_cons (pv 2) (pa_cons (pe_ix ix_list (pe_lst (pa_cons (pv 4) (pa_cons (pe_un un_neg (pv 4)) pa_nil))) (pe_fn G_law_draw (hr.mono (by decide)) (by rfl) (pa_cons (pv 0) (pa_cons pe_int pa_nil))) (fun _ _ => rfl)) (pa_cons (pe_fn G_law_draw (hr.mono (by decide)) (by rfl) (pa_cons (pv 0) (pa_cons pe_int pa_nil))) pa_nil))))))))), ?_⟩
  obtain ⟨s, N, m, rfl, hs, hN, m0, m1, k⟩ := pre
  refine zq_par (Pa := IsR fun p => 1 ≤ p ∧ p ≤ m) (Pb := IsR fun d => 0 ≤ d ∧ d < 5) ms_r (zv_i0 (zv_i (R := fun i => i = 1) (fun _ => y_c) rfl) (zv_draw rfl (fun _ => y_vI rfl) m0 (na_small (by omega) m1) (by omega)) fun i j hi hj => by have := hj.1; have := hj.2; subst hi; constructor <;> omega) (zv_draw rfl (fun _ => y_c) (by decide) (by decide) (by omega)) hs ?_
  rintro _ _ H2 ⟨p, rfl, p1, pm⟩ ⟨srt, rfl, s0, s5⟩ x2 s2
  have pn : p.natAbs < 2 ^ 200 := na_small (by omega) (by omega)
  have R1 : ∀ d : Int, 0 ≤ d → d < p → (0 ≤ d ∧ d ≤ p - 1) := fun d h0 h1 => ⟨h0, by omega⟩
  refine zq_asg (N' := N + 5) (P := IsR fun d => 0 ≤ d ∧ d ≤ p - 1) (zv_ixL (i := srt.toNat) (R := RP (IsR fun d => 0 ≤ d ∧ d ≤ p - 1) 5) (zv_lst (fun vs H H' e r => r.tk ms_r (Ex.tk e)) (za_pcons ms_r ((zv_draw rfl (fun _ => y_vI rfl) (by omega) pn (by omega)).imp fun v H ⟨d, e, h0, h1⟩ => ⟨d, e, R1 d h0 h1⟩) (za_pcons ms_r (zv_i (fun _ => y_sub (y_vI rfl) y_c) (by constructor <;> omega)) (za_pcons ms_r (zv_i (fun _ => y_max y_c (y_sub (y_vI rfl) y_c)) (by split <;> constructor <;> omega)) (za_pcons ms_r ((zv_draw (c := if 9 < p then 9 else p) rfl (fun _ => y_min (y_vI rfl) y_c) (by split <;> omega) (by split; decide; exact pn) (by omega)).imp fun v H ⟨d, e, h0, h1⟩ => ⟨d, e, h0, by split at h1 <;> omega⟩) (za_pcons ms_r ((zv_draw rfl (fun _ => y_vI rfl) (by omega) pn (by omega)).imp fun v H ⟨d, e, h0, h1⟩ => ⟨d, e, R1 d h0 h1⟩) za_pnil))))) (fun vs H r => by rw [r.1]; decide)) (fun H => (y_vI rfl).val (by rw [Int.toNat_of_nonneg s0])) (fun xs H r => r.get (by omega)) (fun vs H H' e r => r.tk ms_r (Ex.tk e))) s2 ?_
  rintro _ H3 ⟨q, rfl, q0, q1⟩ x3 s3
  refine q_while (fun n σ' H' => ∃ q : Int, σ' = [some (.ref s), some (.int m), some (.int p), some (.int srt), some (.int q)] ∧ 0 ≤ q ∧ q ≤ p - 1 ∧ n = (p - 1 - q).toNat ∧ Ex H3 H') _ ⟨q, rfl, q0, q1, rfl, Ex.refl H3⟩ ?_
  rintro n σ' H4 ⟨q, rfl, q0, q1, rfl, e4⟩
  refine ⟨_, et_or (yt_test (y_i0 (i := (Int.gcd p q : Int)) (y_call (p, q) (ya_is2 (y_vI rfl) (y_vI rfl)) (fun _ _ _ h => h) fun _ _ _ h => h) y_c)) fun _ => yt_test (y_eq rfl (y_md (by decide) (y_int (y_add (y_vI rfl) (y_vI rfl))) y_c) y_c), fun hb H5 e5 => ?_, fun hb H5 e5 => ?_⟩
  · have lt : q < p - 1 := by
      rcases Int.lt_or_le q (p - 1) with h | h
      · exact h
      · have e : q = p - 1 := by omega
        subst e
        rw [gcd_pred, Bool.or_eq_true, decide_eq_true_iff, decide_eq_true_iff] at hb
        rcases hb with hb | hb
        · exact absurd hb (by decide)
        · injection hb with hb
          omega
    refine ⟨fun σ2 H2 => ∃ q' : Int, σ2 = [some (.ref s), some (.int m), some (.int p), some (.int srt), some (.int q')] ∧ q' = q + 1 ∧ Ex H3 H2, fun σ2 H2 ⟨q', h1, h2, h3⟩ => ⟨(p - 1 - q').toNat, by omega, q', h1, by omega, by omega, rfl, h3⟩, ?_⟩
    exact sy_asg (y_add (y_vI rfl) y_c) fun v H6 e6 p => ⟨q + 1, by rw [show v = _ from p]; rfl, rfl, (e4.trans e5).trans e6⟩
  · rw [Bool.or_eq_false_iff, decide_eq_false_iff_not, decide_eq_false_iff_not] at hb
    have odd : (p + q) % 2 = 1 := by
      have : (p + q) % 2 ≠ 0 := fun z => hb.2 (by rw [z])
      omega
    have g1 : Int.gcd p q = 1 := by
      have h0 : Int.gcd p q ≠ 0 := fun z => by
        have := (Int.gcd_eq_zero_iff.mp z).1
        omega
      have := hb.1
      omega
    have s5 : Src s H5 (N + 5) := s3.ex (e4.trans e5)
    refine zs_ret (N' := N + 7) (zv_tup (fun vs H H' _ h => h) (za3 (Pa := IsR fun i => i = p) (Pb := IsR fun i => i = q ∨ i = -q) (Pc := IsR fun i => 0 ≤ i ∧ i < 4) ms_r ms_r (zv_i (fun _ => y_vI rfl) rfl) (zv_ixD (n := 2) (xs := [.int q, .int (-q)]) (fun H => y_lst' (ya_is2 (y_vI rfl) (y_neg (y_vI rfl))) (by show 2 ≤ 1000; decide)) (zv_draw rfl (fun _ => y_c) (by decide) (by decide) (by omega)) (Nat.le_refl _) (by show 2 ≠ 3; decide) fun v hv H => ?_) (zv_draw rfl (fun _ => y_c) (by decide) (by decide) (by omega))) fun vs H ⟨a, b, c, e, _⟩ => by rw [e]; show 3 ≤ 1000; decide) s5 ?_
    · rcases List.mem_cons.mp hv with e | hv
      · exact ⟨q, e, .inl rfl⟩
      · exact ⟨-q, List.mem_singleton.mp hv, .inr rfl⟩
    · rintro v H6 ⟨xs, hxs, a, b, c, rfl, ⟨p', rfl, hp'⟩, ⟨q', rfl, hq⟩, ⟨kk, rfl, k0, k4⟩⟩ x6 s6
      rw [hp'] at hxs
      refine k v (p, q', kk) H6 hxs ?_ (((x2.trans x3).trans (Ex.xs (e4.trans e5))).trans x6) s6
      rcases hq with rfl | rfl
      · exact ⟨by show -p < q'; omega, by show q' < p; omega, by show p ≤ 1000000000000000; omega, k0, by show kk ≤ 3; omega, odd, g1⟩
      · exact ⟨by show -p < -q; omega, by show -q < p; omega, by show p ≤ 1000000000000000; omega, k0, by show kk ≤ 3; omega, by show (p + -q) % 2 = 1; omega, by show Int.gcd p (-q) = 1; rw [Int.gcd_neg]; exact g1⟩
end
end TPx

/-! The law's own defs: dot, lot, there. -/
namespace TPx
open PySem PySem.Spec PyProof.Rows L2 TPy Evl
open TPs hiding Px
section
variable {P : Program} {w : World} {K : PySem.W.Frag} {mg : Str → Option Value} {base : Heap}
abbrev sp_law_dot : Sp := fun vs H Q _ => ∃ (s : Addr) (N : Nat) (m : Int), vs = [.ref s, .int m] ∧ Src s H N ∧ N ≤ 90000 ∧ 0 ≤ m ∧ m.natAbs < 2 ^ 190 ∧ ∀ v z H', IsP z v H' → TPm.Bd m z → Xs s H H' → Src s H' (N + 2) → Q v H'
theorem len_law_dot : ∀ (vs : List V) (H : Hp) (Q : VK) (E : XK), sp_law_dot vs H Q E → vs.length = P_law_dot.length := fun _ _ _ _ ⟨_, _, _, h, _⟩ => by rw [h]; rfl
theorem ok_law_dot (T : Bl mg) (D : Df K mg "_law_dot" s_law_dot) (G_law_draw : Ok1 P w K mg base 1 "_law_draw" P_law_draw sp_law_draw) : Ok1 P w K mg base 2 "_law_dot" P_law_dot sp_law_dot := by
  refine mk0 (k := 1) D sc_law_dot (len_law_dot) (fun _ _ _ _ _ _ us hl => match us, hl with | [_, _], _ => rfl) fun f cdv A outer s0 H vs Q E hr pre => ⟨_, (pss_cons (ps_set (i := 2) sc_law_dot.nd rfl (Or.inl rfl) (pe_lst pa_nil))
      (pss_cons (ps_for PassesOwn.never (by rfl) (pi_range1 (by rfl) T.m_range (pa_cons pe_int pa_nil)) (pg_name (i := 3) sc_law_dot.nd rfl (Or.inl rfl)) (pss_one (ps_expr (pe_bm PySem.F.plainAttrs_list PySem.F.slot_list_append PySem.F.type_list_append mt_append (pv 2) (pa_cons (pe_op op_sub (pe_fn G_law_draw (hr.mono (by decide)) (by rfl) (pa_cons (pv 0) (pa_cons (pe_op op_add (pe_op op_mulW pe_int (pv 1)) pe_int) pa_nil))) (pv 1)) pa_nil)))))
      (pss_one (ps_ret (pe_callTy call_tuple_of (by rfl) T.m_tuple (by decide +kernel) (pa_cons (pv 2) pa_nil)))))), ?_⟩
  obtain ⟨s, N, m, rfl, hs, hN, m0, m1, k⟩ := pre
  refine qy_asg y_newL ?_
  rintro _ H1 e1 ⟨l, rfl, hl, h1⟩
  have ls : l ≠ s := (xs_fresh (H := H) hs (Xs.refl s H) hl).2
  refine q_forR1 (n := 2) (ea_of (ya_is1 y_c)) (by decide) (fun i σ' H' => ∃ st, ∃ zs : List Int, σ' = [some (.ref s), some (.int m), some (.ref l), st] ∧ Xs s H H' ∧ Src s H' (N + i) ∧ H' l = some (.lst (zs.map V.int)) ∧ zs.length = i ∧ ∀ d ∈ zs, -m ≤ d ∧ d ≤ m) (fun H2 e2 => ⟨_, [], rfl, Ex.xs (e1.trans e2), hs.ex (e1.trans e2), e2 l _ h1, rfl, fun _ h => (nomatch h)⟩) ?_ ?_
  · rintro i σ' H2 hi ⟨st, zs, rfl, x2, s2, hl2, ln, hb⟩
    refine zs_app (N := N + i) (N' := N + i + 1) (P := IsR fun d => -m ≤ d ∧ d ≤ m) (zv_i0 (N1 := N + i + 1) (zv_draw (N := N + i) (c := 2 * m + 1) rfl (fun _ => y_add (y_mul 2 190 y_c (y_vI rfl) (by decide) m1) y_c) (by omega) ?_ (by omega)) (zv_i (R := fun i => i = m) (fun _ => y_vI rfl) rfl) fun a b ha hb => by have := ha.1; have := ha.2; subst hb; constructor <;> omega) s2 rfl hl2 ls (by rw [List.length_map]; omega) ?_
    · have h3 : (2 : Nat) ^ 200 = 1024 * 2 ^ 190 := by decide
      rw [h3]
      generalize (2 : Nat) ^ 190 = X at *
      omega
    · rintro _ H3 ⟨d, rfl, hd⟩ x3 s3 hl3
      refine ⟨_, zs ++ [d], rfl, (x2.trans x3).put hl, s3.put (Ne.symm ls), by rw [List.map_append]; exact upd_same, by rw [List.length_append, ln]; rfl, fun d' h => ?_⟩
      rcases List.mem_append.mp h with h | h
      · exact hb d' h
      · rw [List.mem_singleton.mp h]; exact hd
  · rintro σ' H2 ⟨st, zs, rfl, x2, s2, hl2, ln, hb⟩
    match zs, ln, hb, hl2 with
    | [a, b], _, hb, hl2 =>
      refine sy_ret (y_tupOf (y_var rfl ⟨l, rfl, hl2⟩ mono_ls)) fun v H3 e3 p => k v (a, b) H3 p ?_ (x2.trans (Ex.xs e3)) (s2.ex e3)
      have ha := hb a (by simp)
      have hb := hb b (by simp)
      exact ⟨ha.1, ha.2, hb.1, hb.2⟩
theorem zv_dot {s : Addr} {σ : L2.St} {N i j : Nat} {m : Int} (g : σ[i]? = some (some (.ref s))) (g2 : σ[j]? = some (some (.int m))) (h0 : 0 ≤ m) (h1 : m.natAbs < 2 ^ 190) (hN : N ≤ 90000) : Zv s (tCall sp_law_dot [] E0 (tCons (tVar i) (tCons (tVar j) tNil))) σ N (N + 2) (fun v H => ∃ z, IsP z v H ∧ TPm.Bd m z) := fun H hs Q q =>
  (ya_is2 (y_vI g) (y_vI g2)) H (Ex.refl H) _ fun vs H2 e2 ev => ⟨s, N, m, by rw [ev]; rfl, hs.ex e2, hN, h0, h1, fun v z H3 h1 h2 x3 s3 => q v H3 ⟨z, h1, h2⟩ ((Ex.xs e2).trans x3) s3⟩
abbrev sp_law_there : Sp := spF (fun (zs : List Px) vs H => ∃ v, vs = [v] ∧ IsPs zs v H ∧ zs.Nodup ∧ zs.length ≤ 400) fun zs v H => ∃ d, v = .ref d ∧ H d = some (.dT (yes zs))
theorem len_law_there : ∀ (zs : List Px) (vs : List V) (H : Hp), (∃ v, vs = [v] ∧ IsPs zs v H ∧ zs.Nodup ∧ zs.length ≤ 400) → vs.length = P_law_there.length := fun _ _ _ ⟨_, h, _⟩ => by rw [h]; rfl
theorem ok_law_there (T : Bl mg) (D : Df K mg "_law_there" s_law_there) : Ok1 P w K mg base 1 "_law_there" P_law_there sp_law_there := by
  refine mk1 (k := 0) D sc_law_there (len_law_there) (fun _ _ _ _ _ _ us hl => match us, hl with | [_], _ => rfl) fun f cdv A outer s H vs Q E hr a pre kq => ⟨_, (pss_cons (ps_set (i := 1) sc_law_there.nd rfl (Or.inl rfl) pe_dnewT)
      (pss_cons (ps_for PassesOwn.never (by rfl) (pi_list (pv 0)) (pg_name (i := 2) sc_law_there.nd rfl (Or.inl rfl)) (pss_one (ps_dput (hu_of hr) (pv 1) (pv 2) pe_bl (by rfl))))
      (pss_one (ps_ret (pv 1))))), ?_⟩
  obtain ⟨v, rfl, ⟨p, xs, rfl, hx, hp⟩, nd, hl⟩ := pre
  refine qy_asg y_newD ?_
  rintro _ H1 e1 ⟨d, rfl, hd, h1⟩
  refine q_forLn (a := p) (xs := xs) (ev_var rfl) (sq_of (e1 p _ hx)) (fun i σ' H' => ∃ st, σ' = [some (.ref p), some (.ref d), st] ∧ Ex H H' ∧ H' d = some (.dT (yes (a.take i)))) (fun H2 e2 => ⟨_, rfl, e1.trans e2, e2 d _ h1⟩) (fun i σ' H' _ ⟨_, _, e, _⟩ => sq_of (e p _ hx)) ?_ ?_
  · rintro i x σ' H2 hi ⟨st, rfl, e2, h2⟩
    obtain ⟨z, g1, g2⟩ := hp.get hi
    have nm : z ∉ a.take i := by
      have n2 := nd.sublist (List.take_sublist (i + 1) a)
      rw [TPm.take_snoc g1] at n2
      intro m
      exact (List.nodup_append.mp n2).2.2 z m z (List.mem_singleton.mpr rfl) rfl
    refine s_dput (z := z) (v := .bl true) h2 y_c (y_vI rfl) (y_var rfl (g2.mo e2) mono_u) (by rw [List.length_map]; have := List.length_take_le i a; have := (List.getElem?_eq_some_iff.mp g1).1; omega) fun H3 e3 => ⟨_, rfl, Ex.mut (e2.trans e3) hd, ?_⟩
    rw [upd_same, putK_new _ (by rw [val_yes, if_neg nm]), TPm.take_snoc g1]
    simp only [yes, List.map_append, List.map_cons, List.map_nil]
  · rintro σ' H2 ⟨st, rfl, e2, h2⟩
    rw [hp.len, List.take_length] at h2
    exact sy_ret (P := fun v H => ∃ d, v = .ref d ∧ H d = some (.dT (yes a))) (y_var rfl ⟨d, rfl, h2⟩ fun v H H' e ⟨d, h, g⟩ => ⟨d, h, e d _ g⟩) fun v H3 e3 p => kq v H3 (e2.trans e3) p
abbrev sp_law_lot : Sp := fun vs H Q _ => ∃ (s : Addr) (N : Nat) (m k : Int), vs = [.ref s, .int m, .int k] ∧ Src s H N ∧ N ≤ 80000 ∧ 0 ≤ m ∧ m.natAbs < 2 ^ 190 ∧ 0 < k ∧ k ≤ 20 ∧ ∀ v zs H', IsPs zs v H' → Pic zs → (∀ z ∈ zs, Sz 200 z) → Xs s H H' → Src s H' (N + 804) → Q v H'
theorem len_law_lot : ∀ (vs : List V) (H : Hp) (Q : VK) (E : XK), sp_law_lot vs H Q E → vs.length = P_law_lot.length := fun _ _ _ _ ⟨_, _, _, _, h, _⟩ => by rw [h]; rfl
abbrev Far (z : Px) : Prop := 0 ≤ z.1 ∧ z.1 ≤ 400 ∧ 0 ≤ z.2 ∧ z.2 ≤ 400
abbrev IsF : VP := fun v H => ∃ z : Px, IsP z v H ∧ Far z
theorem mono_f : Mono IsF := fun _ _ _ e ⟨z, h, f⟩ => ⟨z, mono_u _ _ _ e h, f⟩
theorem ok_law_lot (T : Bl mg) (D : Df K mg "_law_lot" s_law_lot) (G_law_dot : Ok1 P w K mg base 2 "_law_dot" P_law_dot sp_law_dot) (G_law_draw : Ok1 P w K mg base 1 "_law_draw" P_law_draw sp_law_draw) : Ok1 P w K mg base 3 "_law_lot" P_law_lot sp_law_lot := by
  refine mk0 (k := 2) D sc_law_lot (len_law_lot) (fun _ _ _ _ _ _ us hl => match us, hl with | [_, _, _], _ => rfl) fun f cdv A outer s0 H vs Q E hr pre => ⟨_, (pss_cons (ps_asg (pe_fn G_law_dot (hr.mono (by decide)) (by rfl) (pa_cons (pv 0) (pa_cons (pv 1) pa_nil))) (pg_tup (by rfl) (pgs_cons (pg_name (i := 3) sc_law_lot.nd rfl (Or.inl rfl)) (pgs_cons (pg_name (i := 4) sc_law_lot.nd rfl (Or.inl rfl)) pgs_nil))))
      (pss_cons (ps_par3 (i := 5) (j := 6) (l := 7) (by rfl) sc_law_lot.nd rfl rfl rfl (by decide) (by decide) (by decide) rfl rfl rfl (pa_cons (pe_op op_add pe_int (pe_fn G_law_draw (hr.mono (by decide)) (by rfl) (pa_cons (pv 0) (pa_cons (pv 2) pa_nil)))) (pa_cons (pe_fn G_law_draw (hr.mono (by decide)) (by rfl) (pa_cons (pv 0) (pa_cons pe_int pa_nil))) (pa_cons (pe_lst pa_nil) pa_nil))) (by rfl))
      (pss_cons (ps_for PassesOwn.never (by rfl) (pi_range1 (by rfl) T.m_range (pa_cons (pe_op op_mulW (pv 5) (pv 5)) pa_nil)) (pg_name (i := 8) sc_law_lot.nd rfl (Or.inl rfl)) (pss_cons (ps_set (i := 9) sc_law_lot.nd rfl (Or.inl rfl) (pe_ifExp (pt_cmpR op_eq (pv 6) pe_int (nomark _)) (pe_tup (pa_cons (pe_fn G_law_draw (hr.mono (by decide)) (by rfl) (pa_cons (pv 0) (pa_cons (pe_op op_mulW pe_int (pv 5)) pa_nil))) (pa_cons (pe_fn G_law_draw (hr.mono (by decide)) (by rfl) (pa_cons (pv 0) (pa_cons (pe_op op_mulW pe_int (pv 5)) pa_nil))) pa_nil))) (pe_tup (pa_cons pe_int (pa_cons pe_int pa_nil)))))
      (pss_cons (ps_set (i := 10) sc_law_lot.nd rfl (Or.inl rfl) (pe_ix ix_list (pe_lst (pa_cons (pe_tup (pa_cons (pe_op op_fdivW (pe_callTy call_int1 (by rfl) T.m_int (by decide +kernel) (pa_cons (pv 8) pa_nil)) (pv 5)) (pa_cons (pe_op op_mod (pe_callTy call_int1 (by rfl) T.m_int (by decide +kernel) (pa_cons (pv 8) pa_nil)) (pv 5)) pa_nil))) (pa_cons (pe_tup (pa_cons (pv 8) (pa_cons pe_int pa_nil))) (pa_cons (pv 9) pa_nil)))) (pv 6) (fun _ _ => rfl)))
      (pss_one (ps_expr (pe_bm PySem.F.plainAttrs_list PySem.F.slot_list_append PySem.F.type_list_append mt_append (pv 7) (pa_cons (pe_tup (pa_cons (pe_op op_add (pv 3) (pe_ix ix_tup (pv 10) pe_int (fun _ _ => rfl))) (pa_cons (pe_op op_add (pv 4) (pe_ix ix_tup (pv 10) pe_int (fun _ _ => rfl))) pa_nil))) pa_nil)))))))
      (pss_one (ps_ret (pe_callB (cr_sortP rfl) (by rfl) T.m_sorted (by decide +kernel) (pa_cons (pe_callTy (cr_setP rfl hr.units) (by rfl) T.m_set (by decide +kernel) (pa_cons (pv 7) pa_nil)) pa_nil))))))), ?_⟩
  obtain ⟨s, N, m, mk, rfl, hs, hN, m0, m1, k0, k1, k⟩ := pre
  refine zq_un2 (zv_dot rfl rfl m0 m1 (by omega)) hs fun c H1 hc x1 s1 => ?_
  refine (zv_i0 (R := fun d => 1 ≤ d ∧ d ≤ mk) (zv_i (R := fun i => i = 1) (fun _ => y_c) rfl) (zv_draw rfl (fun _ => y_vI rfl) k0 (na_small (by omega) (by omega)) (by omega)) fun i j hi hj => by have := hj.1; have := hj.2; subst hi; constructor <;> omega) H1 s1 _ ?_
  rintro _ H2 ⟨sd, rfl, sd1, sd2⟩ x2 s2
  refine (zv_draw rfl (fun _ => y_c) (by decide) (by decide) (by omega)) H2 s2 _ ?_
  rintro _ H3 ⟨st, rfl, st0, st3⟩ x3 s3
  refine ⟨Nat.zero_le _, fun l hl => ⟨_, _, _, rfl, ?_⟩⟩
  have x13 : Xs s H H3 := (x1.trans x2).trans x3
  obtain ⟨hlH, ls⟩ := xs_fresh s3 x13 hl
  have sq : sd * sd ≤ 400 ∧ 1 ≤ sd * sd := by
    have h1 := Int.mul_le_mul_of_nonneg_left (show sd ≤ 20 by omega) (show 0 ≤ sd by omega)
    have h2 := Int.mul_le_mul_of_nonneg_left (show 1 ≤ sd by omega) (show 0 ≤ sd by omega)
    constructor <;> omega
  have sdn : sd.natAbs < 2 ^ 10 := by omega
  refine q_forR1 (n := sd * sd) (ea_of (ya_is1 (y_mul 10 10 (y_vI rfl) (y_vI rfl) sdn sdn))) ⟨by omega, by omega⟩ (fun i σ' H' => ∃ a b d fs, ∃ zs : List Px, σ' = [some (.ref s), some (.int m), some (.int mk), some (.int c.1), some (.int c.2), some (.int sd), some (.int st), some (.ref l), a, b, d] ∧ Xs s H H' ∧ Src s H' (N + 4 + 2 * i) ∧ H' l = some (.lst fs) ∧ Pxs H' fs zs ∧ fs.length = i ∧ ∀ z ∈ zs, TPm.Bd (m + 400) z) (fun H4 e4 => ⟨_, _, _, [], [], rfl, (x13.put hlH).trans (Ex.xs e4), (s3.put (Ne.symm ls)).ex e4, e4 l _ upd_same, trivial, rfl, fun _ h => (nomatch h)⟩) ?_ ?_
  · rintro i σ' H4 hi ⟨a, b, d, fs, zs, rfl, x4, s4, h4, hp, ln, hb⟩
    have i4 : i < 400 := by omega
    refine zq_asg (N' := N + 4 + 2 * i + 2) (P := IsF) (zv_if (b := decide (V.int st = V.int 2)) (fun H => yt_test (y_eq rfl (y_vI rfl) y_c)) (fun _ => ?_) (fun _ => ?_)) s4 ?_
    · have dr : ∀ {N' : Nat} {σ : L2.St}, N' ≤ 90000 → σ[0]? = some (some (.ref s)) → σ[5]? = some (some (.int sd)) → Zv s (tCall sp_law_draw [] E0 (tCons (tVar 0) (tCons (tOp (rI CMulW fun i j => .int (i * j)) (tC (.int 2)) (tVar 5)) tNil))) σ N' (N' + 1) (IsR fun d => 0 ≤ d ∧ d ≤ 400) := fun h g1 g2 => (zv_draw g1 (fun _ => y_mul 2 10 y_c (y_vI g2) (by decide) sdn) (by omega) (na_small (by omega) (by omega)) (by omega)).imp fun v H ⟨d, e, d0, d1⟩ => ⟨d, e, d0, by omega⟩
      refine (zv_tup (fun vs H H' _ h => h) (za2 ms_r (dr (by omega) rfl rfl) (dr (by omega) rfl rfl)) fun vs H ⟨a, b, e, _⟩ => by rw [e]; show 2 ≤ 1000; decide).imp ?_
      rintro v H ⟨xs, hxs, _, _, rfl, ⟨d, rfl, d0, d1⟩, ⟨d', rfl, d0', d1'⟩⟩
      exact ⟨(d, d'), hxs, d0, d1, d0', d1'⟩
    · exact (zv_y fun H => (y_tup2 y_c y_c).imp fun v H _ h => ⟨(0, 0), h, by decide⟩).up (by omega)
    · intro so H5 hso x5 s5
      have h5 : H5 l = some (.lst fs) := x5 l _ ls h4
      have kn : (i : Int) / sd ≤ i := Int.ediv_le_self _ (by omega)
      have k0 : 0 ≤ (i : Int) / sd := Int.ediv_nonneg (by omega) (by omega)
      have r0 := Int.emod_nonneg (i : Int) (show sd ≠ 0 by omega)
      have r1 := Int.emod_lt_of_pos (i : Int) (show 0 < sd by omega)
      refine qy_asg (P := IsF) (y_ixR (i := st.toNat) (R := RP IsF 3) (fun vs H H' e r => r.tk (fun v H H' t ⟨z, h, f⟩ => ⟨z, IsU.tk h t, f⟩) (Ex.tk e)) (y_lst (fun vs H H' e r => r.tk (fun v H H' t ⟨z, h, f⟩ => ⟨z, IsU.tk h t, f⟩) (Ex.tk e)) (ya_wcons mono_f ((y_tup2 (y_dv 10 (y_int (y_vI rfl)) (y_vI rfl) (by omega) sdn) (y_md (by omega) (y_int (y_vI rfl)) (y_vI rfl))).imp fun v H _ h => ⟨((i : Int) / sd, (i : Int) % sd), h, k0, by show (i : Int) / sd ≤ 400; omega, r0, by show (i : Int) % sd ≤ 400; omega⟩) (ya_wcons mono_f ((y_tup2 (y_vI rfl) y_c).imp fun v H _ h => ⟨((i : Int), 0), h, by show (0 : Int) ≤ i; omega, by show (i : Int) ≤ 400; omega, by show (0 : Int) ≤ 0; decide, by show (0 : Int) ≤ 400; decide⟩) (ya_wcons mono_f (y_var rfl hso mono_f) ya_wnil))) fun vs H r => by rw [r.1]; decide) ((y_vI rfl).val (by rw [Int.toNat_of_nonneg st0])) fun xs H r => r.get (by omega)) ?_
      rintro fv H6 e6 ⟨fz, hf, f0, f1, f2, f3⟩
      refine s_appU (l := l) (xs := fs) (ys := tv (c.1 + fz.1, c.2 + fz.2)) (e6 l _ h5) (ev_var rfl) (eu_tup (ea_cons (ev_of (y_add (y_vI rfl) (y_ixT (y_var rfl hf mono_u) y_c rfl))) (ea_cons (ev_of (y_add (y_vI rfl) (y_ixT (y_var rfl hf mono_u) y_c rfl))) ea_nil)) (by show 2 ≤ 100000; decide)) (by omega) fun p H7 hp7 e7 h7 => ?_
      have t7 : Tk H4 H7 := (s4.tk x5).trans (Ex.tk (e6.trans e7))
      have h7l : H7 l = some (.lst fs) := e7 l _ (e6 l _ h5)
      refine ⟨_, _, _, fs ++ [.ref p], zs ++ [(c.1 + fz.1, c.2 + fz.2)], rfl, ((x4.trans x5).trans (Ex.xs (e6.trans e7))).put hlH, ((s5.ex (e6.trans e7)).put (Ne.symm ls)).mono (by omega), upd_same, (Pxs.app (hp.tk t7) (Pxs.one ⟨p, rfl, h7⟩)).tk (Tk.lst h7l), by rw [List.length_append, ln]; rfl, fun z hz => ?_⟩
      rcases List.mem_append.mp hz with h | h
      · exact hb z h
      · rw [List.mem_singleton.mp h]
        obtain ⟨c0, c1, c2, c3⟩ := hc
        exact ⟨by show -(m + 400) ≤ c.1 + fz.1; omega, by show c.1 + fz.1 ≤ m + 400; omega, by show -(m + 400) ≤ c.2 + fz.2; omega, by show c.2 + fz.2 ≤ m + 400; omega⟩
  · rintro σ' H4 ⟨a, b, d, fs, zs, rfl, x4, s4, h4, hp, ln, hb⟩
    have l4 : zs.length ≤ 400 := by rw [← hp.len]; omega
    refine sy_ret (y_sortS (y_setOf (y_var rfl ⟨l, fs, rfl, h4, hp⟩ mono_ps) (by omega))) ?_
    rintro v H5 e5 ⟨ms, h1, h2, h3⟩
    refine k v ms H5 h1 ⟨?_, h2⟩ (fun z hz => ?_) (x4.trans (Ex.xs e5)) ((s4.ex e5).mono (by omega))
    · exact Nat.le_trans (TPm.len_sub h2.nodup fun z hz => (h3 z).mp hz) l4
    · refine Sz.of (hb z ((h3 z).mp hz)) ?_
      have h3 : ((2 ^ 200 : Nat) : Int) = 1024 * ((2 ^ 190 : Nat) : Int) := by decide
      rw [h3]
      have h4 : (m.natAbs : Int) < ((2 ^ 190 : Nat) : Int) := by omega
      have h5 : (1000 : Int) ≤ ((2 ^ 190 : Nat) : Int) := by decide
      generalize ((2 ^ 190 : Nat) : Int) = X at *
      omega
end
end TPx

/-! The law's own defs: images_right. -/
namespace TPy
open PySem PySem.Spec PyProof.Rows L2 Evl
open TPs hiding Px
section
variable {K : PySem.W.Frag} {σ : L2.St} {H H' : Hp} {ta tb te tc tr tl : TE} {t u : TT} {x y v : V} {P Pa Pb Pc : VP} {D : Ends} {tz tu : TS} {g : TG}
theorem y_at (m : Mono P) (h : P v H) : Y (tC v) σ H P := fun H1 e Q q => q v H1 (Ex.refl H1) (m v H H1 e h)
theorem y_lcFE {G : List Px → Prop} {j : Nat} {vs : List Nat} (f : Px → Bool) (h : Y tl σ H (fun v H => ∃ zs, IsPs zs v H ∧ G zs)) (hz : ∀ zs, G zs → zs.length ≤ 40000) (hw : ∀ x, wipe ((wipe σ vs).set j (some x)) vs = wipe σ vs) (hj : ∀ x, ((wipe σ vs).set j (some x))[j]? = some (some x))
    (ht : ∀ (x : V) (z : Px) H1, Ex H H1 → IsP z x H1 → EvT t ((wipe σ vs).set j (some x)) H1 (f z)) :
    Y (tLc (iList K tl) (gName j) t (tVar j) vs) σ H (fun v H => ∃ zs, IsPs (zs.filter f) v H ∧ G zs) := fun H1 e Q q => h H1 e _ fun v H2 e2 ⟨zs, hv, hg⟩ =>
  y_lcF (K := K) (σ := σ) (H := H2) (tl := tC v) (t := t) (j := j) (vs := vs) f (y_at mono_ps hv) (hz zs hg) hw hj (fun x z H3 e3 _ hx => ht x z H3 ((e.trans e2).trans e3) hx) H2 (Ex.refl H2) Q fun v' H3 e3 p => q v' H3 (e2.trans e3) ⟨zs, p, hg⟩
/-- a list that is not empty == [] -/
theorem y_eqE {G : List Px → Prop} (h : Y te σ H (fun v H => ∃ zs, IsPs zs v H ∧ G zs)) (hG : ∀ zs, G zs → zs ≠ []) : Y (tOp (rEqD K) te (tLst tNil)) σ H (IsB false) :=
  y_op (fun v H1 H2 e ⟨zs, h, g⟩ => ⟨zs, mono_ps _ _ _ e h, g⟩) h (y_lstP ya_pnil (by decide)) fun x y H1 _ ⟨zs, hx, hg⟩ hy Q q => ⟨_, _, dp_pxs hx, dp_pxs hy, pdl_shaped zs, pdl_shaped [], q _ H1 (Ex.refl H1) (by
    rw [show PyData.eqv (.list (zs.map pd)) (.list (([] : List Px).map pd)) = PyData.eqvAll (zs.map pd) (([] : List Px).map pd) by rw [PyData.eqv], pds_eqv, decide_eq_false (hG zs hg)]
    rfl)⟩
theorem y_nil : Y (tLst tNil) σ H (IsPs []) := y_lstP ya_pnil (by decide)
theorem y_tupV2 (m : Mono Pa) (m2 : Mono Pb) (h : Y ta σ H Pa) (h2 : Y tb σ H Pb) : Y (tTup (tCons ta (tCons tb tNil))) σ H (fun v H => ∃ x y, IsU [x, y] v H ∧ Pa x H ∧ Pb y H) := fun H1 e Q q =>
  (ya2 m h h2) H1 e _ fun vs H2 e2 ⟨x, y, ev, h1, h2⟩ => ⟨by rw [ev]; show 2 ≤ sizeLine; decide, fun p hp => q _ _ (e2.trans (Ex.new hp)) ⟨x, y, ⟨p, rfl, by rw [upd_same, ev]⟩, m _ _ _ (Ex.new hp) h1, m2 _ _ _ (Ex.new hp) h2⟩⟩
theorem qy_un2V {i j : Nat} (h : Y te σ H (fun v H => ∃ x y, IsU [x, y] v H ∧ Pa x H ∧ Pb y H)) (k : ∀ x y H1, Ex H H1 → Pa x H1 → Pb y H1 → tz D ((σ.set i (some x)).set j (some y)) H1) : tSeq (tAsg te (gTup K 2 (gCons (gName i) (gCons (gName j) gNil)))) tz D σ H :=
  h H (Ex.refl H) _ fun v H1 e ⟨x, y, ⟨p, e1, hp⟩, h1, h2⟩ => ⟨p, [x, y], e1, .inl (.inl hp), rfl, x, [y], rfl, y, [], rfl, rfl, k x y H1 e h1 h2⟩
theorem q_forPr {ps : List (Px × Px)} (h : Y tl σ H (IsPrs ps)) (Pv : Nat → L2.St → Hp → Prop) (h0 : ∀ H1, Ex H H1 → Pv 0 σ H1)
    (hs : ∀ H1, Ex H H1 → ∀ i x z σ' H', Ex H1 H' → ps[i]? = some z → IsPr z x H' → Pv i σ' H' → g x σ' H' fun σ2 H2 => tu { D with nx := fun σ3 H3 => Ex H1 H3 ∧ Pv (i + 1) σ3 H3, ct := fun σ3 H3 => Ex H1 H3 ∧ Pv (i + 1) σ3 H3, bk := tz D } σ2 H2)
    (hd : ∀ σ' H', Ex H H' → Pv ps.length σ' H' → tz D σ' H') : tSeq (tFor (iList K tl) g tu) tz D σ H :=
  h H (Ex.refl H) _ fun v H1 e ⟨a, xs, ea, hx, hp⟩ => ⟨a, ea, ⟨xs, sq_of hx⟩, for_list (D := { D with nx := tz D }) (xs := xs) (fun i σ' H' => Ex H1 H' ∧ Pv i σ' H') ⟨Ex.refl H1, h0 H1 e⟩ (fun i σ' H' _ p => sq_of (p.1 a _ hx)) (fun i x σ' H' hi p => by
    obtain ⟨z, g1, g2⟩ := hp.get hi
    exact hs H1 e i x z σ' H' p.1 g1 (g2.tk (Ex.tk p.1)) p.2) (fun σ' H' p => hd σ' H' (e.trans p.1) (by rw [← hp.len]; exact p.2))⟩
theorem y_lenPr {ps : List (Px × Px)} (h : Y te σ H (IsPrs ps)) : Y (tCB (rLenS K) (tCons te tNil)) σ H (IsI (ps.length : Int)) :=
  y_cb (ya1 h) fun vs H1 _ ⟨v, ev, a, xs, e, h, p⟩ Q q => ⟨a, xs, by rw [ev, e], .inl (sq_of h), q _ H1 (Ex.refl H1) (by rw [p.len]; rfl)⟩
end
end TPy
namespace TPx
open PySem PySem.Spec PyProof.Rows L2 TPy Evl
open TPs hiding Px
theorem un65 {k : Nat} {A : Around} (hr : Room k A) : A.units + 65 < cLine := by have := hr.un; omega
/-! plain laws -/
theorem Im.eq {t : T3} {zs ms ms' : List Px} (h : Im t zs ms) (h' : Im t zs ms') : ms = ms' := TPm.asc_ext h.asc h'.asc fun z => (h.mem z).trans (h'.mem z).symm
theorem Im.gl {t : T3} {zs ms : List Px} (h : Im t zs ms) : ms.length = (TPm.glN (imT t) zs zs.length).length := by
  obtain ⟨g1, g2⟩ := TPm.gl_mem (f := imT t) (l := zs) zs.length (Nat.le_refl _)
  refine TPm.len_of_mem h.asc.nodup g1 fun z => ?_
  rw [g2, List.take_length]
  exact h.mem z
theorem Im.count {t : T3} {zs ms : List Px} (h : Im t zs ms) : (TPm.prN (imT t) zs zs.length).length + ms.length = zs.length := by
  rw [h.gl]
  exact TPm.pr_gl_len _ (Nat.le_refl _)
theorem mate_of {t : T3} (ht : Turn t) {z y : Px} : TPm.mate t.1 t.2.1 z = some y ↔ y ≠ z ∧ imT t y = imT t z := by
  rw [TPm.mate_iff ht.ok, TPm.img_eq]
theorem three {t : T3} (ht : Turn t) (a b c : Px) (h1 : imT t a = imT t b) (h2 : imT t a = imT t c) : a = b ∨ a = c ∨ b = c := TPm.meet_three ht.ok (TPm.img_eq.mp h1) (TPm.img_eq.mp h2)
theorem met_of {t : T3} (ht : Turn t) {zs : List Px} (hp : Pic zs) : (zs.filter fun z => inM zs (TPm.mate t.1 t.2.1 z)).length = 2 * (TPm.prN (imT t) zs zs.length).length := by
  have h := TPm.met_count (f := imT t) hp.asc.nodup (three ht) zs.length (Nat.le_refl _)
  rw [List.take_length] at h
  rw [← h, ← List.countP_eq_length_filter]
  refine TPm.countP_same fun z hz => ?_
  rw [Bool.eq_iff_iff, TPm.hasM_iff]
  cases hm : TPm.mate t.1 t.2.1 z with
  | none =>
    constructor
    · intro h; cases h
    · rintro ⟨y, _, h1, h2⟩
      rw [(mate_of ht).mpr ⟨h1, h2⟩] at hm
      cases hm
  | some y =>
    have hy := (mate_of ht).mp hm
    show decide (y ∈ zs) = true ↔ _
    rw [decide_eq_true_iff]
    constructor
    · exact fun h => ⟨y, h, hy.1, hy.2⟩
    · rintro ⟨y', h1, h2, h3⟩
      have := (mate_of ht).mpr ⟨h2, h3⟩
      rw [hm] at this
      cases this
      exact h1
section
variable {P : Program} {w : World} {K : PySem.W.Frag} {mg : Str → Option Value} {base : Heap}
abbrev sp_law_images_right : Sp := spF (PreTL 200) fun _ => IsB true
theorem len_law_images_right : ∀ (a : T3 × List Px) (vs : List V) (H : Hp), PreTL 200 a vs H → vs.length = P_law_images_right.length := fun _ _ _ ⟨_, _, h, _⟩ => by rw [h]; rfl
theorem y_tp {σ : L2.St} {H : Hp} {v u : V} {i j : Nat} {t : T3} {zs : List Px} (g1 : σ[i]? = some (some v)) (g2 : σ[j]? = some (some u)) (hv : IsU (tvT t) v H) (ht : Turn t) (hu : IsPs zs u H) (hp : Pic zs) (hz : ∀ z ∈ zs, Sz 200 z) :
    Y (tCall spturned_picture [] E0 (tCons (tVar i) (tCons (tVar j) tNil))) σ H (IsIm t zs) :=
  y_call (t, zs) (ya2 mono_u (y_var g1 hv mono_u) (y_var g2 hu mono_ps)) (fun vs H1 _ ⟨v, u, e, h1, h2⟩ => ⟨v, u, e, h1, ht, h2, hp, fun z m => (hz z m).mono (by decide)⟩) fun _ _ _ h => h
theorem y_lost {σ : L2.St} {H : Hp} {v u : V} {i j : Nat} {t : T3} {zs ms : List Px} (g1 : σ[i]? = some (some v)) (g2 : σ[j]? = some (some u)) (hv : IsU (tvT t) v H) (ht : Turn t) (hu : IsPs zs u H) (hp : Pic zs) (hz : ∀ z ∈ zs, Sz 200 z) (im : Im t zs ms) :
    Y (tCall splost_number [] E0 (tCons (tVar i) (tCons (tVar j) tNil))) σ H (IsI ((zs.length : Int) - ms.length)) :=
  y_call (t, zs) (ya2 mono_u (y_var g1 hv mono_u) (y_var g2 hu mono_ps)) (fun vs H1 _ ⟨v, u, e, h1, h2⟩ => ⟨v, u, e, h1, ht, h2, hp, fun z m => (hz z m).mono (by decide)⟩) fun v H1 _ ⟨ms', im', e⟩ => by rw [e, im'.eq im]; rfl
theorem ok_law_images_right (T : Bl mg) (D : Df K mg "_law_images_right" s_law_images_right) (Gturned_picture : Ok1 P w K mg base 6 "turned_picture" Pturned_picture spturned_picture) (G_law_there : Ok1 P w K mg base 1 "_law_there" P_law_there sp_law_there) (Gis_picture : Ok1 P w K mg base 4 "is_picture" Pis_picture spis_picture) (Gimage : Ok1 P w K mg base 6 "image" Pimage spimage) (Gcame_from : Ok1 P w K mg base 6 "came_from" Pcame_from spcame_from) (Gmeetings_in : Ok1 P w K mg base 6 "meetings_in" Pmeetings_in spmeetings_in) (Glost_number : Ok1 P w K mg base 6 "lost_number" Plost_number splost_number) (Gmeeting : Ok1 P w K mg base 6 "meeting" Pmeeting spmeeting) : Ok1 P w K mg base 7 "_law_images_right" P_law_images_right sp_law_images_right := by
  refine mk1 (k := 6) D sc_law_images_right (len_law_images_right) (fun _ _ _ _ _ _ us hl => match us, hl with | [_, _], _ => rfl) fun f cdv A outer s H vs Q E hr a pre kq => ⟨_, (pss_cons (ps_asg (pe_tup (pa_cons (pe_fn Gturned_picture (hr.mono (by decide)) (by rfl) (pa_cons (pv 0) (pa_cons (pv 1) pa_nil))) (pa_cons (pe_fn G_law_there (hr.mono (by decide)) (by rfl) (pa_cons (pv 1) pa_nil)) pa_nil))) (pg_tup (by rfl) (pgs_cons (pg_name (i := 2) sc_law_images_right.nd rfl (Or.inr rfl)) (pgs_cons (pg_name (i := 3) sc_law_images_right.nd rfl (Or.inr rfl)) pgs_nil))))
      (pss_cons (ps_if (pt_not (pt_val (pe_fn Gis_picture (hr.mono (by decide)) (by rfl) (pa_cons (pv 2) pa_nil)))) (pss_one (ps_ret pe_bl)) pss_nil)
      (pss_cons (ps_if (pt_cmpR (op_neD hr.units) (pe_lc (own := [("_law_dot_here", 9)]) (by rfl) sc_law_images_right.nd (pi_list (pv 1)) (blkOk_by (own := [("_law_dot_here", 9)]) (N := N_law_images_right) (sc := defScope s_law_images_right) (by decide +kernel)) (fun _ _ _ _ _ => (pg_name (i := 9) sc_law_images_right.nd rfl (Or.inl rfl))) (fun _ _ _ _ _ => (pts_one (pt_cmpR (op_notInDK (K := K) rfl (un65 hr)) (pe_fn Gimage (hr.mono (by decide)) (by rfl) (pa_cons (pv 0) (pa_cons (pv 9) pa_nil))) (pv 2) (by rfl)))) (fun _ _ _ _ _ => (pv 9))) (pe_lst pa_nil) (nomark _)) (pss_one (ps_ret pe_bl)) pss_nil)
      (pss_cons (ps_for PassesOwn.never (by rfl) (pi_list (pv 2)) (pg_name (i := 4) sc_law_images_right.nd rfl (Or.inl rfl)) (pss_one (ps_if (pt_cmpR (op_eqD hr.units) (pe_lc (own := [("_law_dot_here", 9)]) (by rfl) sc_law_images_right.nd (pi_list (pe_fn Gcame_from (hr.mono (by decide)) (by rfl) (pa_cons (pv 0) (pa_cons (pv 4) pa_nil)))) (blkOk_by (own := [("_law_dot_here", 9)]) (N := N_law_images_right) (sc := defScope s_law_images_right) (by decide +kernel)) (fun _ _ _ _ _ => (pg_name (i := 9) sc_law_images_right.nd rfl (Or.inl rfl))) (fun _ _ _ _ _ => (pts_one (pt_cmp (pc_din (hu_of hr) (pv 9) (pv 3)) (by rfl)))) (fun _ _ _ _ _ => (pv 9))) (pe_lst pa_nil) (nomark _)) (pss_one (ps_ret pe_bl)) pss_nil)))
      (pss_cons (ps_set (i := 5) sc_law_images_right.nd rfl (Or.inl rfl) (pe_fn Gmeetings_in (hr.mono (by decide)) (by rfl) (pa_cons (pv 0) (pa_cons (pv 1) pa_nil))))
      (pss_cons (ps_if (PW.pt (pw_or (pt_cmpR op_ne (pe_fn Glost_number (hr.mono (by decide)) (by rfl) (pa_cons (pv 0) (pa_cons (pv 1) pa_nil))) (pe_callB call_len_seq (by rfl) T.m_len (by decide +kernel) (pa_cons (pv 5) pa_nil)) (nomark _)) (pw_or1 (pt_cmpR op_ne (pe_op op_add (pe_callB call_len_seq (by rfl) T.m_len (by decide +kernel) (pa_cons (pv 2) pa_nil)) (pe_callB call_len_seq (by rfl) T.m_len (by decide +kernel) (pa_cons (pv 5) pa_nil))) (pe_callB call_len_seq (by rfl) T.m_len (by decide +kernel) (pa_cons (pv 1) pa_nil)) (nomark _))))) (pss_one (ps_ret pe_bl)) pss_nil)
      (pss_cons (ps_for PassesOwn.never (by rfl) (pi_list (pv 5)) (pg_tup (by rfl) (pgs_cons (pg_name (i := 6) sc_law_images_right.nd rfl (Or.inl rfl)) (pgs_cons (pg_name (i := 7) sc_law_images_right.nd rfl (Or.inl rfl)) pgs_nil))) (pss_one (ps_if (PW.pt (pw_or (pt_cmpR (op_neD hr.units) (pe_fn Gmeeting (hr.mono (by decide)) (by rfl) (pa_cons (pv 0) (pa_cons (pv 6) pa_nil))) (pv 7) (nomark _)) (pw_or (pt_cmpR (op_geP hr.units0) (pv 6) (pv 7) (nomark _)) (pw_or (pt_cmp (pc_dnotin (hu_of hr) (pv 6) (pv 3)) (by rfl)) (pw_or1 (pt_cmp (pc_dnotin (hu_of hr) (pv 7) (pv 3)) (by rfl))))))) (pss_one (ps_ret pe_bl)) pss_nil)))
      (pss_cons (ps_setLc (i := 8) (own := [("_law_dot_here", 9)]) (by rfl) sc_law_images_right.nd rfl rfl (sw_true rfl rfl rfl (by decide +kernel)) (pi_list (pv 1)) (blkOk_by (own := [("_law_dot_here", 9)]) (N := N_law_images_right) (sc := defScope s_law_images_right) (by decide +kernel)) (fun _ _ _ _ _ => (pg_name (i := 9) sc_law_images_right.nd rfl (Or.inl rfl))) (fun _ _ _ _ _ => (pts_one (pt_cmp (pc_dinP (hu_of hr) (pe_fn Gmeeting (hr.mono (by decide)) (by rfl) (pa_cons (pv 0) (pa_cons (pv 9) pa_nil))) (pv 3)) (by rfl)))) (fun _ _ _ _ _ => (pv 9)))
      (pss_one (ps_ret (pe_cmpR op_eq (pe_op op_mulW pe_int (pe_callB call_len_seq (by rfl) T.m_len (by decide +kernel) (pa_cons (pv 5) pa_nil))) (pe_callB call_len_seq (by rfl) T.m_len (by decide +kernel) (pa_cons (pv 8) pa_nil)) (nomark _)))))))))))), ?_⟩
  obtain ⟨v, u, rfl, hv, ht, hu, hp, hz⟩ := pre
  refine qy_un2V (Pa := IsIm a.1 a.2) (Pb := IsD (yes a.2)) (y_tupV2 mono_im mono_d (y_tp rfl rfl hv ht hu hp hz) (y_call a.2 (ya1 (y_var rfl hu mono_ps)) (fun vs H1 _ ⟨v, e, h⟩ => ⟨v, e, h, hp.asc.nodup, hp.few⟩) fun v H1 _ ⟨d, e, h⟩ => ⟨d, e, .inl h⟩)) ?_
  rintro tv' dv H1 e1 ⟨ms, hms, im⟩ hd
  have pm : Pic ms := im.pic hp.few
  have msz : ∀ y ∈ ms, Sz 202 y := im.sz ht hz
  refine q_when (b := false) (et_not (a := true) (yt_test (y_call ms (ya1 (y_var rfl hms mono_ps)) (fun vs H1 _ ⟨v, e, h⟩ => ⟨v, e, h, pm⟩) fun _ _ _ h => h))) (fun z => nomatch z) fun _ H2 e2 => ?_
  refine q_when (b := false) (et_is (yt_test (y_nePs (l := a.2.filter fun z => !decide (imT a.1 z ∈ ms)) (m := []) (y_lcF (fun z => !decide (imT a.1 z ∈ ms)) (y_var rfl (hu.mo (e1.trans e2)) mono_ps) (by have := hp.few; omega) (fun _ => rfl) (fun _ => rfl) fun x z H3 e3 m hx => ?_) y_nil)) ?_) (fun z => nomatch z) fun _ H3 e3 => ?_
  · exact yt_test (y_niP (y_call (a.1, z) (ya2 mono_u (y_var rfl (hv.mo ((e1.trans e2).trans e3)) mono_u) (y_var rfl hx mono_u)) (fun vs H1 _ ⟨v, u, e, h1, h2⟩ => ⟨v, u, e, h1, ht, h2, (hz z m).mono (by decide)⟩) fun _ _ _ h => h) (y_var rfl (hms.mo (e2.trans e3)) mono_ps))
  · rw [decide_eq_true]
    · rfl
    · refine List.filter_eq_nil_iff.mpr fun z hz' => ?_
      rw [decide_eq_true ((im.mem _).mpr ⟨z, hz', rfl⟩)]
      decide
  have e13 := (e1.trans e2).trans e3
  refine q_forP (zs := ms) (y_var rfl (hms.mo (e2.trans e3)) mono_ps) (fun i σ' H' => ∃ s4, σ' = [some v, some u, some tv', some dv, s4, none, none, none, none, none]) (fun H4 e4 => ⟨_, rfl⟩) ?_ ?_
  · rintro H4 e4 i x g σ' H5 e5 hi hx ⟨s4, rfl⟩
    have e15 := (e13.trans e4).trans e5
    have gm := List.mem_of_getElem? hi
    refine s_when (b := false) (yt_test (y_eqE (G := fun so => so ≠ []) ((y_lcFE (G := fun so => (∀ z, z ∈ so ↔ imT a.1 z = g) ∧ so.length ≤ 5) (fun z => decide (z ∈ a.2)) (y_call (a.1, g) (ya2 mono_u (y_var rfl (hv.mo e15) mono_u) (y_var rfl hx mono_u)) (fun vs H1 _ ⟨v, u, e, h1, h2⟩ => ⟨v, u, e, h1, ht, h2, (msz g gm).mono (by decide)⟩) fun v H1 _ h => h) (fun so h => by have := h.2; omega) (fun _ => rfl) (fun _ => rfl) fun x z H6 e6 hx => ?_).imp fun v H1 _ ⟨so, h1, h2⟩ => ⟨_, h1, ?_⟩) fun so h => h)) (fun z => nomatch z) fun _ H6 e6 => ⟨e5.trans e6, _, rfl⟩
    · refine et_is (yt_B (y_din (y_var rfl hx mono_u) (y_var rfl (mono_d _ _ _ (((e2.trans e3).trans (e4.trans e5)).trans e6) hd) mono_d))) (by rw [yes_some])
    · obtain ⟨z, z1, z2⟩ := (im.mem g).mp gm
      exact List.ne_nil_of_mem (List.mem_filter.mpr ⟨(h2.1 z).mpr z2, decide_eq_true z1⟩)
  · rintro σ' H4 e4 ⟨s4, rfl⟩
    have e14 := e13.trans e4
    have e24 := (e2.trans e3).trans e4
    refine qy_asg (P := IsMt a.1 a.2) (y_call a (ya2 mono_u (y_var rfl (hv.mo e14) mono_u) (y_var rfl (hu.mo e14) mono_ps)) (fun vs H1 _ ⟨v, u, e, h1, h2⟩ => ⟨v, u, e, h1, ht, h2, hp, fun z m => (hz z m).mono (by decide)⟩) fun _ _ _ h => h) ?_
    rintro pv H5 e5 ⟨ps, pm1, hps⟩
    have cnt := im.count
    have pl : ps.length = (TPm.prN (imT a.1) a.2 a.2.length).length := pm1.length_eq
    have hfew := hp.few
    refine q_when (b := false) (et_is (et_or (a := false) (et_is (yt_test (y_ne rfl (y_lost rfl rfl (hv.mo (e14.trans e5)) ht (hu.mo (e14.trans e5)) hp hz im) (y_lenPr (y_var rfl hps mono_prs)))) ?_) fun _ => yt_test (y_ne rfl (y_add (y_lenP (y_var rfl (hms.mo (e24.trans e5)) mono_ps)) (y_lenPr (y_var rfl hps mono_prs))) (y_lenP (y_var rfl (hu.mo (e14.trans e5)) mono_ps)))) ?_) (fun z => nomatch z) fun _ H6 e6 => ?_
    · rw [decide_eq_true (by congr 1; omega)]
      rfl
    · rw [decide_eq_true (by congr 1; omega)]
      rfl
    refine q_forPr (ps := ps) (y_var rfl (mono_prs _ _ _ e6 hps) mono_prs) (fun i σ' H' => ∃ s6 s7, σ' = [some v, some u, some tv', some dv, s4, some pv, s6, s7, none, none]) (fun H7 e7 => ⟨_, _, rfl⟩) ?_ ?_
    · rintro H7 e7 i x pr σ' H8 e8 hi ⟨va, vb, ⟨q, e, hq⟩, ha, hb⟩ ⟨s6, s7, rfl⟩
      have e18 := (((e14.trans e5).trans e6).trans e7).trans e8
      have e28 := (((e24.trans e5).trans e6).trans e7).trans e8
      obtain ⟨m1, m2, lt, ef⟩ := TPm.pr_mem (f := imT a.1) hp.asc a.2.length (Nat.le_refl _) pr (pm1.mem_iff.mp (List.mem_of_getElem? hi))
      have hmt : TPm.mate a.1.1 a.1.2.1 pr.1 = some pr.2 := (mate_of ht).mpr ⟨fun z => TPm.lt_irr pr.1 (by rw [z] at lt; exact lt), ef.symm⟩
      have dd : IsD (yes a.2) dv H8 := mono_d _ _ _ e28 hd
      refine ⟨q, [va, vb], e, st_of hq, rfl, va, [vb], rfl, vb, [], rfl, rfl, ?_⟩
      refine s_when (b := false) (et_is (et_or (a := false) (et_is (yt_test (y_neO (y_call (a.1, pr.1) (ya2 mono_u (y_var rfl (hv.mo e18) mono_u) (y_var rfl ha mono_u)) (fun vs H1 _ ⟨v, u, e, h1, h2⟩ => ⟨v, u, e, h1, ht, h2, (hz pr.1 m1).mono (by decide)⟩) fun _ _ _ h => h) (y_var rfl hb mono_u))) ?_) fun _ => et_or (a := false) (et_is (yt_test (y_geP (y_var rfl ha mono_u) (y_var rfl hb mono_u))) ?_) fun _ => et_or (a := false) (et_is (yt_B (y_dnin (y_var rfl ha mono_u) (y_var rfl dd mono_d))) ?_) fun _ => et_is (b := false) (yt_B (y_dnin (y_var rfl hb mono_u) (y_var rfl dd mono_d))) ?_) rfl) (fun z => nomatch z) fun _ H9 e9 => ⟨e8.trans e9, _, _, rfl⟩
      · show (!decide (TPm.mate a.1.1 a.1.2.1 pr.1 = some pr.2)) = false
        rw [decide_eq_true hmt]
        rfl
      · exact decide_eq_false fun h => h lt
      · rw [yes_some, decide_eq_true m1]
        rfl
      · rw [yes_some, decide_eq_true m2]
        rfl
    · rintro σ' H7 e7 ⟨s6, s7, rfl⟩
      have e17 := ((e14.trans e5).trans e6).trans e7
      have e27 := ((e24.trans e5).trans e6).trans e7
      refine qy_asg (P := IsPs (a.2.filter fun z => inM a.2 (TPm.mate a.1.1 a.1.2.1 z))) (y_lcF (fun z => inM a.2 (TPm.mate a.1.1 a.1.2.1 z)) (y_var rfl (hu.mo e17) mono_ps) (by omega) (fun _ => rfl) (fun _ => rfl) fun x z H8 e8 m hx => ?_) fun mv H8 e8 hm => ?_
      · exact yt_B (y_dinO (y_call (a.1, z) (ya2 mono_u (y_var rfl (hv.mo (e17.trans e8)) mono_u) (y_var rfl hx mono_u)) (fun vs H1 _ ⟨v, u, e, h1, h2⟩ => ⟨v, u, e, h1, ht, h2, (hz z m).mono (by decide)⟩) fun _ _ _ h => h) (y_var rfl (mono_d _ _ _ (e27.trans e8) hd) mono_d))
      · refine sy_ret (P := IsB true) ((y_eq rfl (y_mul 2 20 y_c (y_lenPr (y_var rfl (mono_prs _ _ _ ((e6.trans e7).trans e8) hps) mono_prs)) (by decide) (by show (ps.length : Int).natAbs < 2 ^ 20; omega)) (y_lenP (y_var rfl hm mono_ps))).val ?_) fun v H9 e9 p => kq v H9 ((e17.trans e8).trans e9) p
        rw [decide_eq_true]
        have h2 : (a.2.filter fun z => inM a.2 (TPm.mate a.1.1 a.1.2.1 z)).length = 2 * ps.length := by rw [pl]; exact met_of ht hp
        show V.int (2 * (ps.length : Int)) = V.int (((a.2.filter fun z => inM a.2 (TPm.mate a.1.1 a.1.2.1 z)).length : Nat) : Int)
        rw [h2]
        congr 1
end
end TPx

/-! The law's own defs: right. -/
namespace TPy
open PySem PySem.Spec PyProof.Rows L2 Evl
open TPs hiding Px
section
variable {K : PySem.W.Frag} {σ : L2.St} {H H' : Hp} {ta tb te tc tr tl : TE} {t u : TT} {x y v : V} {P Pa Pb Pc : VP} {D : Ends} {tz tu : TS} {g : TG}
theorem q_forPE {G : List Px → Prop} (h : Y tl σ H (fun v H => ∃ zs, IsPs zs v H ∧ G zs)) (Pv : Nat → L2.St → Hp → Prop) (h0 : ∀ H1, Ex H H1 → Pv 0 σ H1)
    (hs : ∀ H1, Ex H H1 → ∀ zs, G zs → ∀ i x z σ' H', Ex H1 H' → zs[i]? = some z → IsP z x H' → Pv i σ' H' → g x σ' H' fun σ2 H2 => tu { D with nx := fun σ3 H3 => Ex H1 H3 ∧ Pv (i + 1) σ3 H3, ct := fun σ3 H3 => Ex H1 H3 ∧ Pv (i + 1) σ3 H3, bk := tz D } σ2 H2)
    (hd : ∀ i σ' H', Ex H H' → Pv i σ' H' → tz D σ' H') : tSeq (tFor (iList K tl) g tu) tz D σ H :=
  h H (Ex.refl H) _ fun v H1 e ⟨zs, hv, hg⟩ => s_forP (K := K) (D := { D with nx := tz D }) (tl := tC v) (y_at mono_ps hv) Pv (fun H2 e2 => h0 H2 (e.trans e2)) (fun H2 e2 => hs H2 (e.trans e2) zs hg) fun σ' H' e' p => hd _ σ' H' (e.trans e') p
theorem y_slHi {zs : List Px} {n : Nat} (ha : Y ta σ H (IsPs zs)) (hn : n ≤ zs.length) (h1 : EvO (tPart tb) σ H (some (n : Int))) : Y (tSl (rSlL K) ta tNoPart (tPart tb)) σ H (IsPs (zs.take n)) := fun H1 e Q q =>
  ha H1 e _ fun v H2 e2 ⟨p, xs, ev, hx, hp⟩ => eo_none H2 (e.trans e2) _ fun H3 e3 => h1 H3 ((e.trans e2).trans e3) _ fun H4 e4 => ⟨p, xs, ev, .inl (.inl ((e3.trans e4) p _ hx)), fun p' hp' => q _ _ (((e2.trans e3).trans e4).trans (Ex.new hp')) ⟨p', _, rfl, upd_same, by
    rw [cut_hi xs n (by rw [hp.len]; exact hn)]
    exact Pxs.take n (hp.mono ((e3.trans e4).trans (Ex.new hp')))⟩⟩
theorem y_slLo {zs : List Px} {n : Nat} (ha : Y ta σ H (IsPs zs)) (hn : n ≤ zs.length) (h1 : EvO (tPart tb) σ H (some (n : Int))) : Y (tSl (rSlL K) ta (tPart tb) tNoPart) σ H (IsPs (zs.drop n)) := fun H1 e Q q =>
  ha H1 e _ fun v H2 e2 ⟨p, xs, ev, hx, hp⟩ => h1 H2 (e.trans e2) _ fun H3 e3 => eo_none H3 ((e.trans e2).trans e3) _ fun H4 e4 => ⟨p, xs, ev, .inl (.inl ((e3.trans e4) p _ hx)), fun p' hp' => q _ _ (((e2.trans e3).trans e4).trans (Ex.new hp')) ⟨p', _, rfl, upd_same, by
    rw [cut_lo xs n (by rw [hp.len]; exact hn)]
    exact Pxs.drop n (hp.mono ((e3.trans e4).trans (Ex.new hp')))⟩⟩
end
end TPy
namespace TPx
open PySem PySem.Spec PyProof.Rows L2 TPy Evl
open TPs hiding Px
theorem Pic.sub {l m : List Px} (h : Pic m) (s : l.Sublist m) : Pic l := ⟨Nat.le_trans s.length_le h.few, h.asc.sublist s⟩
section
variable {P : Program} {w : World} {K : PySem.W.Frag} {mg : Str → Option Value} {base : Heap}
abbrev sp_law_right : Sp := fun vs H Q _ => ∃ (s : Addr) (N : Nat) (t : T3) (zs : List Px) (v u : V), vs = [.ref s, v, u] ∧ Src s H N ∧ N ≤ 90000 ∧ IsU (tvT t) v H ∧ Turn t ∧ IsPs zs u H ∧ Pic zs ∧ (∀ z ∈ zs, Sz 200 z) ∧ ∀ H', Xs s H H' → Src s H' (N + 2) → Q (.bl true) H'
theorem len_law_right : ∀ (vs : List V) (H : Hp) (Q : VK) (E : XK), sp_law_right vs H Q E → vs.length = P_law_right.length := fun _ _ _ _ ⟨_, _, _, _, _, _, h, _⟩ => by rw [h]; rfl
theorem y_tpS {σ : L2.St} {H : Hp} {v : V} {i : Nat} {te : TE} {t : T3} {zs : List Px} (g1 : σ[i]? = some (some v)) (h : Y te σ H (IsPs zs)) (hv : IsU (tvT t) v H) (ht : Turn t) (hp : Pic zs) (hz : ∀ z ∈ zs, Sz 200 z) :
    Y (tCall spturned_picture [] E0 (tCons (tVar i) (tCons te tNil))) σ H (IsIm t zs) :=
  y_call (t, zs) (ya2 mono_u (y_var g1 hv mono_u) h) (fun vs H1 _ ⟨v, u, e, h1, h2⟩ => ⟨v, u, e, h1, ht, h2, hp, fun z m => (hz z m).mono (by decide)⟩) fun _ _ _ h => h
theorem d_draw {s : Addr} {σ : L2.St} {H : Hp} {N i : Nat} {c : Int} {tc : TE} {Q : VK} (g : σ[i]? = some (some (.ref s))) (hs : Src s H N) (hc : Y tc σ H (IsI c)) (h0 : 0 < c) (h1 : c.natAbs < 2 ^ 200) (hN : N ≤ 100000) (k : ∀ d H', 0 ≤ d → d < c → Xs s H H' → Src s H' (N + 1) → Q (.int d) H') : tCall sp_law_draw [] E0 (tCons (tVar i) (tCons tc tNil)) σ H Q :=
  (ya_is2 (y_vI g) hc) H (Ex.refl H) _ fun vs H2 e2 ev => ⟨s, N, c, by rw [ev]; rfl, hs.ex e2, hN, h0, h1, fun d H3 d0 d1 x3 s3 => k d H3 d0 d1 ((Ex.xs e2).trans x3) s3⟩
theorem ms_od : Ms (fun v _ => ∃ b, v = od b) := fun _ _ _ _ h => h
theorem ok_law_right (T : Bl mg) (D : Df K mg "_law_right" s_law_right) (G_law_images_right : Ok1 P w K mg base 7 "_law_images_right" P_law_images_right sp_law_images_right) (Gturned_picture : Ok1 P w K mg base 6 "turned_picture" Pturned_picture spturned_picture) (Ggaps_in : Ok1 P w K mg base 6 "gaps_in" Pgaps_in spgaps_in) (Gis_bare : Ok1 P w K mg base 6 "is_bare" Pis_bare spis_bare) (Gthere_and_back : Ok1 P w K mg base 6 "there_and_back" Pthere_and_back spthere_and_back) (Gcomes_back : Ok1 P w K mg base 6 "comes_back" Pcomes_back spcomes_back) (G_law_draw : Ok1 P w K mg base 1 "_law_draw" P_law_draw sp_law_draw) (Gsheared_picture : Ok1 P w K mg base 7 "sheared_picture" Psheared_picture spsheared_picture) (Glost_number : Ok1 P w K mg base 6 "lost_number" Plost_number splost_number) : Ok1 P w K mg base 8 "_law_right" P_law_right sp_law_right := by
  refine mk0 (k := 7) D sc_law_right (len_law_right) (fun _ _ _ _ _ _ us hl => match us, hl with | [_, _, _], _ => rfl) fun f cdv A outer s0 H vs Q E hr pre => ⟨_, (pss_cons (ps_if (pt_not (pt_val (pe_fn G_law_images_right (hr.mono (by decide)) (by rfl) (pa_cons (pv 1) (pa_cons (pv 2) pa_nil))))) (pss_one (ps_ret pe_bl)) pss_nil)
      (pss_cons (ps_set (i := 3) sc_law_right.nd rfl (Or.inr rfl) (pe_fn Gturned_picture (hr.mono (by decide)) (by rfl) (pa_cons (pv 1) (pa_cons (pv 2) pa_nil))))
      (pss_cons (ps_for PassesOwn.never (by rfl) (pi_list (pe_fn Ggaps_in (hr.mono (by decide)) (by rfl) (pa_cons (pv 1) (pa_cons (pv 2) pa_nil)))) (pg_tup (by rfl) (pgs_cons (pg_name (i := 4) sc_law_right.nd rfl (Or.inl rfl)) (pgs_cons (pg_name (i := 5) sc_law_right.nd rfl (Or.inl rfl)) pgs_nil))) (pss_cons (ps_set (i := 6) sc_law_right.nd rfl (Or.inl rfl) (pe_lst (pa_cons (pe_tup (pa_cons (pe_op op_add (pv 4) pe_int) (pa_cons (pv 5) pa_nil))) (pa_cons (pe_tup (pa_cons (pe_op op_sub (pv 4) pe_int) (pa_cons (pv 5) pa_nil))) (pa_cons (pe_tup (pa_cons (pv 4) (pa_cons (pe_op op_add (pv 5) pe_int) pa_nil))) (pa_cons (pe_tup (pa_cons (pv 4) (pa_cons (pe_op op_sub (pv 5) pe_int) pa_nil))) pa_nil))))))
      (pss_one (ps_if (PW.pt (pw_or (pt_not (pt_val (pe_fn Gis_bare (hr.mono (by decide)) (by rfl) (pa_cons (pv 1) (pa_cons (pe_tup (pa_cons (pv 4) (pa_cons (pv 5) pa_nil))) pa_nil))))) (pw_or1 (pt_cmpR (op_neD hr.units) (pe_lc (own := [("_law_dot_here", 12)]) (by rfl) sc_law_right.nd (pi_list (pv 6)) (blkOk_by (own := [("_law_dot_here", 12)]) (N := N_law_right) (sc := defScope s_law_right) (by decide +kernel)) (fun _ _ _ _ _ => (pg_name (i := 12) sc_law_right.nd rfl (Or.inl rfl))) (fun _ _ _ _ _ => (pts_one (pt_cmpR (op_notInDK (K := K) rfl (un65 hr)) (pv 12) (pv 3) (by rfl)))) (fun _ _ _ _ _ => (pv 12))) (pe_lst pa_nil) (nomark _))))) (pss_one (ps_ret pe_bl)) pss_nil))))
      (pss_cons (ps_set (i := 7) sc_law_right.nd rfl (Or.inr rfl) (pe_fn Gthere_and_back (hr.mono (by decide)) (by rfl) (pa_cons (pv 1) (pa_cons (pv 2) pa_nil))))
      (pss_cons (ps_setLc (i := 8) (own := [("_law_dot_here", 12)]) (by rfl) sc_law_right.nd rfl rfl (sw_true rfl rfl rfl (by decide +kernel)) (pi_list (pv 2)) (blkOk_by (own := [("_law_dot_here", 12)]) (N := N_law_right) (sc := defScope s_law_right) (by decide +kernel)) (fun _ _ _ _ _ => (pg_name (i := 12) sc_law_right.nd rfl (Or.inl rfl))) (fun _ _ _ _ _ => (pts_one (pt_val (pe_fn Gcomes_back (hr.mono (by decide)) (by rfl) (pa_cons (pv 1) (pa_cons (pv 12) pa_nil)))))) (fun _ _ _ _ _ => (pv 12)))
      (pss_cons (ps_if (PW.pt (pw_or (pt_cmpR op_gt (pe_callB call_len_seq (by rfl) T.m_len (by decide +kernel) (pa_cons (pv 7) pa_nil)) (pe_callB call_len_seq (by rfl) T.m_len (by decide +kernel) (pa_cons (pv 3) pa_nil)) (nomark _)) (pw_or1 (pt_cmpR (op_neD hr.units) (pe_lc (own := [("_law_dot_here", 12)]) (by rfl) sc_law_right.nd (pi_list (pv 8)) (blkOk_by (own := [("_law_dot_here", 12)]) (N := N_law_right) (sc := defScope s_law_right) (by decide +kernel)) (fun _ _ _ _ _ => (pg_name (i := 12) sc_law_right.nd rfl (Or.inl rfl))) (fun _ _ _ _ _ => (pts_one (pt_cmpR (op_notInDK (K := K) rfl (un65 hr)) (pv 12) (pv 7) (by rfl)))) (fun _ _ _ _ _ => (pv 12))) (pe_lst pa_nil) (nomark _))))) (pss_one (ps_ret pe_bl)) pss_nil)
      (pss_cons (ps_par (i := 9) (j := 10) (by rfl) sc_law_right.nd rfl rfl (by decide) rfl rfl (pa_cons (pe_fn G_law_draw (hr.mono (by decide)) (by rfl) (pa_cons (pv 0) (pa_cons (pe_op op_add (pe_callB call_len_seq (by rfl) T.m_len (by decide +kernel) (pa_cons (pv 2) pa_nil)) pe_int) pa_nil))) (pa_cons (pe_ix ix_list (pe_lst (pa_cons pe_str (pa_cons pe_str pa_nil))) (pe_fn G_law_draw (hr.mono (by decide)) (by rfl) (pa_cons (pv 0) (pa_cons pe_int pa_nil))) (fun _ _ => rfl)) pa_nil)) (by rfl))
      (pss_cons (ps_set (i := 11) sc_law_right.nd rfl (Or.inl rfl) (pe_op op_cat (pe_fn Gturned_picture (hr.mono (by decide)) (by rfl) (pa_cons (pv 1) (pa_cons (pe_slice sl_list (pv 2) po_none (po_some (pv 9))) pa_nil))) (pe_fn Gturned_picture (hr.mono (by decide)) (by rfl) (pa_cons (pv 1) (pa_cons (pe_slice sl_list (pv 2) (po_some (pv 9)) po_none) pa_nil)))))
      (pss_cons (ps_if (pt_cmpR (op_neD hr.units) (pe_callB (cr_sortP rfl) (by rfl) T.m_sorted (by decide +kernel) (pa_cons (pe_callTy (cr_setP rfl hr.units) (by rfl) T.m_set (by decide +kernel) (pa_cons (pv 11) pa_nil)) pa_nil)) (pv 3) (nomark _)) (pss_one (ps_ret pe_bl)) pss_nil)
      (pss_one (ps_ret (pe_cmpR op_eq (pe_callB call_len_seq (by rfl) T.m_len (by decide +kernel) (pa_cons (pe_fn Gsheared_picture (hr.mono (by decide)) (by rfl) (pa_cons (pv 1) (pa_cons (pv 10) (pa_cons (pv 2) pa_nil)))) pa_nil)) (pe_op op_add (pe_callB call_len_seq (by rfl) T.m_len (by decide +kernel) (pa_cons (pv 3) pa_nil)) (pe_fn Glost_number (hr.mono (by decide)) (by rfl) (pa_cons (pv 1) (pa_cons (pv 2) pa_nil)))) (nomark _))))))))))))), ?_⟩
  obtain ⟨s, N, t, zs, v, u, rfl, hs, hN, hv, ht, hu, hp, hz, k⟩ := pre
  have hfew := hp.few
  refine q_when (b := false) (et_not (a := true) (yt_test (y_call (t, zs) (ya2 mono_u (y_var rfl hv mono_u) (y_var rfl hu mono_ps)) (fun vs H1 _ ⟨v, u, e, h1, h2⟩ => ⟨v, u, e, h1, ht, h2, hp, hz⟩) fun _ _ _ h => h))) (fun z => nomatch z) fun _ H1 e1 => ?_
  refine qy_asg (P := IsIm t zs) (y_tp rfl rfl (hv.mo e1) ht (hu.mo e1) hp hz) ?_
  rintro tl H2 e2 ⟨ms, hms, im⟩
  have e12 := e1.trans e2
  refine q_forPE (G := fun gs => ∀ g ∈ gs, Gp t zs 344 g) ((y_call (t, zs) (ya2 mono_u (y_var rfl (hv.mo e12) mono_u) (y_var rfl (hu.mo e12) mono_ps)) (fun vs H1 _ ⟨v, u, e, h1, h2⟩ => ⟨v, u, e, h1, ht, h2, hp, fun z m => (hz z m).mono (by decide)⟩) fun v H3 _ h => h).imp fun v H3 _ ⟨gs, h1, _, h2⟩ => ⟨gs, h1, h2⟩) (fun i σ' H' => ∃ s4 s5 s6, σ' = [some (.ref s), some v, some u, some tl, s4, s5, s6, none, none, none, none, none, none]) (fun H3 e3 => ⟨_, _, _, rfl⟩) ?_ ?_
  · rintro H3 e3 gs hG i x g σ' H4 e4 hi ⟨q, e, hq⟩ ⟨s4, s5, s6, rfl⟩
    have gg := hG g (List.mem_of_getElem? hi)
    have e34 := e3.trans e4
    refine ⟨q, tv g, e, st_of hq, rfl, _, [.int g.2], rfl, _, [], rfl, rfl, ?_⟩
    refine qy_asg (y_lstP (ya_pcons (z := (g.1 + 1, g.2)) (y_tup2 (y_add (y_vI rfl) y_c) (y_vI rfl)) (ya_pcons (z := (g.1 - 1, g.2)) (y_tup2 (y_sub (y_vI rfl) y_c) (y_vI rfl)) (ya_pcons (z := (g.1, g.2 + 1)) (y_tup2 (y_vI rfl) (y_add (y_vI rfl) y_c)) (ya_pcons (z := (g.1, g.2 - 1)) (y_tup2 (y_vI rfl) (y_sub (y_vI rfl) y_c)) ya_pnil)))) (by show 4 ≤ 1000; decide)) fun av H5 e5 hav => ?_
    have e25 := e34.trans e5
    refine s_when (b := false) (et_is (et_or (a := false) (et_not (a := true) (yt_test (y_call (t, g) (ya2 (Pb := IsP g) mono_u (y_var rfl (hv.mo (e12.trans e25)) mono_u) (y_tup2 (y_vI rfl) (y_vI rfl))) (fun vs H1 _ ⟨v, u, e, h1, h2⟩ => ⟨v, u, e, h1, ht, h2, gg.sz.mono (by decide)⟩) fun v H6 _ ⟨b, e, h⟩ => by rw [e, h.mpr gg.bare]; rfl))) fun _ => yt_test (y_nePs (m := []) (y_lcF (fun z => !decide (z ∈ ms)) (y_var rfl hav mono_ps) (by show 4 ≤ 40000; decide) (fun _ => rfl) (fun _ => rfl) fun x z H6 e6 m hx => yt_test (y_niP (y_var rfl hx mono_u) (y_var rfl (hms.mo (e25.trans e6)) mono_ps))) y_nil)) ?_) (fun z => nomatch z) fun _ H6 e6 => ⟨(e4.trans e5).trans e6, _, _, _, rfl⟩
    rw [decide_eq_true]
    · rfl
    · refine List.filter_eq_nil_iff.mpr fun y hy => ?_
      have : y ∈ TPm.nbs g := by
        simp only [List.mem_cons, List.not_mem_nil, or_false] at hy
        refine TPm.mem_nbs.mpr ?_
        rcases hy with rfl | rfl | rfl | rfl
        · exact .inr (.inr (.inr ⟨rfl, rfl⟩))
        · exact .inl ⟨rfl, rfl⟩
        · exact .inr (.inr (.inl ⟨rfl, rfl⟩))
        · exact .inr (.inl ⟨rfl, rfl⟩)
      rw [decide_eq_true ((im.mem y).mpr (gg.round y this))]
      decide
  · rintro i σ' H3 e3 ⟨s4, s5, s6, rfl⟩
    have e13 := e12.trans e3
    refine qy_asg (P := IsIm2 t (bkT t) zs) (y_call (t, zs) (ya2 mono_u (y_var rfl (hv.mo e13) mono_u) (y_var rfl (hu.mo e13) mono_ps)) (fun vs H1 _ ⟨v, u, e, h1, h2⟩ => ⟨v, u, e, h1, ht, h2, hp, fun z m => (hz z m).mono (by decide)⟩) fun v H3 _ h => h) ?_
    rintro ag H4 e4 ⟨ms', ks, hks, im', im2⟩
    obtain rfl := im'.eq im
    have e14 := e13.trans e4
    refine qy_asg (P := IsPs (zs.filter fun z => TPm.backs t.1 t.2.1 z)) (y_lcF (fun z => TPm.backs t.1 t.2.1 z) (y_var rfl (hu.mo e14) mono_ps) (by omega) (fun _ => rfl) (fun _ => rfl) fun x z H5 e5 m hx => ?_) fun kp H5 e5 hkp => ?_
    · exact yt_test (y_call (t, z) (ya2 mono_u (y_var rfl (hv.mo (e14.trans e5)) mono_u) (y_var rfl hx mono_u)) (fun vs H1 _ ⟨v, u, e, h1, h2⟩ => ⟨v, u, e, h1, ht, h2, (hz z m).mono (by decide)⟩) fun _ _ _ h => h)
    have e15 := e14.trans e5
    have e25 := (e3.trans e4).trans e5
    refine q_when (b := false) (et_is (et_or (a := false) (et_is (yt_test (y_i0 (y_lenP (y_var rfl (hks.mo e5) mono_ps)) (y_lenP (y_var rfl (hms.mo e25) mono_ps)))) ?_) fun _ => yt_test (y_nePs (m := []) (y_lcF (fun z => !decide (z ∈ ks)) (y_var rfl hkp mono_ps) (Nat.le_trans (List.length_filter_le _ _) (by omega)) (fun _ => rfl) (fun _ => rfl) fun x z H6 e6 m hx => yt_test (y_niP (y_var rfl hx mono_u) (y_var rfl (hks.mo (e5.trans e6)) mono_ps))) y_nil)) ?_) (fun z => nomatch z) fun _ H6 e6 => ?_
    · exact decide_eq_false (by have := im2.few; omega)
    · rw [decide_eq_true]
      · rfl
      · refine List.filter_eq_nil_iff.mpr fun y hy => ?_
        obtain ⟨y1, y2⟩ := List.mem_filter.mp hy
        rw [decide_eq_true ((im2.mem y).mpr ⟨imT t y, (im.mem _).mpr ⟨y, y1, rfl⟩, ?_⟩)]
        · decide
        · show TPm.img t.1 (-t.2.1) (-t.2.2 % 4) (TPm.img t.1 t.2.1 t.2.2 y) = y
          rw [TPm.img_back ht.ok, TPm.back_of_rest ht.ok y2]
    have e16 := e15.trans e6
    have e26 := e25.trans e6
    have hs6 := hs.ex e16
    refine d_draw (c := (zs.length : Int) + 1) rfl hs6 (y_add (y_lenP (y_var rfl (hu.mo e16) mono_ps)) y_c) (by omega) (na_small (by omega) (by omega)) (by omega) fun at' H7 a0 a1 x7 s7 => ?_
    refine (zv_ixD (n := 2) (xs := [od true, od false]) (P := fun v _ => ∃ b, v = od b) (fun H => y_lst' (ya_is2 y_c y_c) (by show 2 ≤ 1000; decide)) (zv_draw rfl (fun _ => y_c) (by decide) (by decide) (by omega)) (Nat.le_refl _) (by show 2 ≠ 3; decide) fun v hv H => ?_) H7 s7 _ ?_
    · rcases List.mem_cons.mp hv with e | hv
      · exact ⟨true, e⟩
      · exact ⟨false, List.mem_singleton.mp hv⟩
    rintro _ H8 ⟨b, rfl⟩ x8 s8
    refine ⟨_, _, rfl, ?_⟩
    have x68 := x7.trans x8
    have hv8 : IsU (tvT t) v H8 := (hv.mo e16).tk (hs6.tk x68)
    have hu8 : IsPs zs u H8 := (hu.mo e16).xs hs6 x68
    have hms8 : IsPs ms' tl H8 := (hms.mo e26).xs hs6 x68
    obtain ⟨n, rfl⟩ : ∃ n : Nat, at' = n := ⟨at'.toNat, (Int.toNat_of_nonneg a0).symm⟩
    have hn : n ≤ zs.length := by omega
    refine qy_asg (P := fun v H => ∃ ps, IsPs ps v H ∧ (∀ y, y ∈ ps ↔ ∃ z ∈ zs, imT t z = y) ∧ ps.length ≤ 800) (y_op mono_im (y_tpS rfl (y_slHi (n := n) (y_var rfl hu8 mono_ps) hn (eo_some (ev_var rfl))) hv8 ht (hp.sub (List.take_sublist _ _)) fun z m => hz z (List.mem_of_mem_take m)) (y_tpS rfl (y_slLo (n := n) (y_var rfl hu8 mono_ps) hn (eo_some (ev_var rfl))) hv8 ht (hp.sub (List.drop_sublist _ _)) fun z m => hz z (List.mem_of_mem_drop m)) ?_) ?_
    · rintro x y H9 e9 ⟨m1, ⟨a, xs, ea, ha, pa⟩, i1⟩ ⟨m2, ⟨b', ys, eb, hb, pb⟩, i2⟩ Q' q'
      have f1 := i1.few
      have f2 := i2.few
      rw [List.length_take] at f1
      rw [List.length_drop] at f2
      refine ⟨a, b', xs, ys, ea, eb, ha, hb, sz_of (by rw [pa.len, pb.len]; omega), fun p hp => q' _ _ (Ex.new hp) ⟨m1 ++ m2, ⟨p, _, rfl, upd_same, (pa.app pb).mono (Ex.new hp)⟩, fun y => ?_, by rw [List.length_append]; omega⟩⟩
      rw [List.mem_append, i1.mem, i2.mem]
      constructor
      · rintro (⟨z, m, e⟩ | ⟨z, m, e⟩)
        · exact ⟨z, List.mem_of_mem_take m, e⟩
        · exact ⟨z, List.mem_of_mem_drop m, e⟩
      · rintro ⟨z, m, e⟩
        rw [← List.take_append_drop n zs, List.mem_append] at m
        rcases m with m | m
        · exact .inl ⟨z, m, e⟩
        · exact .inr ⟨z, m, e⟩
    rintro pv H9 e9 ⟨ps, hps, pm, pl⟩
    refine q_when (b := false) (et_is (yt_test (y_nePs (l := ms') ((y_sortS (y_setOf (y_var rfl hps mono_ps) (by omega))).imp fun v H10 _ ⟨m3, h1, h2, h3⟩ => ?_) (y_var rfl (hms8.mo e9) mono_ps))) ?_) (fun z => nomatch z) fun _ H10 e10 => ?_
    · have e : m3 = ms' := TPm.asc_ext h2 im.asc fun z => ((h3 z).trans (pm z)).trans (im.mem z).symm
      rw [← e]
      exact h1
    · rw [decide_eq_true rfl]
      rfl
    refine sy_ret (P := IsB true) ((y_eq (x := .int (zs.length : Int)) rfl (y_cb (ya1 (y_call (P := fun v H => ∃ ys : List Px, IsPs ys v H ∧ ys.length = zs.length) (t, b, zs) (ya3 (Pb := Is (od b)) mono_u mono_is (y_var rfl (hv8.mo (e9.trans e10)) mono_u) (y_vI rfl) (y_var rfl (hu8.mo (e9.trans e10)) mono_ps)) (fun vs H1 _ ⟨v, w, u, e, h1, h2, h3⟩ => ⟨v, u, by rw [e, show w = _ from h2], h1, ht, h3, hp, fun z m => (hz z m).mono (by decide)⟩) fun _ _ _ h => h)) fun vs H11 _ ⟨v, ev, ys, ⟨a, xs, e, h1, p⟩, ly⟩ Q q => ?_) (y_add (y_lenP (y_var rfl (hms8.mo (e9.trans e10)) mono_ps)) (y_lost rfl rfl (hv8.mo (e9.trans e10)) ht (hu8.mo (e9.trans e10)) hp hz im))).val ?_) fun v H11 e11 p => ?_
    · rw [decide_eq_true]
      congr 1
      omega
    · rw [show v = .bl true from p]
      exact k H11 (((Ex.xs e16).trans x68).trans (Ex.xs ((e9.trans e10).trans e11))) (s8.ex ((e9.trans e10).trans e11))
    · exact ⟨a, xs, by rw [ev, e], .inl (sq_of h1), q _ H11 (Ex.refl H11) (by rw [p.len, ly]; rfl)⟩
end
end TPx

/-! The law's own def. -/
namespace TPy
open PySem PySem.Spec PyProof PyProof.Rows L2 Evl
open TPs hiding Px
/-- list + list, read only -/
def rCatS (K : PySem.W.Frag) : R2 := fun x y H Q => ∃ l b xs zs, x = .ref l ∧ y = .ref b ∧ SqL K H l xs ∧ SqL K H b zs ∧ xs.length + zs.length ≤ sizeLine ∧ ∀ p, H p = none → Q (.ref p) (upd H p (.lst (xs ++ zs)))
theorem op_catS {X : Cx} : OpR X (binaryOp .Add) (rCatS X.K) := by
  intro pins s σ H x y v u Q I rx ry h
  obtain ⟨l, b, xs, zs, rfl, rfl, hH, hB, hz, q⟩ := h
  cases rx
  cases ry
  obtain ⟨its, r, pl, _⟩ := I.list hH
  obtain ⟨its2, r2, pl2, _⟩ := I.list hB
  obtain ⟨⟨cls, dd, data, sl⟩, ho, hc, n, hd⟩ := id pl.isList
  obtain ⟨⟨cls2, dd2, data2, sl2⟩, ho2, hc2, n2, hd2⟩ := id pl2.isList
  simp only at hc hd hc2 hd2
  subst hc hd hc2 hd2
  have e : its.toArray ++ its2.toArray = (its ++ its2).toArray := by simp
  have e1 := r.length
  have e2 := r2.length
  refine concat_meets ⟨_, ho, rfl⟩ ⟨_, ho2, rfl⟩ noFill_list_add seq_list_add PySem.F.slot_list_add PySem.F.entry_list_add (PySem.F.args_list_add_2 _ _) (list_addW l b its.toArray its2.toArray n n2 dd dd2 sl sl2 (by simp; omega)) ⟨ho, ho2, ?_⟩
  rw [e]
  exact ⟨.ref _, _, I.lnew (t' := s.toks) (r.append r2) (by rw [List.length_append]; omega), rfl, q _ I.fresh⟩
section
variable {K : PySem.W.Frag} {σ : L2.St} {H : Hp} {tl : TE} {D : Ends} {tu tz : TS} {g : TG}
theorem q_forEY {xs : List V} (h : Y tl σ H (IsLs xs)) (Pv : Nat → L2.St → Hp → Prop) (h0 : ∀ H1, Ex H H1 → Pv 0 σ H1)
    (hs : ∀ H1, Ex H H1 → ∀ i x σ' H' T, Ex H1 H' → xs[i]? = some x → Pv i σ' H' → H' T = none → g (.ref T) σ' (upd H' T (.tup [.int (i : Nat), x])) fun σ2 H2 => tu { D with nx := fun σ3 H3 => Ex H1 H3 ∧ Pv (i + 1) σ3 H3, ct := fun σ3 H3 => Ex H1 H3 ∧ Pv (i + 1) σ3 H3, bk := tz D } σ2 H2)
    (hd : ∀ σ' H', Ex H H' → Pv xs.length σ' H' → tz D σ' H') : tSeq (tFor (iEnum K (tCons tl tNil)) g tu) tz D σ H :=
  h H (Ex.refl H) _ fun v H1 e ⟨a, ea, hx⟩ => by
    subst ea
    exact s_forE (K := K) (D := { D with nx := tz D }) (tl := tC (.ref a)) ev_c hx (fun i σ' H' => Ex H1 H' ∧ Pv i σ' H') (fun H2 e2 => ⟨e2, h0 H2 (e.trans e2)⟩) (fun i σ' H' p => p.1 a _ hx) (fun i x σ' H' T hi p hT => hs H1 e i x σ' H' T p.1 hi p.2 hT) fun σ' H' p => hd σ' H' (e.trans p.1) p.2
end
end TPy
namespace TPx
open PySem PySem.Spec PyProof.Rows L2 TPy Evl
open TPs hiding Px
section
variable {P : Program} {w : World} {K : PySem.W.Frag} {mg : Str → Option Value} {base : Heap}
abbrev splaw (K : PySem.W.Frag) : Sp := fun vs H Q _ => ∃ (a : Addr) (ns : List Int), vs = [.ref a] ∧ SqL K H a (ns.map V.int) ∧ ns.length ≤ 63 ∧ ∀ H', Q (.bl true) H'
theorem nox_of {X : Cx} {b : List Stmt} {R : TS → Prop} (h : ∃ t, PSs X.nox b t ∧ R t) : ∃ t, PSs X b t ∧ R t := let ⟨t, h1, h2⟩ := h; ⟨t, h1.nox, h2⟩
theorem lenlaw : ∀ (vs : List V) (H : Hp) (Q : VK) (E : XK), splaw K vs H Q E → vs.length = Plaw.length := fun _ _ _ _ ⟨_, _, h, _⟩ => by rw [h]; rfl
theorem d_source {σ : L2.St} {H : Hp} {i j : Nat} {e : Int} {k : Nat} {Q : VK} (g1 : σ[i]? = some (some (.int e))) (g2 : σ[j]? = some (some (.int k))) (hk : k ≤ 10) (kq : ∀ s H', Ex H H' → H s = none → Src s H' 0 → Q (.ref s) H') : tCall sp_law_source [] E0 (tCons (tVar i) (tCons (tVar j) tNil)) σ H Q := ⟨_, g1, _, g2, e, k, rfl, hk, kq⟩
theorem d_spin {σ : L2.St} {H : Hp} {i : Nat} {s : Addr} {N : Nat} {m : Int} {tc : TE} {Q : VK} (g1 : σ[i]? = some (some (.ref s))) (hs : Src s H N) (hc : Y tc σ H (IsI m)) (hN : N ≤ 90000) (m0 : 0 < m) (m1 : m ≤ 1000000000000000) (k : ∀ v t H', IsU (tvT t) v H' → Turn t → Xs s H H' → Src s H' (N + 7) → Q v H') : tCall sp_law_spin [] E0 (tCons (tVar i) (tCons tc tNil)) σ H Q :=
  (ya_is2 (y_vI g1) hc) H (Ex.refl H) _ fun vs H2 e2 ev => ⟨s, N, m, by rw [ev]; rfl, hs.ex e2, hN, m0, m1, fun v t H3 h1 h2 x3 s3 => k v t H3 h1 h2 ((Ex.xs e2).trans x3) s3⟩
theorem d_lot {σ : L2.St} {H : Hp} {i j l : Nat} {s : Addr} {N : Nat} {m mk : Int} {Q : VK} (g1 : σ[i]? = some (some (.ref s))) (g2 : σ[j]? = some (some (.int m))) (g3 : σ[l]? = some (some (.int mk))) (hs : Src s H N) (hN : N ≤ 80000) (m0 : 0 ≤ m) (m1 : m.natAbs < 2 ^ 190) (k0 : 0 < mk) (k1 : mk ≤ 20)
    (k : ∀ v zs H', IsPs zs v H' → Pic zs → (∀ z ∈ zs, Sz 200 z) → Xs s H H' → Src s H' (N + 804) → Q v H') : tCall sp_law_lot [] E0 (tCons (tVar i) (tCons (tVar j) (tCons (tVar l) tNil))) σ H Q := ⟨_, g1, _, g2, _, g3, s, N, m, mk, rfl, hs, hN, m0, m1, k0, k1, k⟩
theorem d_right {σ : L2.St} {H : Hp} {i j : Nat} {te : TE} {v : V} {s : Addr} {Q : VK} (g1 : σ[i]? = some (some (.ref s))) (g2 : σ[j]? = some (some v)) (h : te σ H fun u H' => sp_law_right [.ref s, v, u] H' Q E0) : tCall sp_law_right [] E0 (tCons (tVar i) (tCons (tVar j) (tCons te tNil))) σ H Q := ⟨_, g1, _, g2, h⟩
abbrev g36 (i : Nat) : Px := ((i : Int) / 6, (i : Int) % 6)
theorem pic36 : Pic ((List.range 36).map g36) := ⟨by decide +kernel, by decide +kernel⟩
theorem turn36 : Turn (4, 1, 0) := ⟨by decide, by decide, by decide, by decide, by decide, by decide, by decide +kernel⟩
theorem dp_ints {H : Hp} : ∀ ns : List Int, DpAll K H (ns.map V.int) (ns.map PyData.int)
  | [] => .nil
  | i :: ns => .cons (.int i) (dp_ints ns)
theorem ints_lay : ∀ l : List Int, PyData.canLayAll0 (l.map PyData.int) = true
  | [] => by simp [PyData.canLayAll0]
  | z :: l => by rw [List.map_cons, PyData.canLayAll0, ints_lay l]; simp [PyData.canLay0]
theorem ints_depth : ∀ l : List Int, PyData.depthAll (l.map PyData.int) = 0
  | [] => by simp [PyData.depthAll]
  | z :: l => by rw [List.map_cons, PyData.depthAll, ints_depth l]; simp [PyData.depth]
theorem ints_shaped (l : List Int) : SeqAt.shaped (.list (l.map PyData.int)) = true := by
  unfold SeqAt.shaped
  rw [show (PyData.list (l.map PyData.int)).canLay0 = PyData.canLayAll0 (l.map PyData.int) by rw [PyData.canLay0], ints_lay, show (PyData.list (l.map PyData.int)).depth = PyData.depthAll (l.map PyData.int) + 1 by rw [PyData.depth], ints_depth]
  rfl
theorem oklaw {f : Addr} {fd : FuncData} (T : Bl mg) (F : FunD K "law" "law" (defArgs slaw) (defBody slaw) (defScope slaw) [] [] f fd) (G_law_source : Ok1 P w K mg base 1 "_law_source" P_law_source sp_law_source) (G_law_spin : Ok1 P w K mg base 2 "_law_spin" P_law_spin sp_law_spin) (G_law_draw : Ok1 P w K mg base 1 "_law_draw" P_law_draw sp_law_draw) (G_law_right : Ok1 P w K mg base 8 "_law_right" P_law_right sp_law_right) (G_law_lot : Ok1 P w K mg base 3 "_law_lot" P_law_lot sp_law_lot) : FnOk P w K mg base CX0 9 f fd Plaw (splaw K) := by
  refine F.ok (k := 8) sclaw lenlaw fun cdv A outer s0 H vs Q E hr pre => nox_of ⟨_, (pss_cons (ps_for PassesOwn.never (by rfl) (pi_enum (by rfl) T.m_enumerate (pa_cons (pe_slice sl_list (pe_op (op_catS) (pv 0) (pe_lst (pa_cons pe_int pa_nil))) po_none (po_some (pe_callB (call_max2 rfl) (by rfl) T.m_max (by decide +kernel) (pa_cons pe_int (pa_cons (pe_callB (call_min2 rfl) (by rfl) T.m_min (by decide +kernel) (pa_cons (pe_callB call_len_seq (by rfl) T.m_len (by decide +kernel) (pa_cons (pv 0) pa_nil)) (pa_cons pe_int pa_nil))) pa_nil))))) pa_nil)) (pg_tup (by rfl) (pgs_cons (pg_name (i := 1) sclaw.nd rfl (Or.inl rfl)) (pgs_cons (pg_name (i := 2) sclaw.nd rfl (Or.inl rfl)) pgs_nil))) (pss_cons (ps_set (i := 3) sclaw.nd rfl (Or.inl rfl) (pe_fn G_law_source (hr.mono (by decide)) (by rfl) (pa_cons (pv 2) (pa_cons (pv 1) pa_nil))))
      (pss_one (ps_for PassesOwn.never (by rfl) (pi_range1 (by rfl) T.m_range (pa_cons pe_int pa_nil)) (pg_name (i := 4) sclaw.nd rfl (Or.inl rfl)) (pss_cons (ps_set (i := 5) sclaw.nd rfl (Or.inl rfl) (pe_fn G_law_spin (hr.mono (by decide)) (by rfl) (pa_cons (pv 3) (pa_cons (pe_ix ix_list (pe_lst (pa_cons pe_int (pa_cons pe_int (pa_cons (pe_op op_powW pe_int pe_int) pa_nil)))) (pv 4) (fun _ _ => rfl)) pa_nil))))
      (pss_cons (ps_set (i := 6) sclaw.nd rfl (Or.inl rfl) (pe_ix ix_list (pe_lst (pa_cons pe_int (pa_cons (pe_op op_fdivW (pe_op op_powW pe_int pe_int) pe_int) pa_nil))) (pe_fn G_law_draw (hr.mono (by decide)) (by rfl) (pa_cons (pv 3) (pa_cons pe_int pa_nil))) (fun _ _ => rfl)))
      (pss_cons (ps_set (i := 7) sclaw.nd rfl (Or.inl rfl) (pe_ifExp (PW.pt (pw_and (pt_cmpR op_eq (pv 1) pe_int (nomark _)) (pw_and (pt_cmpR op_eq (pv 4) pe_int (nomark _)) (pw_and1 (pt_cmpR (op_neD hr.units) (pv 0) (pe_lst pa_nil) (nomark _)))))) pe_int pe_int))
      (pss_one (ps_if (pt_not (pt_val (pe_fn G_law_right (hr.mono (by decide)) (by rfl) (pa_cons (pv 3) (pa_cons (pv 5) (pa_cons (pe_fn G_law_lot (hr.mono (by decide)) (by rfl) (pa_cons (pv 3) (pa_cons (pv 6) (pa_cons (pv 7) pa_nil)))) pa_nil)))))) (pss_one (ps_ret pe_bl)) pss_nil)))))))))
      (pss_one (ps_ret (pe_fn G_law_right (hr.mono (by decide)) (by rfl) (pa_cons (pe_fn G_law_source (hr.mono (by decide)) (by rfl) (pa_cons pe_int (pa_cons pe_int pa_nil))) (pa_cons (pe_tup (pa_cons pe_int (pa_cons pe_int (pa_cons pe_int pa_nil)))) (pa_cons (pe_lc (own := [("_law_k", 1)]) (by rfl) sclaw.nd (pi_range1 (by rfl) T.m_range (pa_cons pe_int pa_nil)) (blkOk_by (own := [("_law_k", 1)]) (N := Nlaw) (sc := defScope slaw) (by decide +kernel)) (fun _ _ _ _ _ => (pg_name (i := 1) sclaw.nd rfl (Or.inl rfl))) (fun _ _ _ _ _ => pts_nil) (fun _ _ _ _ _ => (pe_tup (pa_cons (pe_op op_fdivW (pe_callTy call_int1 (by rfl) T.m_int (by decide +kernel) (pa_cons (pv 1) pa_nil)) pe_int) (pa_cons (pe_op op_mod (pe_callTy call_int1 (by rfl) T.m_int (by decide +kernel) (pa_cons (pv 1) pa_nil)) pe_int) pa_nil))))) pa_nil))))))), ?_⟩
  obtain ⟨a, ns, rfl, hS, hl, k⟩ := pre
  obtain ⟨mm, hm⟩ : ∃ mm : Nat, (if (if (6 : Int) < ((ns.map V.int).length : Int) then 6 else ((ns.map V.int).length : Int)) > 1 then (if (6 : Int) < ((ns.map V.int).length : Int) then 6 else ((ns.map V.int).length : Int)) else 1) = (mm : Int) := ⟨_, (Int.toNat_of_nonneg (by split <;> split <;> omega)).symm⟩
  have mm6 : mm ≤ 6 := by
    split at hm <;> split at hm <;> omega
  have mml : mm ≤ (ns.map V.int ++ [V.int 0]).length := by
    rw [List.length_append]
    have : [V.int 0].length = 1 := rfl
    split at hm <;> split at hm <;> omega
  have sl := y_slL (K := K) (σ := L2.start Nlaw [.ref a]) (H := H) (tl := tNoPart) (lo := none) (hi := some (mm : Int)) (th := tPart (tCB rMax2 (tCons (tC (.int 1)) (tCons (tCB (fun xs H Q => ∃ i j, xs = [.int i, .int j] ∧ Q (.int (if j < i then j else i)) H) (tCons (tCB (rLenS K) (tCons (tVar 0) tNil)) (tCons (tC (.int 6)) tNil))) tNil)))) (ta := tOp (rCatS K) (tVar 0) (tLst (tCons (tC (.int 0)) tNil))) (xs := ns.map V.int ++ [V.int 0])
    (y_op (Pa := Is (.ref a)) (Pb := IsLs [.int 0]) mono_is (y_vI rfl) (y_lst' (ya_is1 y_c) (by show 1 ≤ 1000; decide)) fun x y H1 e1 hx ⟨b, eb, hb⟩ Q q => ⟨a, b, ns.map V.int, [.int 0], hx, eb, ex_l e1 hS, sq_of hb, sz_of (by rw [List.length_map]; show ns.length + 1 ≤ 100000; omega), fun p hp => q _ _ (Ex.new hp) ⟨p, rfl, upd_same⟩⟩) eo_none (eo_some (by
      rw [← hm]
      exact ev_of (y_max y_c (y_min (y_cb (ya1 (y_vI rfl)) fun vs H1 e1 ⟨v, ev, hv⟩ Q q => ⟨a, ns.map V.int, by rw [ev, show v = _ from hv], .inl (ex_l e1 hS), q _ H1 (Ex.refl H1) rfl⟩) y_c))))
  rw [cut_hi _ _ mml] at sl
  refine q_forEY (D := { nx := fun _ H' => Q .non H', rt := Q }) sl (fun i σ' H' => ∃ s1 s2 s3 s4 s5 s6 s7, σ' = [some (.ref a), s1, s2, s3, s4, s5, s6, s7] ∧ SqL K H' a (ns.map V.int)) (fun H1 e1 => ⟨_, _, _, _, _, _, _, rfl, ex_l e1 hS⟩) ?_ ?_
  · rintro H1 e1 i x σ' H2 T e2 hi ⟨s1, s2, s3, s4, s5, s6, s7, rfl, _⟩ hT
    have i6 : i < 6 := by
      have := (List.getElem?_eq_some_iff.mp hi).1
      rw [List.length_take] at this
      omega
    obtain ⟨en, rfl⟩ : ∃ en : Int, x = .int en := by
      have := List.mem_of_mem_take (List.mem_of_getElem? hi)
      rcases List.mem_append.mp this with h | h
      · obtain ⟨en, _, rfl⟩ := List.mem_map.mp h
        exact ⟨en, rfl⟩
      · exact ⟨0, List.mem_singleton.mp h⟩
    have e2' : Ex H1 (upd H2 T (.tup [.int (i : Nat), .int en])) := e2.trans (Ex.new hT)
    refine ⟨T, [.int (i : Nat), .int en], rfl, st_of upd_same, rfl, _, [.int en], rfl, _, [], rfl, rfl, ?_⟩
    refine d_source (k := i) rfl rfl (by omega) fun s H3 e3 hn hs => ?_
    have hn1 : H1 s = none := fresh_back e2' hn
    have x1 : ∀ {H4 H5 : Hp}, Ex H1 H4 → Xs s H4 H5 → Ex H1 H5 := fun e x b o h => x b o (by rintro rfl; rw [hn1] at h; cases h) (e b o h)
    refine s_forR1 (n := 3) (ea_of (ya_is1 y_c)) (by decide) (fun j σ' H' => ∃ s4 s5 s6 s7, σ' = [some (.ref a), some (.int (i : Nat)), some (.int en), some (.ref s), s4, s5, s6, s7] ∧ Ex H1 H' ∧ Src s H' (814 * j)) (fun H4 e4 => ⟨_, _, _, _, rfl, (e2'.trans e3).trans e4, hs.ex e4⟩) ?_ ?_
    · rintro j σ' H4 hj ⟨s4, s5, s6, s7, rfl, e4, sr⟩
      obtain ⟨m, hm1, hm2, hm3⟩ : ∃ m : Int, [V.int 12, V.int 30, V.int (10 ^ (15 : Int).toNat)][j]? = some (.int m) ∧ 0 < m ∧ m ≤ 1000000000000000 := by
        match j, hj with
        | 0, _ => exact ⟨12, rfl, by decide, by decide⟩
        | 1, _ => exact ⟨30, rfl, by decide, by decide⟩
        | 2, _ => exact ⟨10 ^ (15 : Int).toNat, rfl, by decide +kernel, by decide +kernel⟩
        | j + 3, hj => omega
      refine d_spin (m := m) rfl sr (y_ixL (xs := [V.int 12, V.int 30, V.int (10 ^ (15 : Int).toNat)]) (y_lst' (ya_is3 y_c y_c (y_pw (pw10 15 (by decide)) y_c y_c)) (by show 3 ≤ 1000; decide)) (y_vI rfl) (TPy.atI_nat hm1)) (by omega) hm2 hm3 fun tv' t H5 ht1 ht x5 s5' => ?_
      refine zq_asg (P := IsR fun d => 0 ≤ d ∧ d.natAbs < 2 ^ 190) (zv_ixD (n := 2) (xs := [V.int 9, V.int (10 ^ (44 : Int).toNat / 2)]) (fun H => y_lst' (ya_is2 y_c (y_dv 3 (y_pw (pw10 44 (by decide)) y_c y_c) y_c (by decide) (by decide))) (by show 2 ≤ 1000; decide)) (zv_draw rfl (fun _ => y_c) (by decide) (by decide) (by omega)) (Nat.le_refl _) (by show 2 ≠ 3; decide) fun v hv H => ?_) s5' ?_
      · rcases List.mem_cons.mp hv with e | hv
        · exact ⟨9, e, by decide, by decide⟩
        · exact ⟨10 ^ (44 : Int).toNat / 2, List.mem_singleton.mp hv, by decide +kernel, by decide +kernel⟩
      rintro _ H6 ⟨wide, rfl, w0, w1⟩ x6 s6'
      have e6 : Ex H1 H6 := x1 e4 (x5.trans x6)
      refine qy_asg (P := IsR fun d => 0 < d ∧ d ≤ 20) (y_if (et_and (yt_test (y_eq rfl (y_vI rfl) y_c)) fun _ => et_and (yt_test (y_eq rfl (y_vI rfl) y_c)) fun _ => yt_test (b := !PyData.eqv (.list (ns.map PyData.int)) (.list [])) (y_op (Pa := Is (.ref a)) (Pb := IsPs []) mono_is (y_vI rfl) y_nil fun x y H7 e7 hx hy Q q => ?_)) (fun _ => y_c.imp fun v _ _ h => ⟨20, h, by decide, by decide⟩) (fun _ => y_c.imp fun v _ _ h => ⟨7, h, by decide, by decide⟩)) ?_
      · rw [show x = .ref a from hx]
        exact ⟨_, _, .lst (ex_l ((e1.trans e6).trans e7) hS) (dp_ints ns), dp_pxs hy, ints_shaped ns, pdl_shaped [], q _ H7 (Ex.refl H7) rfl⟩
      rintro _ H7 e7 ⟨mk, rfl, mk0, mk1⟩
      refine d_right rfl rfl (d_lot rfl rfl rfl (s6'.ex e7) (by omega) w0 w1 mk0 mk1 fun uv zs H8 hzs hp hz x8 s8 => ?_)
      have ht8 : IsU (tvT t) tv' H8 := ht1.tk ((s5'.tk x6).trans ((Ex.tk e7).trans ((s6'.ex e7).tk x8)))
      refine ⟨s, _, t, zs, tv', uv, rfl, s8, by omega, ht8, ht, hzs, hp, hz, fun H9 x9 s9 => ⟨true, rfl, ?_⟩⟩
      exact ⟨_, _, _, _, rfl, x1 (x1 (e6.trans e7) x8) x9, s9.mono (by omega)⟩
    · rintro σ' H4 ⟨s4, s5, s6, s7, rfl, e4, _⟩
      exact ⟨e4, _, _, _, _, _, _, _, rfl, ex_l (e1.trans e4) hS⟩
  · rintro σ' H1 e1 ⟨s1, s2, s3, s4, s5, s6, s7, rfl, _⟩
    refine ⟨5, 0, rfl, by decide, fun s H2 e2 hn hs => ?_⟩
    refine (y_tup3 (x := .int 4) (y := .int 1) (z := .int 0) y_c y_c y_c) H2 (Ex.refl H2) _ fun tv' H3 e3 ht => ?_
    refine (y_lcR (ta := tNil) (n := 36) (fun _ => true) (fun i => IsP (g36 i)) (fun _ => mono_u) (fun _ => loc_u) y_c (by decide) (fun _ => rfl) (fun _ _ _ _ => et_yes) fun i H4 e4 hi _ => y_tup2 (y_dv 10 (y_int (y_vI rfl)) y_c (by decide) (by decide)) (y_md (by decide) (y_int (y_vI rfl)) y_c)) H3 (Ex.refl H3) _ fun uv H4 e4 ⟨p, ys, ep, hy, hsel⟩ => ?_
    have hps := sel_pxs hsel
    rw [filter_yes] at hps
    refine ⟨s, 0, (4, 1, 0), (List.range 36).map g36, tv', uv, rfl, hs.ex (e3.trans e4), by decide, ht.mo e4, turn36, ⟨p, ys, ep, hy, hps⟩, pic36, fun z hz => ?_, fun H5 _ _ => k H5⟩
    obtain ⟨i, hi, rfl⟩ := List.mem_map.mp hz
    have := List.mem_range.mp hi
    have big : 40 ≤ 2 ^ 200 := by decide
    exact ⟨Nat.le_trans (show ((i : Int) / 6).natAbs ≤ 40 by omega) big, Nat.le_trans (show ((i : Int) % 6).natAbs ≤ 40 by omega) big⟩
end
end TPx

/-! The head: what stands behind the top, by names; the run of the top. -/
namespace TPx
open PySem PySem.Spec PyProof.Rows L2
def dis_integer : He.DefD := ⟨("is_integer", none), "is_integer", "is_integer", defArgs sis_integer, defBody sis_integer, defScope sis_integer, [], []⟩
def dare_integers : He.DefD := ⟨("are_integers", none), "are_integers", "are_integers", defArgs sare_integers, defBody sare_integers, defScope sare_integers, [], []⟩
def dcommon : He.DefD := ⟨("common", none), "common", "common", defArgs scommon, defBody scommon, defScope scommon, [], []⟩
def dis_pixel : He.DefD := ⟨("is_pixel", none), "is_pixel", "is_pixel", defArgs sis_pixel, defBody sis_pixel, defScope sis_pixel, [], []⟩
def dis_turn : He.DefD := ⟨("is_turn", none), "is_turn", "is_turn", defArgs sis_turn, defBody sis_turn, defScope sis_turn, [], []⟩
def dneed_turn : He.DefD := ⟨("need_turn", none), "need_turn", "need_turn", defArgs sneed_turn, defBody sneed_turn, defScope sneed_turn, [], []⟩
def dneed_pixel : He.DefD := ⟨("need_pixel", none), "need_pixel", "need_pixel", defArgs sneed_pixel, defBody sneed_pixel, defScope sneed_pixel, [], []⟩
def dneed_pixels : He.DefD := ⟨("need_pixels", none), "need_pixels", "need_pixels", defArgs sneed_pixels, defBody sneed_pixels, defScope sneed_pixels, [], []⟩
def dneed_turn_and_pixel : He.DefD := ⟨("need_turn_and_pixel", none), "need_turn_and_pixel", "need_turn_and_pixel", defArgs sneed_turn_and_pixel, defBody sneed_turn_and_pixel, defScope sneed_turn_and_pixel, [], []⟩
def dsize_of : He.DefD := ⟨("size_of", none), "size_of", "size_of", defArgs ssize_of, defBody ssize_of, defScope ssize_of, [], []⟩
def dplain_legs : He.DefD := ⟨("plain_legs", none), "plain_legs", "plain_legs", defArgs splain_legs, defBody splain_legs, defScope splain_legs, [], []⟩
def dquartered : He.DefD := ⟨("quartered", none), "quartered", "quartered", defArgs squartered, defBody squartered, defScope squartered, [], []⟩
def dnearest : He.DefD := ⟨("nearest", none), "nearest", "nearest", defArgs snearest, defBody snearest, defScope snearest, [], []⟩
def dplain_place : He.DefD := ⟨("plain_place", none), "plain_place", "plain_place", defArgs splain_place, defBody splain_place, defScope splain_place, [], []⟩
def dplain_image : He.DefD := ⟨("plain_image", none), "plain_image", "plain_image", defArgs splain_image, defBody splain_image, defScope splain_image, [], []⟩
def dimage_in : He.DefD := ⟨("image_in", none), "image_in", "image_in", defArgs simage_in, defBody simage_in, defScope simage_in, [], []⟩
def dback_of : He.DefD := ⟨("back_of", none), "back_of", "back_of", defArgs sback_of, defBody sback_of, defScope sback_of, [], []⟩
def dneighbours : He.DefD := ⟨("neighbours", none), "neighbours", "neighbours", defArgs sneighbours, defBody sneighbours, defScope sneighbours, [], []⟩
def dimage : He.DefD := ⟨("image", none), "image", "image", defArgs simage, defBody simage, defScope simage, [], []⟩
def dstepped : He.DefD := ⟨("stepped", none), "stepped", "stepped", defArgs sstepped, defBody sstepped, defScope sstepped, [], []⟩
def dafter_steps : He.DefD := ⟨("after_steps", none), "after_steps", "after_steps", defArgs safter_steps, defBody safter_steps, defScope safter_steps, [], []⟩
def dtimes_u : He.DefD := ⟨("times_u", none), "times_u", "times_u", defArgs stimes_u, defBody stimes_u, defScope stimes_u, [], []⟩
def dtimes_v : He.DefD := ⟨("times_v", none), "times_v", "times_v", defArgs stimes_v, defBody stimes_v, defScope stimes_v, [], []⟩
def drest_in : He.DefD := ⟨("rest_in", none), "rest_in", "rest_in", defArgs srest_in, defBody srest_in, defScope srest_in, [], []⟩
def dwithin : He.DefD := ⟨("within", none), "within", "within", defArgs swithin, defBody swithin, defScope swithin, [], []⟩
def dleads_back : He.DefD := ⟨("leads_back", none), "leads_back", "leads_back", defArgs sleads_back, defBody sleads_back, defScope sleads_back, [], []⟩
def dneed_order : He.DefD := ⟨("need_order", none), "need_order", "need_order", defArgs sneed_order, defBody sneed_order, defScope sneed_order, [], []⟩
def dneed_sheared : He.DefD := ⟨("need_sheared", none), "need_sheared", "need_sheared", defArgs sneed_sheared, defBody sneed_sheared, defScope sneed_sheared, [], []⟩
def dchain_in : He.DefD := ⟨("chain_in", none), "chain_in", "chain_in", defArgs schain_in, defBody schain_in, defScope schain_in, [], []⟩
def dshear_chain : He.DefD := ⟨("shear_chain", none), "shear_chain", "shear_chain", defArgs sshear_chain, defBody sshear_chain, defScope sshear_chain, [], []⟩
def dsheared : He.DefD := ⟨("sheared", none), "sheared", "sheared", defArgs ssheared, defBody ssheared, defScope ssheared, [], []⟩
def dsources_in : He.DefD := ⟨("sources_in", none), "sources_in", "sources_in", defArgs ssources_in, defBody ssources_in, defScope ssources_in, [], []⟩
def dmate_in : He.DefD := ⟨("mate_in", none), "mate_in", "mate_in", defArgs smate_in, defBody smate_in, defScope smate_in, [], []⟩
def dcame_from : He.DefD := ⟨("came_from", none), "came_from", "came_from", defArgs scame_from, defBody scame_from, defScope scame_from, [], []⟩
def dis_bare : He.DefD := ⟨("is_bare", none), "is_bare", "is_bare", defArgs sis_bare, defBody sis_bare, defScope sis_bare, [], []⟩
def dcomes_back : He.DefD := ⟨("comes_back", none), "comes_back", "comes_back", defArgs scomes_back, defBody scomes_back, defScope scomes_back, [], []⟩
def dmeeting : He.DefD := ⟨("meeting", none), "meeting", "meeting", defArgs smeeting, defBody smeeting, defScope smeeting, [], []⟩
def dneed_turn_and_picture : He.DefD := ⟨("need_turn_and_picture", none), "need_turn_and_picture", "need_turn_and_picture", defArgs sneed_turn_and_picture, defBody sneed_turn_and_picture, defScope sneed_turn_and_picture, [], []⟩
def dimages_of : He.DefD := ⟨("images_of", none), "images_of", "images_of", defArgs simages_of, defBody simages_of, defScope simages_of, [], []⟩
def dis_picture : He.DefD := ⟨("is_picture", none), "is_picture", "is_picture", defArgs sis_picture, defBody sis_picture, defScope sis_picture, [], []⟩
def dturned_picture : He.DefD := ⟨("turned_picture", none), "turned_picture", "turned_picture", defArgs sturned_picture, defBody sturned_picture, defScope sturned_picture, [], []⟩
def dlost_number : He.DefD := ⟨("lost_number", none), "lost_number", "lost_number", defArgs slost_number, defBody slost_number, defScope slost_number, [], []⟩
def dmeetings_in : He.DefD := ⟨("meetings_in", none), "meetings_in", "meetings_in", defArgs smeetings_in, defBody smeetings_in, defScope smeetings_in, [], []⟩
def dgaps_in : He.DefD := ⟨("gaps_in", none), "gaps_in", "gaps_in", defArgs sgaps_in, defBody sgaps_in, defScope sgaps_in, [], []⟩
def dthere_and_back : He.DefD := ⟨("there_and_back", none), "there_and_back", "there_and_back", defArgs sthere_and_back, defBody sthere_and_back, defScope sthere_and_back, [], []⟩
def dsheared_picture : He.DefD := ⟨("sheared_picture", none), "sheared_picture", "sheared_picture", defArgs ssheared_picture, defBody ssheared_picture, defScope ssheared_picture, [], []⟩
def d_law_source : He.DefD := ⟨("_law_source", none), "_law_source", "_law_source", defArgs s_law_source, defBody s_law_source, defScope s_law_source, [], []⟩
def d_law_draw : He.DefD := ⟨("_law_draw", none), "_law_draw", "_law_draw", defArgs s_law_draw, defBody s_law_draw, defScope s_law_draw, [], []⟩
def d_law_common : He.DefD := ⟨("_law_common", none), "_law_common", "_law_common", defArgs s_law_common, defBody s_law_common, defScope s_law_common, [], []⟩
def d_law_spin : He.DefD := ⟨("_law_spin", none), "_law_spin", "_law_spin", defArgs s_law_spin, defBody s_law_spin, defScope s_law_spin, [], []⟩
def d_law_dot : He.DefD := ⟨("_law_dot", none), "_law_dot", "_law_dot", defArgs s_law_dot, defBody s_law_dot, defScope s_law_dot, [], []⟩
def d_law_lot : He.DefD := ⟨("_law_lot", none), "_law_lot", "_law_lot", defArgs s_law_lot, defBody s_law_lot, defScope s_law_lot, [], []⟩
def d_law_there : He.DefD := ⟨("_law_there", none), "_law_there", "_law_there", defArgs s_law_there, defBody s_law_there, defScope s_law_there, [], []⟩
def d_law_images_right : He.DefD := ⟨("_law_images_right", none), "_law_images_right", "_law_images_right", defArgs s_law_images_right, defBody s_law_images_right, defScope s_law_images_right, [], []⟩
def d_law_right : He.DefD := ⟨("_law_right", none), "_law_right", "_law_right", defArgs s_law_right, defBody s_law_right, defScope s_law_right, [], []⟩
def dlaw : He.DefD := ⟨("law", none), "law", "law", defArgs slaw, defBody slaw, defScope slaw, [], []⟩
def fn0 : List He.DefD := [dis_integer, dare_integers, dcommon, dis_pixel, dis_turn, dneed_turn, dneed_pixel, dneed_pixels, dneed_turn_and_pixel, dsize_of, dplain_legs, dquartered, dnearest, dplain_place, dplain_image, dimage_in, dback_of, dneighbours, dimage, dstepped, dafter_steps, dtimes_u, dtimes_v, drest_in, dwithin, dleads_back, dneed_order, dneed_sheared, dchain_in, dshear_chain]
def fn1 : List He.DefD := [dsheared, dsources_in, dmate_in, dcame_from, dis_bare, dcomes_back, dmeeting, dneed_turn_and_picture, dimages_of, dis_picture, dturned_picture, dlost_number, dmeetings_in, dgaps_in, dthere_and_back, dsheared_picture, d_law_source, d_law_draw, d_law_common, d_law_spin, d_law_dot, d_law_lot, d_law_there, d_law_images_right, d_law_right, dlaw]
def fn : List He.DefD := fn0 ++ fn1
def fa0 : List He.Fa := [.glo "is_integer", .glo "are_integers", .glo "common", .glo "is_pixel", .glo "is_turn", .glo "need_turn", .glo "need_pixel", .glo "need_pixels", .glo "need_turn_and_pixel", .glo "size_of", .glo "plain_legs", .glo "quartered", .glo "nearest", .glo "plain_place", .glo "plain_image", .glo "image_in", .glo "back_of", .glo "neighbours", .glo "image", .glo "stepped", .glo "after_steps", .glo "times_u", .glo "times_v", .glo "rest_in", .glo "within", .glo "leads_back", .glo "need_order", .glo "need_sheared", .glo "chain_in", .glo "shear_chain"]
def fa1 : List He.Fa := [.glo "sheared", .glo "sources_in", .glo "mate_in", .glo "came_from", .glo "is_bare", .glo "comes_back", .glo "meeting", .glo "need_turn_and_picture", .glo "images_of", .glo "is_picture", .glo "turned_picture", .glo "lost_number", .glo "meetings_in", .glo "gaps_in", .glo "there_and_back", .glo "sheared_picture", .glo "_law_source", .glo "_law_draw", .glo "_law_common", .glo "_law_spin", .glo "_law_dot", .glo "_law_lot", .glo "_law_there", .glo "_law_images_right", .glo "_law_right", .glo "law", .free "isinstance", .free "int", .free "bool", .free "tuple"]
def fa2 : List He.Fa := [.free "len", .free "all", .free "abs", .free "range", .free "list", .free "enumerate", .free "sorted", .free "zip", .free "str", .free "max", .free "min", .free "set", .int "MOST_P" 1000000000000000, .int "MOST_PIXELS" 400]
def fa : List He.Fa := fa0 ++ fa1 ++ fa2
def loose0 : List PySem.Str := ["TurnError", "InvalidTurn", "InvalidPixel", "InvalidOrder", "InvalidPixels", "MOST_P", "MOST_PIXELS", "is_integer", "are_integers", "common", "is_pixel", "is_turn", "need_turn", "need_pixel", "need_pixels", "need_turn_and_pixel", "size_of", "plain_legs", "quartered", "nearest", "plain_place", "plain_image", "image_in", "back_of", "neighbours", "image", "stepped", "after_steps", "times_u", "times_v"]
def loose1 : List PySem.Str := ["rest_in", "within", "leads_back", "need_order", "need_sheared", "chain_in", "shear_chain", "sheared", "sources_in", "mate_in", "came_from", "is_bare", "comes_back", "meeting", "need_turn_and_picture", "images_of", "is_picture", "turned_picture", "lost_number", "meetings_in", "gaps_in", "there_and_back", "sheared_picture", "_law_source", "_law_draw", "_law_common", "_law_spin", "_law_dot", "_law_lot", "_law_there"]
def loose2 : List PySem.Str := ["_law_images_right", "_law_right"]
def loose : List PySem.Str := loose0 ++ loose1 ++ loose2
-- law at 70
abbrev R : PySem.W.OpenRow := PySem.W.OpenLaw.row PySem.Challenge.rw_turnedpixels_k84_whole_pictures_by_sourc
abbrev hk : PySem.W.Hook := He.hookD 4 fa fn
def ob (s : PySem.W.SharedT) : He.AlD := He.obsDG 4 fa fn (HandSHeadRun.getT s)
theorem ob_eq (s : PySem.W.SharedT) : ob s = hk.obs s.abs := He.obsDG_eq (HandSHeadRun.getT_eq s)
theorem run (w : World) : HandSHeadRun.RunEq R (PySem.W.view R.prog [70]) hk ob 6000 loose w := by
  intro os
  kernel_rfl
end TPx

/-! Join: the head's facts, each def's promise, the law. -/
namespace TPx
open PySem PySem.Spec PyProof.Rows L2 TPy Evl
open TPs hiding Px
theorem df_of {K : PySem.W.Frag} {mg : Str → Option Value} {x : Str} {st : Stmt} {f : Addr} (h : ∃ fd, FunD K x x (defArgs st) (defBody st) (defScope st) [] [] f fd) (g : mg x = some (.ref f)) : Df K mg x st := let ⟨fd, F⟩ := h; ⟨f, fd, F, g⟩
theorem facts {P : Program} {w : World} {K : PySem.W.Frag} {h : Heap} {mg : Str → Option Value} {f : Addr} (X : K.In h) (G : h.Ns mainGlobals mg) (hfa : mg ("law" : Str) = some (.ref f)) (c : He.SaysD fa fn K) :
    ∃ fd : FuncData, (∀ (s : Shared) (v : Value), BindsTo s fd ⟨[v], []⟩ [("_law_script", v)]) ∧ ∀ base : Heap, K.In base → base.Ns mainGlobals mg → FnOk P w K mg base CX0 9 f fd ["_law_script"] (splaw K) := by
  have T : Bl mg := ⟨He.free_ok X G (c.fact 56 (f := .free "isinstance") rfl), He.free_ok X G (c.fact 57 (f := .free "int") rfl), He.free_ok X G (c.fact 58 (f := .free "bool") rfl), He.free_ok X G (c.fact 59 (f := .free "tuple") rfl), He.free_ok X G (c.fact 60 (f := .free "len") rfl), He.free_ok X G (c.fact 61 (f := .free "all") rfl), He.free_ok X G (c.fact 62 (f := .free "abs") rfl), He.free_ok X G (c.fact 63 (f := .free "range") rfl), He.free_ok X G (c.fact 64 (f := .free "list") rfl), He.free_ok X G (c.fact 65 (f := .free "enumerate") rfl), He.free_ok X G (c.fact 66 (f := .free "sorted") rfl), He.free_ok X G (c.fact 67 (f := .free "zip") rfl), He.free_ok X G (c.fact 68 (f := .free "str") rfl), He.free_ok X G (c.fact 69 (f := .free "max") rfl), He.free_ok X G (c.fact 70 (f := .free "min") rfl), He.free_ok X G (c.fact 71 (f := .free "set") rfl), He.int_ok X G (c.fact 72 (f := .int "MOST_P" 1000000000000000) rfl), He.int_ok X G (c.fact 73 (f := .int "MOST_PIXELS" 400) rfl)⟩
  have Dis_integer : Df K mg "is_integer" sis_integer := df_of (c.def_ 0 (d := dis_integer) rfl) (He.glo_ok X G (c.fact 0 (f := .glo "is_integer") rfl))
  have Dare_integers : Df K mg "are_integers" sare_integers := df_of (c.def_ 1 (d := dare_integers) rfl) (He.glo_ok X G (c.fact 1 (f := .glo "are_integers") rfl))
  have Dcommon : Df K mg "common" scommon := df_of (c.def_ 2 (d := dcommon) rfl) (He.glo_ok X G (c.fact 2 (f := .glo "common") rfl))
  have Dis_pixel : Df K mg "is_pixel" sis_pixel := df_of (c.def_ 3 (d := dis_pixel) rfl) (He.glo_ok X G (c.fact 3 (f := .glo "is_pixel") rfl))
  have Dis_turn : Df K mg "is_turn" sis_turn := df_of (c.def_ 4 (d := dis_turn) rfl) (He.glo_ok X G (c.fact 4 (f := .glo "is_turn") rfl))
  have Dneed_turn : Df K mg "need_turn" sneed_turn := df_of (c.def_ 5 (d := dneed_turn) rfl) (He.glo_ok X G (c.fact 5 (f := .glo "need_turn") rfl))
  have Dneed_pixel : Df K mg "need_pixel" sneed_pixel := df_of (c.def_ 6 (d := dneed_pixel) rfl) (He.glo_ok X G (c.fact 6 (f := .glo "need_pixel") rfl))
  have Dneed_pixels : Df K mg "need_pixels" sneed_pixels := df_of (c.def_ 7 (d := dneed_pixels) rfl) (He.glo_ok X G (c.fact 7 (f := .glo "need_pixels") rfl))
  have Dneed_turn_and_pixel : Df K mg "need_turn_and_pixel" sneed_turn_and_pixel := df_of (c.def_ 8 (d := dneed_turn_and_pixel) rfl) (He.glo_ok X G (c.fact 8 (f := .glo "need_turn_and_pixel") rfl))
  have Dsize_of : Df K mg "size_of" ssize_of := df_of (c.def_ 9 (d := dsize_of) rfl) (He.glo_ok X G (c.fact 9 (f := .glo "size_of") rfl))
  have Dplain_legs : Df K mg "plain_legs" splain_legs := df_of (c.def_ 10 (d := dplain_legs) rfl) (He.glo_ok X G (c.fact 10 (f := .glo "plain_legs") rfl))
  have Dquartered : Df K mg "quartered" squartered := df_of (c.def_ 11 (d := dquartered) rfl) (He.glo_ok X G (c.fact 11 (f := .glo "quartered") rfl))
  have Dnearest : Df K mg "nearest" snearest := df_of (c.def_ 12 (d := dnearest) rfl) (He.glo_ok X G (c.fact 12 (f := .glo "nearest") rfl))
  have Dplain_place : Df K mg "plain_place" splain_place := df_of (c.def_ 13 (d := dplain_place) rfl) (He.glo_ok X G (c.fact 13 (f := .glo "plain_place") rfl))
  have Dplain_image : Df K mg "plain_image" splain_image := df_of (c.def_ 14 (d := dplain_image) rfl) (He.glo_ok X G (c.fact 14 (f := .glo "plain_image") rfl))
  have Dimage_in : Df K mg "image_in" simage_in := df_of (c.def_ 15 (d := dimage_in) rfl) (He.glo_ok X G (c.fact 15 (f := .glo "image_in") rfl))
  have Dback_of : Df K mg "back_of" sback_of := df_of (c.def_ 16 (d := dback_of) rfl) (He.glo_ok X G (c.fact 16 (f := .glo "back_of") rfl))
  have Dneighbours : Df K mg "neighbours" sneighbours := df_of (c.def_ 17 (d := dneighbours) rfl) (He.glo_ok X G (c.fact 17 (f := .glo "neighbours") rfl))
  have Dimage : Df K mg "image" simage := df_of (c.def_ 18 (d := dimage) rfl) (He.glo_ok X G (c.fact 18 (f := .glo "image") rfl))
  have Dstepped : Df K mg "stepped" sstepped := df_of (c.def_ 19 (d := dstepped) rfl) (He.glo_ok X G (c.fact 19 (f := .glo "stepped") rfl))
  have Dafter_steps : Df K mg "after_steps" safter_steps := df_of (c.def_ 20 (d := dafter_steps) rfl) (He.glo_ok X G (c.fact 20 (f := .glo "after_steps") rfl))
  have Dtimes_u : Df K mg "times_u" stimes_u := df_of (c.def_ 21 (d := dtimes_u) rfl) (He.glo_ok X G (c.fact 21 (f := .glo "times_u") rfl))
  have Dtimes_v : Df K mg "times_v" stimes_v := df_of (c.def_ 22 (d := dtimes_v) rfl) (He.glo_ok X G (c.fact 22 (f := .glo "times_v") rfl))
  have Drest_in : Df K mg "rest_in" srest_in := df_of (c.def_ 23 (d := drest_in) rfl) (He.glo_ok X G (c.fact 23 (f := .glo "rest_in") rfl))
  have Dwithin : Df K mg "within" swithin := df_of (c.def_ 24 (d := dwithin) rfl) (He.glo_ok X G (c.fact 24 (f := .glo "within") rfl))
  have Dleads_back : Df K mg "leads_back" sleads_back := df_of (c.def_ 25 (d := dleads_back) rfl) (He.glo_ok X G (c.fact 25 (f := .glo "leads_back") rfl))
  have Dneed_order : Df K mg "need_order" sneed_order := df_of (c.def_ 26 (d := dneed_order) rfl) (He.glo_ok X G (c.fact 26 (f := .glo "need_order") rfl))
  have Dneed_sheared : Df K mg "need_sheared" sneed_sheared := df_of (c.def_ 27 (d := dneed_sheared) rfl) (He.glo_ok X G (c.fact 27 (f := .glo "need_sheared") rfl))
  have Dchain_in : Df K mg "chain_in" schain_in := df_of (c.def_ 28 (d := dchain_in) rfl) (He.glo_ok X G (c.fact 28 (f := .glo "chain_in") rfl))
  have Dshear_chain : Df K mg "shear_chain" sshear_chain := df_of (c.def_ 29 (d := dshear_chain) rfl) (He.glo_ok X G (c.fact 29 (f := .glo "shear_chain") rfl))
  have Dsheared : Df K mg "sheared" ssheared := df_of (c.def_ 30 (d := dsheared) rfl) (He.glo_ok X G (c.fact 30 (f := .glo "sheared") rfl))
  have Dsources_in : Df K mg "sources_in" ssources_in := df_of (c.def_ 31 (d := dsources_in) rfl) (He.glo_ok X G (c.fact 31 (f := .glo "sources_in") rfl))
  have Dmate_in : Df K mg "mate_in" smate_in := df_of (c.def_ 32 (d := dmate_in) rfl) (He.glo_ok X G (c.fact 32 (f := .glo "mate_in") rfl))
  have Dcame_from : Df K mg "came_from" scame_from := df_of (c.def_ 33 (d := dcame_from) rfl) (He.glo_ok X G (c.fact 33 (f := .glo "came_from") rfl))
  have Dis_bare : Df K mg "is_bare" sis_bare := df_of (c.def_ 34 (d := dis_bare) rfl) (He.glo_ok X G (c.fact 34 (f := .glo "is_bare") rfl))
  have Dcomes_back : Df K mg "comes_back" scomes_back := df_of (c.def_ 35 (d := dcomes_back) rfl) (He.glo_ok X G (c.fact 35 (f := .glo "comes_back") rfl))
  have Dmeeting : Df K mg "meeting" smeeting := df_of (c.def_ 36 (d := dmeeting) rfl) (He.glo_ok X G (c.fact 36 (f := .glo "meeting") rfl))
  have Dneed_turn_and_picture : Df K mg "need_turn_and_picture" sneed_turn_and_picture := df_of (c.def_ 37 (d := dneed_turn_and_picture) rfl) (He.glo_ok X G (c.fact 37 (f := .glo "need_turn_and_picture") rfl))
  have Dimages_of : Df K mg "images_of" simages_of := df_of (c.def_ 38 (d := dimages_of) rfl) (He.glo_ok X G (c.fact 38 (f := .glo "images_of") rfl))
  have Dis_picture : Df K mg "is_picture" sis_picture := df_of (c.def_ 39 (d := dis_picture) rfl) (He.glo_ok X G (c.fact 39 (f := .glo "is_picture") rfl))
  have Dturned_picture : Df K mg "turned_picture" sturned_picture := df_of (c.def_ 40 (d := dturned_picture) rfl) (He.glo_ok X G (c.fact 40 (f := .glo "turned_picture") rfl))
  have Dlost_number : Df K mg "lost_number" slost_number := df_of (c.def_ 41 (d := dlost_number) rfl) (He.glo_ok X G (c.fact 41 (f := .glo "lost_number") rfl))
  have Dmeetings_in : Df K mg "meetings_in" smeetings_in := df_of (c.def_ 42 (d := dmeetings_in) rfl) (He.glo_ok X G (c.fact 42 (f := .glo "meetings_in") rfl))
  have Dgaps_in : Df K mg "gaps_in" sgaps_in := df_of (c.def_ 43 (d := dgaps_in) rfl) (He.glo_ok X G (c.fact 43 (f := .glo "gaps_in") rfl))
  have Dthere_and_back : Df K mg "there_and_back" sthere_and_back := df_of (c.def_ 44 (d := dthere_and_back) rfl) (He.glo_ok X G (c.fact 44 (f := .glo "there_and_back") rfl))
  have Dsheared_picture : Df K mg "sheared_picture" ssheared_picture := df_of (c.def_ 45 (d := dsheared_picture) rfl) (He.glo_ok X G (c.fact 45 (f := .glo "sheared_picture") rfl))
  have D_law_source : Df K mg "_law_source" s_law_source := df_of (c.def_ 46 (d := d_law_source) rfl) (He.glo_ok X G (c.fact 46 (f := .glo "_law_source") rfl))
  have D_law_draw : Df K mg "_law_draw" s_law_draw := df_of (c.def_ 47 (d := d_law_draw) rfl) (He.glo_ok X G (c.fact 47 (f := .glo "_law_draw") rfl))
  have D_law_common : Df K mg "_law_common" s_law_common := df_of (c.def_ 48 (d := d_law_common) rfl) (He.glo_ok X G (c.fact 48 (f := .glo "_law_common") rfl))
  have D_law_spin : Df K mg "_law_spin" s_law_spin := df_of (c.def_ 49 (d := d_law_spin) rfl) (He.glo_ok X G (c.fact 49 (f := .glo "_law_spin") rfl))
  have D_law_dot : Df K mg "_law_dot" s_law_dot := df_of (c.def_ 50 (d := d_law_dot) rfl) (He.glo_ok X G (c.fact 50 (f := .glo "_law_dot") rfl))
  have D_law_lot : Df K mg "_law_lot" s_law_lot := df_of (c.def_ 51 (d := d_law_lot) rfl) (He.glo_ok X G (c.fact 51 (f := .glo "_law_lot") rfl))
  have D_law_there : Df K mg "_law_there" s_law_there := df_of (c.def_ 52 (d := d_law_there) rfl) (He.glo_ok X G (c.fact 52 (f := .glo "_law_there") rfl))
  have D_law_images_right : Df K mg "_law_images_right" s_law_images_right := df_of (c.def_ 53 (d := d_law_images_right) rfl) (He.glo_ok X G (c.fact 53 (f := .glo "_law_images_right") rfl))
  have D_law_right : Df K mg "_law_right" s_law_right := df_of (c.def_ 54 (d := d_law_right) rfl) (He.glo_ok X G (c.fact 54 (f := .glo "_law_right") rfl))
  obtain ⟨fd, F⟩ := c.def_ 55 (d := dlaw) rfl
  have e := hfa.symm.trans (He.glo_ok X G (c.fact 55 (f := .glo "law") rfl))
  cases e
  have b := FunD.bindsA (ps := ["_law_script"]) F fun _ _ _ _ _ _ us hl => match us, hl with | [_], _ => rfl
  refine ⟨fd, fun s v => b s [v] rfl, fun base _ _ => ?_⟩
  have R_law_source : Ok1 P w K mg base 1 "_law_source" P_law_source sp_law_source := ok_law_source T D_law_source 
  have R_law_draw : Ok1 P w K mg base 1 "_law_draw" P_law_draw sp_law_draw := ok_law_draw T D_law_draw 
  have R_law_common : Ok1 P w K mg base 1 "_law_common" P_law_common sp_law_common := ok_law_common T D_law_common 
  have R_law_spin : Ok1 P w K mg base 2 "_law_spin" P_law_spin sp_law_spin := ok_law_spin T D_law_spin R_law_draw R_law_common
  have Ris_integer : Ok1 P w K mg base 1 "is_integer" Pis_integer spis_integer := okis_integer T Dis_integer 
  have Rare_integers : Ok1 P w K mg base 2 "are_integers" Pare_integers spare_integers := okare_integers T Dare_integers Ris_integer
  have Rcommon : Ok1 P w K mg base 1 "common" Pcommon spcommon := okcommon T Dcommon 
  have Ris_turn : Ok1 P w K mg base 3 "is_turn" Pis_turn spis_turn := okis_turn T Dis_turn Rare_integers Rcommon
  have Rneed_turn : Ok1 P w K mg base 4 "need_turn" Pneed_turn spneed_turn := okneed_turn T Dneed_turn Ris_turn
  have Ris_pixel : Ok1 P w K mg base 3 "is_pixel" Pis_pixel spis_pixel := okis_pixel T Dis_pixel Rare_integers
  have Rneed_pixels : Ok1 P w K mg base 4 "need_pixels" Pneed_pixels spneed_pixels := okneed_pixels T Dneed_pixels Ris_pixel
  have Rneed_turn_and_picture : Ok1 P w K mg base 5 "need_turn_and_picture" Pneed_turn_and_picture spneed_turn_and_picture := okneed_turn_and_picture T Dneed_turn_and_picture Rneed_turn Rneed_pixels
  have Rquartered : Ok1 P w K mg base 1 "quartered" Pquartered spquartered := okquartered T Dquartered 
  have Rsize_of : Ok1 P w K mg base 1 "size_of" Psize_of spsize_of := oksize_of T Dsize_of 
  have Rplain_legs : Ok1 P w K mg base 1 "plain_legs" Pplain_legs spplain_legs := okplain_legs T Dplain_legs 
  have Rplain_place : Ok1 P w K mg base 2 "plain_place" Pplain_place spplain_place := okplain_place T Dplain_place Rplain_legs
  have Rnearest : Ok1 P w K mg base 1 "nearest" Pnearest spnearest := oknearest T Dnearest 
  have Rplain_image : Ok1 P w K mg base 3 "plain_image" Pplain_image spplain_image := okplain_image T Dplain_image Rsize_of Rplain_place Rnearest
  have Rimage_in : Ok1 P w K mg base 4 "image_in" Pimage_in spimage_in := okimage_in T Dimage_in Rquartered Rplain_image
  have Rimages_of : Ok1 P w K mg base 5 "images_of" Pimages_of spimages_of := okimages_of T Dimages_of Rimage_in
  have Rturned_picture : Ok1 P w K mg base 6 "turned_picture" Pturned_picture spturned_picture := okturned_picture T Dturned_picture Rneed_turn_and_picture Rimages_of
  have R_law_there : Ok1 P w K mg base 1 "_law_there" P_law_there sp_law_there := ok_law_there T D_law_there 
  have Ris_picture : Ok1 P w K mg base 4 "is_picture" Pis_picture spis_picture := okis_picture T Dis_picture Ris_pixel
  have Rneed_pixel : Ok1 P w K mg base 4 "need_pixel" Pneed_pixel spneed_pixel := okneed_pixel T Dneed_pixel Ris_pixel
  have Rneed_turn_and_pixel : Ok1 P w K mg base 5 "need_turn_and_pixel" Pneed_turn_and_pixel spneed_turn_and_pixel := okneed_turn_and_pixel T Dneed_turn_and_pixel Rneed_turn Rneed_pixel
  have Rimage : Ok1 P w K mg base 6 "image" Pimage spimage := okimage T Dimage Rneed_turn_and_pixel Rimage_in
  have Rneighbours : Ok1 P w K mg base 1 "neighbours" Pneighbours spneighbours := okneighbours T Dneighbours 
  have Rsources_in : Ok1 P w K mg base 4 "sources_in" Psources_in spsources_in := oksources_in T Dsources_in Rquartered Rplain_image Rneighbours
  have Rcame_from : Ok1 P w K mg base 6 "came_from" Pcame_from spcame_from := okcame_from T Dcame_from Rneed_turn_and_pixel Rsources_in
  have Rmeetings_in : Ok1 P w K mg base 6 "meetings_in" Pmeetings_in spmeetings_in := okmeetings_in T Dmeetings_in Rneed_turn_and_picture Rimage_in
  have Rlost_number : Ok1 P w K mg base 6 "lost_number" Plost_number splost_number := oklost_number T Dlost_number Rneed_turn_and_picture Rimages_of
  have Rmate_in : Ok1 P w K mg base 4 "mate_in" Pmate_in spmate_in := okmate_in T Dmate_in Rplain_image Rneighbours
  have Rmeeting : Ok1 P w K mg base 6 "meeting" Pmeeting spmeeting := okmeeting T Dmeeting Rneed_turn_and_pixel Rmate_in
  have R_law_images_right : Ok1 P w K mg base 7 "_law_images_right" P_law_images_right sp_law_images_right := ok_law_images_right T D_law_images_right Rturned_picture R_law_there Ris_picture Rimage Rcame_from Rmeetings_in Rlost_number Rmeeting
  have Rgaps_in : Ok1 P w K mg base 6 "gaps_in" Pgaps_in spgaps_in := okgaps_in T Dgaps_in Rneed_turn_and_picture Rimages_of Rsources_in Rneighbours
  have Ris_bare : Ok1 P w K mg base 6 "is_bare" Pis_bare spis_bare := okis_bare T Dis_bare Rneed_turn_and_pixel Rsources_in
  have Rback_of : Ok1 P w K mg base 1 "back_of" Pback_of spback_of := okback_of T Dback_of 
  have Rthere_and_back : Ok1 P w K mg base 6 "there_and_back" Pthere_and_back spthere_and_back := okthere_and_back T Dthere_and_back Rneed_turn_and_picture Rimages_of Rback_of
  have Rtimes_u : Ok1 P w K mg base 1 "times_u" Ptimes_u sptimes_u := oktimes_u T Dtimes_u 
  have Rwithin : Ok1 P w K mg base 2 "within" Pwithin spwithin := okwithin T Dwithin Rsize_of Rtimes_u
  have Rleads_back : Ok1 P w K mg base 3 "leads_back" Pleads_back spleads_back := okleads_back T Dleads_back Rwithin
  have Rtimes_v : Ok1 P w K mg base 2 "times_v" Ptimes_v sptimes_v := oktimes_v T Dtimes_v Rtimes_u
  have Rrest_in : Ok1 P w K mg base 4 "rest_in" Prest_in sprest_in := okrest_in T Drest_in Rtimes_u Rtimes_v Rplain_image
  have Rcomes_back : Ok1 P w K mg base 6 "comes_back" Pcomes_back spcomes_back := okcomes_back T Dcomes_back Rneed_turn_and_pixel Rleads_back Rrest_in
  have Rneed_order : Ok1 P w K mg base 1 "need_order" Pneed_order spneed_order := okneed_order T Dneed_order 
  have Rchain_in : Ok1 P w K mg base 2 "chain_in" Pchain_in spchain_in := okchain_in T Dchain_in Rplain_legs
  have Rshear_chain : Ok1 P w K mg base 5 "shear_chain" Pshear_chain spshear_chain := okshear_chain T Dshear_chain Rneed_turn Rneed_order Rchain_in
  have Rneed_sheared : Ok1 P w K mg base 5 "need_sheared" Pneed_sheared spneed_sheared := okneed_sheared T Dneed_sheared Rneed_turn Rneed_order Rneed_pixel
  have Rstepped : Ok1 P w K mg base 2 "stepped" Pstepped spstepped := okstepped T Dstepped Rnearest
  have Rafter_steps : Ok1 P w K mg base 3 "after_steps" Pafter_steps spafter_steps := okafter_steps T Dafter_steps Rstepped
  have Rsheared : Ok1 P w K mg base 6 "sheared" Psheared spsheared := oksheared T Dsheared Rneed_sheared Rquartered Rafter_steps Rchain_in
  have Rsheared_picture : Ok1 P w K mg base 7 "sheared_picture" Psheared_picture spsheared_picture := oksheared_picture T Dsheared_picture Rshear_chain Rneed_pixels Rsheared
  have R_law_right : Ok1 P w K mg base 8 "_law_right" P_law_right sp_law_right := ok_law_right T D_law_right R_law_images_right Rturned_picture Rgaps_in Ris_bare Rthere_and_back Rcomes_back R_law_draw Rsheared_picture Rlost_number
  have R_law_dot : Ok1 P w K mg base 2 "_law_dot" P_law_dot sp_law_dot := ok_law_dot T D_law_dot R_law_draw
  have R_law_lot : Ok1 P w K mg base 3 "_law_lot" P_law_lot sp_law_lot := ok_law_lot T D_law_lot R_law_dot R_law_draw
  exact oklaw T F R_law_source R_law_spin R_law_draw R_law_right R_law_lot
end TPx
open PySem PySem.W PySem.Calls PyProof.Rows
theorem PySem.Challenge.cw_turnedpixels_k84_whole_pictures_by_sourc_holds : PySem.Challenge.rw_turnedpixels_k84_whole_pictures_by_sourc.Holds := by
  w_on; o_law
  refine HandSHeadRun.head_any (r := OpenLaw.row PySem.Challenge.rw_turnedpixels_k84_whole_pictures_by_sourc) (q := view (OpenLaw.row PySem.Challenge.rw_turnedpixels_k84_whole_pictures_by_sourc).prog [70]) (H := TPx.hk) (ob := TPx.ob) (M := 6000) (loose := TPx.loose) (d := HandSHeadRun.topDef (OpenLaw.row PySem.Challenge.rw_turnedpixels_k84_whole_pictures_by_sourc).prog 70) (kwd := []) TPx.ob_eq
    (by kernel_rfl) (fun s => by kernel_rfl) TPx.run (by kernel_rfl) (by kernel_rfl) (by kernel_rfl) (by rfl) (by first | assumption | decide +kernel) (by decide +kernel) ⟨rfl, rfl, rfl, rfl, rfl, by decide +kernel⟩ ?hw ?hc
  case hw => w_witness2
  case hc =>
    refine L2.walk_ofE (l := PySem.Challenge.rw_turnedpixels_k84_whole_pictures_by_sourc) (n := 63) (k := 9) (x := "_law_script") (CX := L2.CX0) rfl (by decide) (by kernel_rfl) ⟨rfl, by decide, by decide⟩ ?F (fun _ _ _ _ z => z)
    intro w mg fa h Y G hmg0
    obtain ⟨K, KX, c⟩ := Y
    have hmg : mg ("law" : PySem.Str) = some (.ref fa) := by
      have e : (HandSHeadRun.topDef (OpenLaw.row PySem.Challenge.rw_turnedpixels_k84_whole_pictures_by_sourc).prog 70).name = ("law" : PySem.Str) := by kernel_rfl
      rw [← e]
      exact hmg0
    obtain ⟨fd, hb, hF⟩ := TPx.facts (P := (PySem.Challenge.rw_turnedpixels_k84_whole_pictures_by_sourc).prog) (w := w) KX G hmg c
    exact ⟨K, fd, TPx.splaw K, KX, hb, fun H a ns hl _ hS => ⟨a, ns, rfl, hS, hl, fun _ => rfl⟩, hF⟩

