import PyProof.Rows.All
import Wide.All
import OpenK.AllK
import Wide.FinOn
import Lean
import PySem.Challenge.RW_og0181_01
open PySem PySem.W PyProof.Rows PySem.Calls PySem.Spec
set_option Elab.async false
set_option maxRecDepth 100000
set_option maxHeartbeats 40000000
set_option linter.unusedVariables false
namespace Mine
section
/-! what is only counting -/
/-- a sum of multiples, as data -/
inductive Tm where
  | n (k : Int)
  | v (i : Nat)
  | a (x y : Tm)
  | s (x y : Tm)
  | m (k : Int) (x : Tm)
noncomputable def Tm.ev (c : List Int) (t : Tm) : Int := Tm.rec (fun k => k) (fun i => c.getD i 0) (fun _ _ x y => x + y) (fun _ _ x y => x - y) (fun k _ x => k * x) t
noncomputable def add2 : List Int → List Int → List Int
  | [], l => l
  | l, [] => l
  | x :: l, y :: r => (x + y) :: add2 l r
noncomputable def sc (k : Int) : List Int → List Int
  | [] => []
  | x :: l => (k * x) :: sc k l
noncomputable def unit : Nat → List Int
  | 0 => [1]
  | i + 1 => 0 :: unit i
noncomputable def Tm.nf : Tm → List Int
  | .n k => [k]
  | .v i => 0 :: unit i
  | .a x y => add2 x.nf y.nf
  | .s x y => add2 x.nf (sc (-1) y.nf)
  | .m k x => sc k x.nf
noncomputable def evL : List Int → List Int → Int
  | _, [] => 0
  | [], _ => 0
  | c :: cs, x :: l => x * c + evL cs l
theorem evL_nil (c : List Int) : evL c [] = 0 := by cases c <;> rfl
theorem evL_add : ∀ (c a b : List Int), evL c (add2 a b) = evL c a + evL c b
  | c, [], b => by rw [add2, evL_nil, Int.zero_add]
  | c, x :: a, [] => by rw [add2, evL_nil, Int.add_zero]; exact fun h => by cases h
  | [], x :: a, y :: b => rfl
  | c :: cs, x :: a, y :: b => by
    simp only [add2, evL, evL_add cs a b, Int.add_mul]
    omega
theorem evL_sc (k : Int) : ∀ (c a : List Int), evL c (sc k a) = k * evL c a
  | c, [] => by rw [sc, evL_nil, Int.mul_zero]
  | [], x :: a => (Int.mul_zero k).symm
  | c :: cs, x :: a => by simp only [sc, evL, evL_sc k cs a, Int.mul_add, Int.mul_assoc]
theorem evL_unit : ∀ (c : List Int) (i : Nat), evL c (unit i) = c.getD i 0
  | [], 0 => rfl
  | [], i + 1 => rfl
  | c :: cs, 0 => by simp [unit, evL, evL_nil]
  | c :: cs, i + 1 => by simp [unit, evL, evL_unit cs i]
theorem nf_ok (c : List Int) : ∀ t : Tm, evL (1 :: c) t.nf = t.ev c
  | .n k => by show k * 1 + evL c [] = k; rw [evL_nil]; omega
  | .v i => by show 0 * 1 + evL c (unit i) = c.getD i 0; rw [evL_unit]; omega
  | .a x y => by show evL _ (add2 x.nf y.nf) = x.ev c + y.ev c; rw [evL_add, nf_ok c x, nf_ok c y]
  | .s x y => by show evL _ (add2 x.nf (sc (-1) y.nf)) = x.ev c - y.ev c; rw [evL_add, evL_sc, nf_ok c x, nf_ok c y]; omega
  | .m k x => by show evL _ (sc k x.nf) = k * x.ev c; rw [evL_sc, nf_ok c x]
noncomputable def Imp (c : List Int) (G : Prop) (l : List (Nat × Tm)) : Prop := List.rec G (fun p _ r => 0 ≤ p.2.ev c → r) l
noncomputable def rest (l : List (Nat × Tm)) (g : List Int) : List Int := l.foldl (fun r p => add2 r (sc (-(p.1 : Int)) p.2.nf)) g
noncomputable def allZ : List Int → Bool
  | [] => true
  | x :: l => x == 0 && allZ l
noncomputable def okZ : List Int → Bool
  | [] => true
  | x :: l => decide (0 ≤ x) && allZ l
theorem allZ_ok : ∀ (c l : List Int), allZ l = true → evL c l = 0
  | c, [], _ => evL_nil c
  | [], x :: l, _ => rfl
  | c :: cs, x :: l, h => by
    simp only [allZ, Bool.and_eq_true, beq_iff_eq] at h
    simp only [evL, h.1, allZ_ok cs l h.2]; omega
theorem okZ_ok (c l : List Int) (h : okZ l = true) : 0 ≤ evL (1 :: c) l := by
  cases l with
  | nil => exact Int.le_refl _
  | cons x l =>
    simp only [okZ, Bool.and_eq_true, decide_eq_true_eq] at h
    simp only [evL, allZ_ok c l h.2]; omega
theorem far_ok (c : List Int) : ∀ (l : List (Nat × Tm)) (g : List Int), okZ (rest l g) = true → Imp c (0 ≤ evL (1 :: c) g) l
  | [], g, h => okZ_ok c g h
  | (m, t) :: l, g, h => fun ht => by
    have ih := far_ok c l _ (h : okZ (rest l (add2 g (sc (-(m : Int)) t.nf))) = true)
    rw [evL_add, evL_sc, nf_ok] at ih
    have hm : 0 ≤ (m : Int) * t.ev c := Int.mul_nonneg (Int.natCast_nonneg m) ht
    have k : 0 ≤ evL (1 :: c) g + -(m : Int) * t.ev c → 0 ≤ evL (1 :: c) g := fun q => by rw [Int.neg_mul] at q; omega
    have mono : ∀ {G G' : Prop} (f : G → G') (l : List (Nat × Tm)), Imp c G l → Imp c G' l := fun {G G'} f l => by
      induction l with
      | nil => exact f
      | cons p l ih => exact fun x y => ih (x y)
    exact mono k l ih
theorem far (d : Nat) (c : List Int) (l : List (Nat × Tm)) (g : Tm) (h : (decide (0 < d) && okZ (rest l (sc d g.nf))) = true) : Imp c (0 ≤ g.ev c) l := by
  simp only [Bool.and_eq_true, decide_eq_true_eq] at h
  have ih := far_ok c l _ h.2
  rw [evL_sc, nf_ok] at ih
  have k : 0 ≤ (d : Int) * g.ev c → 0 ≤ g.ev c := fun q => by
    rcases Int.lt_or_le (g.ev c) 0 with z | z
    · have := Int.mul_neg_of_pos_of_neg (show (0 : Int) < (d : Int) by omega) z; omega
    · exact z
  have mono : ∀ {G G' : Prop} (f : G → G') (l : List (Nat × Tm)), Imp c G l → Imp c G' l := fun {G G'} f l => by
    induction l with
    | nil => exact f
    | cons p l ih => exact fun x y => ih (x y)
  exact mono k l ih
theorem qn {a b : Nat} (h : a ≤ b) : 0 ≤ (b : Int) - (a : Int) := by omega
theorem qn1 {a b : Nat} (h : a < b) : 0 ≤ (b : Int) - (a : Int) - 1 := by omega
theorem qi {a b : Int} (h : a ≤ b) : 0 ≤ b - a := by omega
theorem qi1 {a b : Int} (h : a < b) : 0 ≤ b - a - 1 := by omega
theorem qv (a : Nat) : 0 ≤ (a : Int) := Int.natCast_nonneg a
theorem rn {a b : Nat} (h : 0 ≤ (b : Int) - (a : Int)) : a ≤ b := by omega
theorem rn1 {a b : Nat} (h : 0 ≤ (b : Int) - (a : Int) - 1) : a < b := by omega
theorem ri {a b : Int} (h : 0 ≤ b - a) : a ≤ b := by omega
theorem ri1 {a b : Int} (h : 0 ≤ b - a - 1) : a < b := by omega
theorem upI {a x : Int} (h : a ≤ x) : x = a ∨ a + 1 ≤ x := by omega
theorem upN {a x : Nat} (h : a ≤ x) : x = a ∨ a + 1 ≤ x := by omega
theorem qs1 (a b : Nat) : 0 ≤ ((a - b : Nat) : Int) - ((a : Int) - (b : Int)) := by omega
theorem qs2 (a b : Nat) : 0 ≤ (a : Int) - ((a - b : Nat) : Int) := by omega
theorem rf (h : (0 : Int) ≤ -1) : False := by omega
theorem om0 {x0 : Nat} {x1 : Nat} {x2 : Nat} {x3 : Nat} (h0 : (x1 ≤ x3)) (h1 : ((x0 + x3) < x2)) : ((x0 + x1) < x2) := rn1 (far 1 [(x0 : Int), (x1 : Int), (x2 : Int), (x3 : Int)] [(1, .s (.v 3) (.v 1)), (1, .s (.s (.v 2) (.a (.v 0) (.v 3))) (.n 1))] (.s (.s (.v 2) (.a (.v 0) (.v 1))) (.n 1)) (by decide) (qn h0) (qn1 h1))
theorem om1 {x0 : Nat} {x1 : Nat} {x2 : Nat} {x3 : Nat} (h0 : (x1 ≤ x3)) (h1 : (((x0 + ((8 : Nat) * x3)) + (200 : Nat)) < x2)) : (((x0 + ((8 : Nat) * x1)) + (200 : Nat)) < x2) := rn1 (far 1 [(x0 : Int), (x1 : Int), (x2 : Int), (x3 : Int)] [(8, .s (.v 3) (.v 1)), (1, .s (.s (.v 2) (.a (.a (.v 0) (.m 8 (.v 3))) (.n 200))) (.n 1))] (.s (.s (.v 2) (.a (.a (.v 0) (.m 8 (.v 1))) (.n 200))) (.n 1)) (by decide) (qn h0) (qn1 h1))
theorem om2 {x0 : Nat} {x1 : Nat} {x2 : Nat} (h0 : ((x0 + (x1 + (1 : Nat))) < x2)) : (((x0 + (1 : Nat)) + x1) < x2) := rn1 (far 1 [(x0 : Int), (x1 : Int), (x2 : Int)] [(1, .s (.s (.v 2) (.a (.v 0) (.a (.v 1) (.n 1)))) (.n 1))] (.s (.s (.v 2) (.a (.a (.v 0) (.n 1)) (.v 1))) (.n 1)) (by decide) (qn1 h0))
theorem om3 {x0 : Nat} {x1 : Nat} {x2 : Nat} (h0 : (((x0 + ((8 : Nat) * (x1 + (1 : Nat)))) + (200 : Nat)) < x2)) : ((((x0 + (3 : Nat)) + ((8 : Nat) * x1)) + (200 : Nat)) < x2) := rn1 (far 1 [(x0 : Int), (x1 : Int), (x2 : Int)] [(1, .s (.s (.v 2) (.a (.a (.v 0) (.m 8 (.a (.v 1) (.n 1)))) (.n 200))) (.n 1))] (.s (.s (.v 2) (.a (.a (.a (.v 0) (.n 3)) (.m 8 (.v 1))) (.n 200))) (.n 1)) (by decide) (qn1 h0))
theorem om4 {x0 : Nat} {x1 : Nat} (h0 : (x1 < x0)) : (((x0 + (1 : Nat)) - (x1 + (1 : Nat))) < ((x0 + (1 : Nat)) - x1)) := by omega
theorem om5 {x0 : Nat} {x1 : Nat} (h0 : (x0 ≤ x1)) (h1 : (¬ (x0 < x1))) : (x0 = x1) := Nat.le_antisymm (rn (far 1 [(x0 : Int), (x1 : Int)] [(1, .s (.v 1) (.v 0))] (.s (.v 1) (.v 0)) (by decide) (qn h0))) (rn (far 1 [(x0 : Int), (x1 : Int)] [(1, .s (.v 0) (.v 1))] (.s (.v 0) (.v 1)) (by decide) (qn (Nat.le_of_not_lt h1))))
theorem om6 {x0 : Nat} {x1 : Nat} {x2 : Nat} (h0 : ((x0 + (x2 + (1 : Nat))) < x1)) : (x0 < x1) := rn1 (far 1 [(x0 : Int), (x1 : Int), (x2 : Int)] [(1, .s (.s (.v 1) (.a (.v 0) (.a (.v 2) (.n 1)))) (.n 1)), (1, .v 2)] (.s (.s (.v 1) (.v 0)) (.n 1)) (by decide) (qn1 h0) (qv x2))
theorem om7 {x0 : Int} {x1 : Nat} (h0 : ((0 : Int) ≤ x0)) (h1 : (x0 ≤ (1000000000 : Int))) (h2 : ((Int.toNat x0) < x1)) : (x0 < ((x1 : Nat) : Int)) := by omega
theorem om8 {x0 : Nat} {x1 : Nat} {x2 : Nat} (h0 : (x0 < x1)) (h1 : ((x2 - (1 : Nat)) = x0)) : ((x0 + (1 : Nat)) ≤ x1) := rn (far 1 [(x0 : Int), (x1 : Int), (x2 : Int), (((x2 - (1 : Nat)) : Nat) : Int)] [(1, .s (.s (.v 1) (.v 0)) (.n 1))] (.s (.v 1) (.a (.v 0) (.n 1))) (by decide) (qn1 h0))
theorem om9 {x0 : Nat} {x1 : Nat} {x2 : Nat} (h0 : ((x0 + x1) ≤ (1000000 : Nat))) (h1 : ((1000000 : Nat) < x2)) : ((x0 + x1) ≤ x2) := rn (far 1000000 [(x0 : Int), (x1 : Int), (x2 : Int)] [(1000001, .s (.n 1000000) (.a (.v 0) (.v 1))), (1000000, .s (.s (.v 2) (.n 1000000)) (.n 1)), (1, .v 0), (1, .v 1)] (.s (.v 2) (.a (.v 0) (.v 1))) (by decide) (qn h0) (qn1 h1) (qv x0) (qv x1))
theorem om10 {x0 : Nat} {x1 : Nat} {x2 : Nat} (h0 : ((x0 + x2) ≤ (1000000 : Nat))) (h1 : ((1000000 : Nat) < x1)) : (x0 ≤ x1) := rn (far 1000001 [(x0 : Int), (x1 : Int), (x2 : Int)] [(1000001, .s (.n 1000000) (.a (.v 0) (.v 2))), (1000000, .s (.s (.v 1) (.n 1000000)) (.n 1)), (1, .v 1), (1000001, .v 2)] (.s (.v 1) (.v 0)) (by decide) (qn h0) (qn1 h1) (qv x1) (qv x2))
theorem om11 {x0 : Nat} {x1 : Nat} {x2 : Nat} (h0 : ((x0 + x1) ≤ (1000000 : Nat))) (h1 : ((1000000 : Nat) < x2)) : ((x0 + x1) ≤ (x2 + (1 : Nat))) := rn (far 500000 [(x0 : Int), (x1 : Int), (x2 : Int)] [(500001, .s (.n 1000000) (.a (.v 0) (.v 1))), (500000, .s (.s (.v 2) (.n 1000000)) (.n 1)), (1, .v 0), (1, .v 1)] (.s (.a (.v 2) (.n 1)) (.a (.v 0) (.v 1))) (by decide) (qn h0) (qn1 h1) (qv x0) (qv x1))
theorem om12 {x0 : Nat} (h0 : (x0 ≤ (1000000000 : Nat))) : (((x0 : Nat) : Int) < (9223372036854775808 : Int)) := ri1 (far 1000000000 [(x0 : Int)] [(9223372036854775807, .s (.n 1000000000) (.v 0)), (9223372035854775807, .v 0)] (.s (.s (.n 9223372036854775808) (.v 0)) (.n 1)) (by decide) (qn h0) (qv x0))
theorem om13 {x0 : Nat} {x1 : Nat} {x2 : Nat} (h0 : (((x0 + ((8 : Nat) * (x1 + (1 : Nat)))) + (200 : Nat)) < x2)) : ((((x0 + (1 : Nat)) + ((8 : Nat) * x1)) + (200 : Nat)) < x2) := rn1 (far 1 [(x0 : Int), (x1 : Int), (x2 : Int)] [(1, .s (.s (.v 2) (.a (.a (.v 0) (.m 8 (.a (.v 1) (.n 1)))) (.n 200))) (.n 1))] (.s (.s (.v 2) (.a (.a (.a (.v 0) (.n 1)) (.m 8 (.v 1))) (.n 200))) (.n 1)) (by decide) (qn1 h0))
theorem om14 {x0 : Int} (h0 : ((-(1000000 : Int)) ≤ x0)) : ((-(3000000 : Int)) ≤ x0) := ri (far 1 [(x0 : Int)] [(1, .s (.v 0) (.n (-1000000)))] (.s (.v 0) (.n (-3000000))) (by decide) (qi h0))
theorem om15 {x0 : Int} {x1 : Int} {x2 : Nat} {x3 : Int} (h0 : (x1 = (x0 + ((x2 : Nat) : Int)))) (h1 : (x1 ≤ (1000000 : Int))) (h2 : (x3 = ((x2 : Nat) : Int))) : (x0 ≤ (3000000 : Int)) := ri (far 1 [(x0 : Int), (x1 : Int), (x2 : Int), (x3 : Int)] [(1, .s (.v 1) (.a (.v 0) (.v 2))), (1, .s (.n 1000000) (.v 1)), (1, .v 2)] (.s (.n 3000000) (.v 0)) (by decide) (qi (Int.le_of_eq h0.symm)) (qi h1) (qv x2))
theorem om16 {x0 : Int} {x1 : Int} {x2 : Nat} {x3 : Int} (h0 : (x0 = (x1 + ((x2 : Nat) : Int)))) (h1 : ((-(1000000 : Int)) ≤ x1)) (h2 : (x3 = ((x2 : Nat) : Int))) : ((-(3000000 : Int)) ≤ x0) := ri (far 1 [(x0 : Int), (x1 : Int), (x2 : Int), (x3 : Int)] [(1, .s (.v 0) (.a (.v 1) (.v 2))), (1, .s (.v 1) (.n (-1000000))), (1, .v 2)] (.s (.v 0) (.n (-3000000))) (by decide) (qi (Int.le_of_eq h0.symm)) (qi h1) (qv x2))
theorem om17 {x0 : Int} {x1 : Int} {x2 : Nat} {x3 : Int} (h0 : (x0 = (x1 + ((x2 : Nat) : Int)))) (h1 : (x0 ≤ (1000000 : Int))) (h2 : (x3 = ((x2 : Nat) : Int))) : (x0 ≤ (3000000 : Int)) := ri (far 1 [(x0 : Int), (x1 : Int), (x2 : Int), (x3 : Int)] [(1, .s (.n 1000000) (.v 0))] (.s (.n 3000000) (.v 0)) (by decide) (qi h1))
theorem om18 {x0 : Nat} {x1 : Int} (h0 : (x1 = ((x0 : Nat) : Int))) : ((-(3000000 : Int)) ≤ ((x0 : Nat) : Int)) := ri (far 1 [(x0 : Int), (x1 : Int)] [(1, .v 0)] (.s (.v 0) (.n (-3000000))) (by decide) (qv x0))
theorem om19 {x0 : Nat} {x1 : Int} {x2 : Int} {x3 : Int} (h0 : (x1 = (x2 + ((x0 : Nat) : Int)))) (h1 : ((-(1000000 : Int)) ≤ x2)) (h2 : (x1 ≤ (1000000 : Int))) (h3 : (x3 = ((x0 : Nat) : Int))) : (((x0 : Nat) : Int) ≤ (3000000 : Int)) := ri (far 2 [(x0 : Int), (x1 : Int), (x2 : Int), (x3 : Int)] [(3, .s (.v 1) (.a (.v 2) (.v 0))), (3, .s (.v 2) (.n (-1000000))), (3, .s (.n 1000000) (.v 1)), (1, .v 0)] (.s (.n 3000000) (.v 0)) (by decide) (qi (Int.le_of_eq h0.symm)) (qi h1) (qi h2) (qv x0))
theorem om20 {x0 : Int} {x1 : Int} {x2 : Nat} {x3 : Int} (h0 : (x0 = (x1 + ((x2 : Nat) : Int)))) (h1 : ((-(1000000 : Int)) ≤ x1)) (h2 : (x3 = ((x2 : Nat) : Int))) : ((-(3000000 : Int)) ≤ (x0 + ((1 : Int) - (1 : Int)))) := ri (far 1 [(x0 : Int), (x1 : Int), (x2 : Int), (x3 : Int)] [(1, .s (.v 0) (.a (.v 1) (.v 2))), (1, .s (.v 1) (.n (-1000000))), (1, .v 2)] (.s (.a (.v 0) (.s (.n 1) (.n 1))) (.n (-3000000))) (by decide) (qi (Int.le_of_eq h0.symm)) (qi h1) (qv x2))
theorem om21 {x0 : Int} {x1 : Int} {x2 : Nat} {x3 : Int} (h0 : (x0 = (x1 + ((x2 : Nat) : Int)))) (h1 : (x0 ≤ (1000000 : Int))) (h2 : (x3 = ((x2 : Nat) : Int))) : ((x0 + ((1 : Int) - (1 : Int))) ≤ (3000000 : Int)) := ri (far 1 [(x0 : Int), (x1 : Int), (x2 : Int), (x3 : Int)] [(1, .s (.n 1000000) (.v 0))] (.s (.n 3000000) (.a (.v 0) (.s (.n 1) (.n 1)))) (by decide) (qi h1))
theorem om22 {x0 : Nat} {x1 : Nat} (h0 : ((x0 + (10 : Nat)) < x1)) : ((x0 + (1 : Nat)) < x1) := rn1 (far 1 [(x0 : Int), (x1 : Int)] [(1, .s (.s (.v 1) (.a (.v 0) (.n 10))) (.n 1))] (.s (.s (.v 1) (.a (.v 0) (.n 1))) (.n 1)) (by decide) (qn1 h0))
theorem om23 {x0 : Nat} {x1 : Nat} : (x0 ≤ (x0 + x1)) := rn (far 1 [(x0 : Int), (x1 : Int)] [(1, .v 1)] (.s (.a (.v 0) (.v 1)) (.v 0)) (by decide) (qv x1))
theorem om24 {x0 : Nat} {x1 : Nat} {x2 : Nat} (h0 : (x0 ≤ x2)) : (x0 ≤ (x1 + x2)) := rn (far 1 [(x0 : Int), (x1 : Int), (x2 : Int)] [(1, .s (.v 2) (.v 0)), (1, .v 1)] (.s (.a (.v 1) (.v 2)) (.v 0)) (by decide) (qn h0) (qv x1))
theorem om25 {x0 : Int} {x1 : Int} {x2 : Int} (h0 : (x0 ≤ x2)) (h1 : (x2 ≤ x1)) : (x0 ≤ x1) := ri (far 1 [(x0 : Int), (x1 : Int), (x2 : Int)] [(1, .s (.v 2) (.v 0)), (1, .s (.v 1) (.v 2))] (.s (.v 1) (.v 0)) (by decide) (qi h0) (qi h1))
theorem om26 {x0 : Int} {x1 : Int} : ((x0 ≤ x1) ∨ (x1 ≤ x0)) := by omega
theorem om27 {x0 : Nat} {x1 : Nat} (h0 : (x1 ≤ (60 : Nat))) (h1 : (x0 = x1)) : (x0 < (64 : Nat)) := rn1 (far 20 [(x0 : Int), (x1 : Int)] [(21, .s (.n 60) (.v 1)), (21, .s (.v 1) (.v 0)), (1, .v 0)] (.s (.s (.n 64) (.v 0)) (.n 1)) (by decide) (qn h0) (qn (Nat.le_of_eq h1)) (qv x0))
theorem om28 {x0 : Nat} (h0 : (x0 ≤ (60 : Nat))) : (x0 < (64 : Nat)) := rn1 (far 20 [(x0 : Int)] [(21, .s (.n 60) (.v 0)), (1, .v 0)] (.s (.s (.n 64) (.v 0)) (.n 1)) (by decide) (qn h0) (qv x0))
theorem om29 {x0 : Nat} {x1 : Nat} (h0 : ((x1 - x0) = (0 : Nat))) (h1 : (x0 ≤ x1)) : (x0 = x1) := Nat.le_antisymm (rn (far 1 [(x0 : Int), (x1 : Int), (((x1 - x0) : Nat) : Int)] [(1, .s (.v 1) (.v 0))] (.s (.v 1) (.v 0)) (by decide) (qn h1))) (rn (far 1 [(x0 : Int), (x1 : Int), (((x1 - x0) : Nat) : Int)] [(1, .s (.n 0) (.v 2)), (1, .s (.v 2) (.s (.v 1) (.v 0)))] (.s (.v 0) (.v 1)) (by decide) (qn (Nat.le_of_eq h0)) (qs1 x1 x0)))
theorem om30 {x0 : Nat} {x1 : Nat} {x2 : Nat} (h0 : ((x1 - x0) = (x2 + (1 : Nat)))) (h1 : (x0 ≤ x1)) : (x0 < x1) := by omega
theorem om31 {x0 : Nat} {x1 : Nat} (h0 : ((x0 + (x1 + (1 : Nat))) ≤ (1000000 : Nat))) : (x0 ≤ (1000000 : Nat)) := rn (far 999999 [(x0 : Int), (x1 : Int)] [(1000000, .s (.n 1000000) (.a (.v 0) (.a (.v 1) (.n 1)))), (1, .v 0), (1000000, .v 1)] (.s (.n 1000000) (.v 0)) (by decide) (qn h0) (qv x0) (qv x1))
theorem om32 {x0 : Nat} {x1 : Nat} (h0 : ((x0 + (x1 + (1 : Nat))) ≤ (1000000 : Nat))) : ((x0 + (1 : Nat)) ≤ (1000000 : Nat)) := rn (far 1 [(x0 : Int), (x1 : Int)] [(1, .s (.n 1000000) (.a (.v 0) (.a (.v 1) (.n 1)))), (1, .v 1)] (.s (.n 1000000) (.a (.v 0) (.n 1))) (by decide) (qn h0) (qv x1))
theorem om33 {x0 : Nat} {x1 : Nat} {x2 : Nat} (h0 : ((x0 - x1) = (x2 + (1 : Nat)))) (h1 : (x1 ≤ x0)) : ((x0 - (x1 + (1 : Nat))) = x2) := by omega
theorem om34 {x0 : Nat} {x1 : Nat} {x2 : Nat} (h0 : ((x1 - x0) = (x2 + (1 : Nat)))) (h1 : (x0 ≤ x1)) : ((x0 + (1 : Nat)) ≤ x1) := by omega
theorem om35 {x0 : Nat} {x1 : Nat} (h0 : ((x0 + (x1 + (1 : Nat))) ≤ (1000000 : Nat))) : (((x0 + (1 : Nat)) + x1) ≤ (1000000 : Nat)) := rn (far 1 [(x0 : Int), (x1 : Int)] [(1, .s (.n 1000000) (.a (.v 0) (.a (.v 1) (.n 1))))] (.s (.n 1000000) (.a (.a (.v 0) (.n 1)) (.v 1))) (by decide) (qn h0))
theorem om36 {x0 : Nat} {x1 : Nat} : (((x0 + (1 : Nat)) + x1) = (x0 + (x1 + (1 : Nat)))) := Nat.le_antisymm (rn (far 1 [(x0 : Int), (x1 : Int)] [] (.s (.a (.v 0) (.a (.v 1) (.n 1))) (.a (.a (.v 0) (.n 1)) (.v 1))) (by decide))) (rn (far 1 [(x0 : Int), (x1 : Int)] [] (.s (.a (.a (.v 0) (.n 1)) (.v 1)) (.a (.v 0) (.a (.v 1) (.n 1)))) (by decide)))
theorem om37 {x0 : Nat} {x1 : Nat} (h0 : ((x0 + x1) ≤ (1000000 : Nat))) : ((x0 + x1) ≤ (1000000 : Nat)) := rn (far 1 [(x0 : Int), (x1 : Int)] [(1, .s (.n 1000000) (.a (.v 0) (.v 1)))] (.s (.n 1000000) (.a (.v 0) (.v 1))) (by decide) (qn h0))
theorem om38 {x0 : Nat} {x1 : Nat} {x2 : Nat} (h0 : (x1 = x2)) (h1 : (x0 < x2)) : (x0 < x1) := rn1 (far 1 [(x0 : Int), (x1 : Int), (x2 : Int)] [(1, .s (.v 1) (.v 2)), (1, .s (.s (.v 2) (.v 0)) (.n 1))] (.s (.s (.v 1) (.v 0)) (.n 1)) (by decide) (qn (Nat.le_of_eq h0.symm)) (qn1 h1))
theorem om39 {x0 : Nat} {x1 : Nat} {x2 : Nat} (h0 : (x0 = x2)) (h1 : (¬ (x1 < x2))) : (x0 ≤ x1) := rn (far 1 [(x0 : Int), (x1 : Int), (x2 : Int)] [(1, .s (.v 2) (.v 0)), (1, .s (.v 1) (.v 2))] (.s (.v 1) (.v 0)) (by decide) (qn (Nat.le_of_eq h0)) (qn (Nat.le_of_not_lt h1)))
theorem om40 {x0 : Nat} {x1 : Nat} {x2 : Nat} (h0 : (x2 = x0)) (h1 : (¬ (x1 < x0))) : (x0 ≤ x1) := rn (far 1 [(x0 : Int), (x1 : Int), (x2 : Int)] [(1, .s (.v 1) (.v 0))] (.s (.v 1) (.v 0)) (by decide) (qn (Nat.le_of_not_lt h1)))
theorem om41 {x0 : Nat} {x1 : Nat} (h0 : (((1 : Nat) + x0) ≤ (x1 + (1 : Nat)))) : (x0 ≤ x1) := rn (far 1 [(x0 : Int), (x1 : Int)] [(1, .s (.a (.v 1) (.n 1)) (.a (.n 1) (.v 0)))] (.s (.v 1) (.v 0)) (by decide) (qn h0))
theorem om42 {x0 : Nat} {x1 : Nat} {x2 : Nat} (h0 : (((x0 + x2) + (2 : Nat)) < x1)) : (x0 < x1) := rn1 (far 1 [(x0 : Int), (x1 : Int), (x2 : Int)] [(1, .s (.s (.v 1) (.a (.a (.v 0) (.v 2)) (.n 2))) (.n 1)), (1, .v 2)] (.s (.s (.v 1) (.v 0)) (.n 1)) (by decide) (qn1 h0) (qv x2))
theorem om43 {x0 : Nat} {x1 : Nat} {x2 : Nat} (h0 : (((x0 + x1) + (2 : Nat)) < x2)) : (((x0 + (1 : Nat)) + x1) < x2) := rn1 (far 1 [(x0 : Int), (x1 : Int), (x2 : Int)] [(1, .s (.s (.v 2) (.a (.a (.v 0) (.v 1)) (.n 2))) (.n 1))] (.s (.s (.v 2) (.a (.a (.v 0) (.n 1)) (.v 1))) (.n 1)) (by decide) (qn1 h0))
theorem om44 {x0 : Nat} {x1 : Nat} (h0 : ((x0 + (2 : Nat)) < x1)) : (x0 < x1) := rn1 (far 1 [(x0 : Int), (x1 : Int)] [(1, .s (.s (.v 1) (.a (.v 0) (.n 2))) (.n 1))] (.s (.s (.v 1) (.v 0)) (.n 1)) (by decide) (qn1 h0))
theorem om45 {x0 : Nat} (h0 : (x0 < (2 : Nat))) : ((x0 = (0 : Nat)) ∨ (x0 = (1 : Nat))) := (upN (Nat.zero_le x0)).elim .inl fun h => .inr (Nat.le_antisymm (Nat.le_of_lt_succ h0) h)
theorem om46 {x0 : Nat} {x1 : Nat} {x2 : Nat} : ((x0 + (x1 + x2)) = (x1 + (x0 + x2))) := Nat.le_antisymm (rn (far 1 [(x0 : Int), (x1 : Int), (x2 : Int)] [] (.s (.a (.v 1) (.a (.v 0) (.v 2))) (.a (.v 0) (.a (.v 1) (.v 2)))) (by decide))) (rn (far 1 [(x0 : Int), (x1 : Int), (x2 : Int)] [] (.s (.a (.v 0) (.a (.v 1) (.v 2))) (.a (.v 1) (.a (.v 0) (.v 2)))) (by decide)))
theorem om47 {x0 : Nat} : (x0 < ((1 : Nat) + x0)) := rn1 (far 1 [(x0 : Int)] [] (.s (.s (.a (.n 1) (.v 0)) (.v 0)) (.n 1)) (by decide))
theorem om48 {x0 : Nat} : (((0 : Nat) + (1 : Nat)) ≤ (x0 + (3 : Nat))) := rn (far 1 [(x0 : Int)] [(1, .v 0)] (.s (.a (.v 0) (.n 3)) (.a (.n 0) (.n 1))) (by decide) (qv x0))
theorem om49 {x0 : Nat} {x1 : Nat} {x2 : Nat} (h0 : (((x0 + ((8 : Nat) * (x2 + (3 : Nat)))) + (200 : Nat)) < x1)) : ((x0 + (200 : Nat)) < x1) := rn1 (far 1 [(x0 : Int), (x1 : Int), (x2 : Int)] [(1, .s (.s (.v 1) (.a (.a (.v 0) (.m 8 (.a (.v 2) (.n 3)))) (.n 200))) (.n 1)), (8, .v 2)] (.s (.s (.v 1) (.a (.v 0) (.n 200))) (.n 1)) (by decide) (qn1 h0) (qv x2))
theorem om50 {x0 : Nat} (h0 : (x0 ≤ (60 : Nat))) : (x0 ≤ (1000000000 : Nat)) := rn (far 3 [(x0 : Int)] [(50000000, .s (.n 60) (.v 0)), (49999997, .v 0)] (.s (.n 1000000000) (.v 0)) (by decide) (qn h0) (qv x0))
theorem om51 {x0 : Nat} {x1 : Nat} (h0 : ((1000 : Nat) < x1)) (h1 : (x0 ≤ (59 : Nat))) : (x0 < x1) := rn1 (far 59 [(x0 : Int), (x1 : Int)] [(59, .s (.s (.v 1) (.n 1000)) (.n 1)), (1000, .s (.n 59) (.v 0)), (941, .v 0)] (.s (.s (.v 1) (.v 0)) (.n 1)) (by decide) (qn1 h0) (qn h1) (qv x0))
theorem om52 {x0 : Nat} {x1 : Nat} (h0 : ((x0 + (200 : Nat)) < x1)) : ((x0 + (10 : Nat)) < x1) := rn1 (far 1 [(x0 : Int), (x1 : Int)] [(1, .s (.s (.v 1) (.a (.v 0) (.n 200))) (.n 1))] (.s (.s (.v 1) (.a (.v 0) (.n 10))) (.n 1)) (by decide) (qn1 h0))
theorem om53 {x0 : Nat} {x1 : Nat} {x2 : Nat} {x3 : Nat} (h0 : (x1 ≤ (60 : Nat))) (h1 : ((x2 + ((1 : Nat) + x3)) ≤ x1)) (h2 : (x0 = x2)) : (x0 ≤ (60 : Nat)) := rn (far 60 [(x0 : Int), (x1 : Int), (x2 : Int), (x3 : Int)] [(61, .s (.n 60) (.v 1)), (60, .s (.v 1) (.a (.v 2) (.a (.n 1) (.v 3)))), (60, .s (.v 2) (.v 0)), (1, .v 1), (60, .v 3)] (.s (.n 60) (.v 0)) (by decide) (qn h0) (qn h1) (qn (Nat.le_of_eq h2)) (qv x1) (qv x3))
theorem om54 {x0 : Nat} (h0 : (x0 ≤ (60 : Nat))) : (x0 ≤ (1000000 : Nat)) := rn (far 3 [(x0 : Int)] [(50000, .s (.n 60) (.v 0)), (49997, .v 0)] (.s (.n 1000000) (.v 0)) (by decide) (qn h0) (qv x0))
theorem om55 {x0 : Nat} {x1 : Nat} (h0 : (x0 ≤ (60 : Nat))) (h1 : ((1000 : Nat) < x1)) : (x0 ≤ x1) := rn (far 60 [(x0 : Int), (x1 : Int)] [(1001, .s (.n 60) (.v 0)), (60, .s (.s (.v 1) (.n 1000)) (.n 1)), (941, .v 0)] (.s (.v 1) (.v 0)) (by decide) (qn h0) (qn1 h1) (qv x0))
theorem om56 {x0 : Nat} {x1 : Nat} {x2 : Nat} (h0 : ((x0 + ((1 : Nat) + x1)) ≤ x2)) : (((x0 + (1 : Nat)) + x1) ≤ x2) := rn (far 1 [(x0 : Int), (x1 : Int), (x2 : Int)] [(1, .s (.v 2) (.a (.v 0) (.a (.n 1) (.v 1))))] (.s (.v 2) (.a (.a (.v 0) (.n 1)) (.v 1))) (by decide) (qn h0))
theorem om57 {x0 : Nat} {x1 : Nat} (h0 : (x1 = ((1 : Nat) + x0))) : (x0 < x1) := rn1 (far 1 [(x0 : Int), (x1 : Int)] [(1, .s (.v 1) (.a (.n 1) (.v 0)))] (.s (.s (.v 1) (.v 0)) (.n 1)) (by decide) (qn (Nat.le_of_eq h0.symm)))
theorem om58 {x0 : Nat} {x1 : Nat} {x2 : Nat} (h0 : ((x0 + ((1 : Nat) + x1)) ≤ x2)) : ((x0 + x1) ≤ x2) := rn (far 1 [(x0 : Int), (x1 : Int), (x2 : Int)] [(1, .s (.v 2) (.a (.v 0) (.a (.n 1) (.v 1))))] (.s (.v 2) (.a (.v 0) (.v 1))) (by decide) (qn h0))
theorem om59 {x0 : Nat} {x1 : Nat} {x2 : Nat} {x3 : Nat} (h0 : (x1 ≤ (60 : Nat))) (h1 : ((x2 + (x0 + x3)) ≤ x1)) : (x0 ≤ (60 : Nat)) := rn (far 1 [(x0 : Int), (x1 : Int), (x2 : Int), (x3 : Int)] [(1, .s (.n 60) (.v 1)), (1, .s (.v 1) (.a (.v 2) (.a (.v 0) (.v 3)))), (1, .v 2), (1, .v 3)] (.s (.n 60) (.v 0)) (by decide) (qn h0) (qn h1) (qv x2) (qv x3))
theorem om60 {x0 : Nat} {x1 : Nat} {x2 : Nat} {x3 : Nat} {x4 : Nat} (h0 : ((x0 + (1 : Nat)) ≤ (60 : Nat))) (h1 : ((1 : Nat) ≤ x2)) (h2 : (x2 ≤ (60 : Nat))) (h3 : (x3 < x2)) (h4 : (x1 = x4)) (h5 : (x4 ≤ x3)) : ((x0 + x1) ≤ (1000000 : Nat)) := rn (far 59 [(x0 : Int), (x1 : Int), (x2 : Int), (x3 : Int), (x4 : Int)] [(59, .s (.n 60) (.a (.v 0) (.n 1))), (999882, .s (.v 2) (.n 1)), (999941, .s (.n 60) (.v 2)), (59, .s (.s (.v 2) (.v 3)) (.n 1)), (59, .s (.v 4) (.v 1)), (59, .s (.v 3) (.v 4))] (.s (.n 1000000) (.a (.v 0) (.v 1))) (by decide) (qn h0) (qn h1) (qn h2) (qn1 h3) (qn (Nat.le_of_eq h4)) (qn h5))
theorem om61 {x0 : Nat} {x1 : Nat} {x2 : Nat} {x3 : Nat} {x4 : Nat} (h0 : ((x0 + (x4 + x2)) ≤ x3)) (h1 : (x1 < x4)) : ((x0 + (x1 + x2)) ≤ x3) := rn (far 1 [(x0 : Int), (x1 : Int), (x2 : Int), (x3 : Int), (x4 : Int)] [(1, .s (.v 3) (.a (.v 0) (.a (.v 4) (.v 2)))), (1, .s (.s (.v 4) (.v 1)) (.n 1))] (.s (.v 3) (.a (.v 0) (.a (.v 1) (.v 2)))) (by decide) (qn h0) (qn1 h1))
theorem om62 {x0 : Nat} {x1 : Nat} {x2 : Nat} {x3 : Nat} (h0 : (x2 = (x3 + x1))) (h1 : (x0 < x3)) : ((x0 + x1) < x2) := rn1 (far 1 [(x0 : Int), (x1 : Int), (x2 : Int), (x3 : Int)] [(1, .s (.v 2) (.a (.v 3) (.v 1))), (1, .s (.s (.v 3) (.v 0)) (.n 1))] (.s (.s (.v 2) (.a (.v 0) (.v 1))) (.n 1)) (by decide) (qn (Nat.le_of_eq h0.symm)) (qn1 h1))
theorem om63 {x0 : Nat} : (((x0 + (1 : Nat)) + (1 : Nat)) ≤ (x0 + (3 : Nat))) := rn (far 1 [(x0 : Int)] [] (.s (.a (.v 0) (.n 3)) (.a (.a (.v 0) (.n 1)) (.n 1))) (by decide))
theorem om64 {x0 : Nat} {x1 : Nat} {x2 : Nat} (h0 : (x2 = x1)) (h1 : (x0 < x2)) : (x0 < x1) := rn1 (far 1 [(x0 : Int), (x1 : Int), (x2 : Int)] [(1, .s (.v 1) (.v 2)), (1, .s (.s (.v 2) (.v 0)) (.n 1))] (.s (.s (.v 1) (.v 0)) (.n 1)) (by decide) (qn (Nat.le_of_eq h0)) (qn1 h1))
theorem om65 {x0 : Nat} {x1 : Nat} {x2 : Nat} (h0 : (x0 = x2)) (h1 : (x2 = x1)) : (x0 = x1) := Nat.le_antisymm (rn (far 1 [(x0 : Int), (x1 : Int), (x2 : Int)] [(1, .s (.v 2) (.v 0)), (1, .s (.v 1) (.v 2))] (.s (.v 1) (.v 0)) (by decide) (qn (Nat.le_of_eq h0)) (qn (Nat.le_of_eq h1)))) (rn (far 1 [(x0 : Int), (x1 : Int), (x2 : Int)] [(1, .s (.v 0) (.v 2)), (1, .s (.v 2) (.v 1))] (.s (.v 0) (.v 1)) (by decide) (qn (Nat.le_of_eq h0.symm)) (qn (Nat.le_of_eq h1.symm))))
theorem om66 {x0 : Nat} {x1 : Nat} {x2 : Nat} (h0 : ((x2 + (100 : Nat)) < x1)) (h1 : (x0 ≤ (x2 + (3 : Nat)))) : (x0 < x1) := rn1 (far 1 [(x0 : Int), (x1 : Int), (x2 : Int)] [(1, .s (.s (.v 1) (.a (.v 2) (.n 100))) (.n 1)), (1, .s (.a (.v 2) (.n 3)) (.v 0))] (.s (.s (.v 1) (.v 0)) (.n 1)) (by decide) (qn1 h0) (qn h1))
theorem om67 {x0 : Nat} {x1 : Nat} (h0 : (x0 = x1)) : (x0 = x1) := Nat.le_antisymm (rn (far 1 [(x0 : Int), (x1 : Int)] [(1, .s (.v 1) (.v 0))] (.s (.v 1) (.v 0)) (by decide) (qn (Nat.le_of_eq h0)))) (rn (far 1 [(x0 : Int), (x1 : Int)] [(1, .s (.v 0) (.v 1))] (.s (.v 0) (.v 1)) (by decide) (qn (Nat.le_of_eq h0.symm))))
theorem om68 {x0 : Nat} : (((0 : Nat) + (1 : Nat)) ≤ (x0 + (1 : Nat))) := rn (far 1 [(x0 : Int)] [(1, .v 0)] (.s (.a (.v 0) (.n 1)) (.a (.n 0) (.n 1))) (by decide) (qv x0))
theorem om69 {x0 : Nat} {x1 : Nat} (h0 : (x1 ≤ (1000 : Nat))) (h1 : (x0 = x1)) : (x0 ≤ (1000 : Nat)) := rn (far 1 [(x0 : Int), (x1 : Int)] [(1, .s (.n 1000) (.v 1)), (1, .s (.v 1) (.v 0))] (.s (.n 1000) (.v 0)) (by decide) (qn h0) (qn (Nat.le_of_eq h1)))
theorem om70 {x0 : Nat} (h0 : (x0 ≤ (1000 : Nat))) : (x0 ≤ (100000 : Nat)) := rn (far 1 [(x0 : Int)] [(100, .s (.n 1000) (.v 0)), (99, .v 0)] (.s (.n 100000) (.v 0)) (by decide) (qn h0) (qv x0))
theorem om71 {x0 : Nat} : (((0 : Nat) + (1 : Nat)) ≤ (x0 + (4 : Nat))) := rn (far 1 [(x0 : Int)] [(1, .v 0)] (.s (.a (.v 0) (.n 4)) (.a (.n 0) (.n 1))) (by decide) (qv x0))
theorem om72 {x0 : Nat} {x1 : Nat} {x2 : Nat} (h0 : (((x0 + ((8 : Nat) * (x2 + (4 : Nat)))) + (200 : Nat)) < x1)) : ((x0 + (200 : Nat)) < x1) := rn1 (far 1 [(x0 : Int), (x1 : Int), (x2 : Int)] [(1, .s (.s (.v 1) (.a (.a (.v 0) (.m 8 (.a (.v 2) (.n 4)))) (.n 200))) (.n 1)), (8, .v 2)] (.s (.s (.v 1) (.a (.v 0) (.n 200))) (.n 1)) (by decide) (qn1 h0) (qv x2))
theorem om73 {x0 : Nat} {x1 : Nat} {x2 : Nat} (h0 : (x1 ≤ (60 : Nat))) (h1 : (x2 ≤ x1)) (h2 : (x0 = x2)) : (x0 ≤ (60 : Nat)) := rn (far 1 [(x0 : Int), (x1 : Int), (x2 : Int)] [(1, .s (.n 60) (.v 1)), (1, .s (.v 1) (.v 2)), (1, .s (.v 2) (.v 0))] (.s (.n 60) (.v 0)) (by decide) (qn h0) (qn h1) (qn (Nat.le_of_eq h2)))
theorem om74 {x0 : Nat} (h0 : (x0 ≤ (60 : Nat))) : (x0 ≤ (100000 : Nat)) := rn (far 3 [(x0 : Int)] [(5000, .s (.n 60) (.v 0)), (4997, .v 0)] (.s (.n 100000) (.v 0)) (by decide) (qn h0) (qv x0))
theorem om75 {x0 : Nat} {x1 : Nat} {x2 : Nat} (h0 : (x1 ≤ (60 : Nat))) (h1 : (x0 ≤ x1)) (h2 : (x2 = x0)) : (x0 ≤ (100000 : Nat)) := rn (far 3 [(x0 : Int), (x1 : Int), (x2 : Int)] [(5000, .s (.n 60) (.v 1)), (5000, .s (.v 1) (.v 0)), (4997, .v 0)] (.s (.n 100000) (.v 0)) (by decide) (qn h0) (qn h1) (qv x0))
theorem om76 {x0 : Nat} {x1 : Nat} {x2 : Nat} {x3 : Nat} (h0 : (x1 ≤ (60 : Nat))) (h1 : (x2 ≤ x1)) (h2 : (x3 = x2)) (h3 : (x0 = x3)) : (x0 ≤ (60 : Nat)) := rn (far 1 [(x0 : Int), (x1 : Int), (x2 : Int), (x3 : Int)] [(1, .s (.n 60) (.v 1)), (1, .s (.v 1) (.v 2)), (1, .s (.v 2) (.v 3)), (1, .s (.v 3) (.v 0))] (.s (.n 60) (.v 0)) (by decide) (qn h0) (qn h1) (qn (Nat.le_of_eq h2)) (qn (Nat.le_of_eq h3)))
theorem om77 {x0 : Nat} {x1 : Nat} (h0 : ((x0 + (200 : Nat)) < x1)) : ((x0 + (100 : Nat)) < x1) := rn1 (far 1 [(x0 : Int), (x1 : Int)] [(1, .s (.s (.v 1) (.a (.v 0) (.n 200))) (.n 1))] (.s (.s (.v 1) (.a (.v 0) (.n 100))) (.n 1)) (by decide) (qn1 h0))
theorem om78 {x0 : Nat} {x1 : Nat} {x2 : Nat} (h0 : (x1 ≤ x2)) (h1 : (x2 ≤ (20 : Nat))) (h2 : (x0 = x1)) : (x0 ≤ (1000000000 : Nat)) := rn (far 1 [(x0 : Int), (x1 : Int), (x2 : Int)] [(50000000, .s (.v 2) (.v 1)), (50000000, .s (.n 20) (.v 2)), (50000000, .s (.v 1) (.v 0)), (49999999, .v 0)] (.s (.n 1000000000) (.v 0)) (by decide) (qn h0) (qn h1) (qn (Nat.le_of_eq h2)) (qv x0))
theorem om79 {x0 : Nat} : ((0 : Int) ≤ ((x0 : Nat) : Int)) := ri (far 1 [(x0 : Int)] [(1, .v 0)] (.s (.v 0) (.n 0)) (by decide) (qv x0))
theorem om80 {x0 : Nat} {x1 : Nat} {x2 : Nat} {x3 : Nat} (h0 : (x1 ≤ x2)) (h1 : (x2 ≤ (20 : Nat))) (h2 : (x3 = x1)) (h3 : (x0 < x1)) : (((x0 : Nat) : Int) ≤ (1000000000 : Int)) := ri (far 19 [(x0 : Int), (x1 : Int), (x2 : Int), (x3 : Int)] [(1000000000, .s (.v 2) (.v 1)), (1000000000, .s (.n 20) (.v 2)), (1000000000, .s (.s (.v 1) (.v 0)) (.n 1)), (999999981, .v 0)] (.s (.n 1000000000) (.v 0)) (by decide) (qn h0) (qn h1) (qn1 h3) (qv x0))
theorem om81 {x0 : Nat} {x1 : Nat} {x2 : Nat} {x3 : Nat} (h0 : (x1 ≤ (20 : Nat))) (h1 : (x2 ≤ x1)) (h2 : (x3 = x2)) (h3 : (x0 = x2)) : (x0 ≤ (60 : Nat)) := rn (far 1 [(x0 : Int), (x1 : Int), (x2 : Int), (x3 : Int)] [(3, .s (.n 20) (.v 1)), (3, .s (.v 1) (.v 2)), (3, .s (.v 2) (.v 0)), (2, .v 0)] (.s (.n 60) (.v 0)) (by decide) (qn h0) (qn h1) (qn (Nat.le_of_eq h3)) (qv x0))
theorem om82 {x0 : Nat} {x1 : Nat} {x2 : Nat} {x3 : Nat} (h0 : (x2 ≤ (20 : Nat))) (h1 : (x3 ≤ x2)) (h2 : (x0 = x3)) (h3 : ((1000 : Nat) < x1)) : (x0 ≤ x1) := rn (far 20 [(x0 : Int), (x1 : Int), (x2 : Int), (x3 : Int)] [(1001, .s (.n 20) (.v 2)), (1001, .s (.v 2) (.v 3)), (1001, .s (.v 3) (.v 0)), (20, .s (.s (.v 1) (.n 1000)) (.n 1)), (981, .v 0)] (.s (.v 1) (.v 0)) (by decide) (qn h0) (qn h1) (qn (Nat.le_of_eq h2)) (qn1 h3) (qv x0))
theorem om83 {x0 : Nat} {x1 : Nat} {x2 : Nat} {x3 : Nat} {x4 : Nat} (h0 : (x1 = ((21 : Nat) - x0))) (h1 : (x2 ≤ x3)) (h2 : (x3 ≤ (20 : Nat))) (h3 : (x4 = x2)) (h4 : (x0 < x2)) : (((21 : Nat) - (x0 + (1 : Nat))) < x1) := by omega
theorem om84 {x0 : Nat} {x1 : Nat} {x2 : Nat} {x3 : Nat} (h0 : (x3 = x1)) (h1 : (x0 < x1)) : ((x0 + (1 : Nat)) ≤ (x1 + x2)) := rn (far 1 [(x0 : Int), (x1 : Int), (x2 : Int), (x3 : Int)] [(1, .s (.s (.v 1) (.v 0)) (.n 1)), (1, .v 2)] (.s (.a (.v 1) (.v 2)) (.a (.v 0) (.n 1))) (by decide) (qn1 h1) (qv x2))
theorem om85 {x0 : Nat} {x1 : Nat} {x2 : Nat} (h0 : (x1 ≤ x0)) (h1 : (x2 = x0)) (h2 : (x2 ≤ x1)) : (x0 ≤ x1) := rn (far 1 [(x0 : Int), (x1 : Int), (x2 : Int)] [(1, .s (.v 2) (.v 0)), (1, .s (.v 1) (.v 2))] (.s (.v 1) (.v 0)) (by decide) (qn (Nat.le_of_eq h1.symm)) (qn h2))
theorem om86 {x0 : Nat} {x1 : Nat} {x2 : Nat} (h0 : (x1 ≤ x2)) : ((x0 + x1) ≤ (x0 + x2)) := rn (far 1 [(x0 : Int), (x1 : Int), (x2 : Int)] [(1, .s (.v 2) (.v 1))] (.s (.a (.v 0) (.v 2)) (.a (.v 0) (.v 1))) (by decide) (qn h0))
theorem om87 {x0 : Nat} {x1 : Nat} (h0 : (x0 ≤ x1)) : (((1 : Nat) + x0) ≤ ((1 : Nat) + x1)) := rn (far 1 [(x0 : Int), (x1 : Int)] [(1, .s (.v 1) (.v 0))] (.s (.a (.n 1) (.v 1)) (.a (.n 1) (.v 0))) (by decide) (qn h0))
theorem om88 {x0 : Nat} {x1 : Nat} (h0 : (x1 ≤ (60 : Nat))) (h1 : (x0 = x1)) : (x0 ≤ (60 : Nat)) := rn (far 1 [(x0 : Int), (x1 : Int)] [(1, .s (.n 60) (.v 1)), (1, .s (.v 1) (.v 0))] (.s (.n 60) (.v 0)) (by decide) (qn h0) (qn (Nat.le_of_eq h1)))
theorem om89 {x0 : Nat} {x1 : Nat} (h0 : (x1 ≤ (60 : Nat))) (h1 : (x0 ≤ x1)) : (x0 ≤ (60 : Nat)) := rn (far 1 [(x0 : Int), (x1 : Int)] [(1, .s (.n 60) (.v 1)), (1, .s (.v 1) (.v 0))] (.s (.n 60) (.v 0)) (by decide) (qn h0) (qn h1))
theorem om90 {x0 : Nat} {x1 : Nat} (h0 : (x1 ≤ (20 : Nat))) (h1 : (x0 = x1)) : (x0 ≤ (60 : Nat)) := rn (far 1 [(x0 : Int), (x1 : Int)] [(3, .s (.n 20) (.v 1)), (3, .s (.v 1) (.v 0)), (2, .v 0)] (.s (.n 60) (.v 0)) (by decide) (qn h0) (qn (Nat.le_of_eq h1)) (qv x0))
theorem om91 {x0 : Nat} : (((0 : Nat) + (1 : Nat)) ≤ (x0 + (6 : Nat))) := rn (far 1 [(x0 : Int)] [(1, .v 0)] (.s (.a (.v 0) (.n 6)) (.a (.n 0) (.n 1))) (by decide) (qv x0))
theorem om92 {x0 : Nat} {x1 : Nat} (h0 : (x1 ≤ (60 : Nat))) (h1 : (x0 = x1)) : (x0 ≤ (100000 : Nat)) := rn (far 3 [(x0 : Int), (x1 : Int)] [(5000, .s (.n 60) (.v 1)), (5000, .s (.v 1) (.v 0)), (4997, .v 0)] (.s (.n 100000) (.v 0)) (by decide) (qn h0) (qn (Nat.le_of_eq h1)) (qv x0))
theorem om93 {x0 : Nat} {x1 : Nat} (h0 : (x0 ≤ (60 : Nat))) (h1 : (x1 = x0)) : (x0 ≤ (100000 : Nat)) := rn (far 3 [(x0 : Int), (x1 : Int)] [(5000, .s (.n 60) (.v 0)), (4997, .v 0)] (.s (.n 100000) (.v 0)) (by decide) (qn h0) (qv x0))
theorem om94 {x0 : Nat} {x1 : Nat} (h0 : (x0 = x1)) (h1 : (x1 ≤ (20 : Nat))) : (x0 ≤ (100000 : Nat)) := rn (far 1 [(x0 : Int), (x1 : Int)] [(5000, .s (.v 1) (.v 0)), (5000, .s (.n 20) (.v 1)), (4999, .v 0)] (.s (.n 100000) (.v 0)) (by decide) (qn (Nat.le_of_eq h0)) (qn h1) (qv x0))
theorem om95 {x0 : Nat} {x1 : Nat} {x2 : Nat} (h0 : ((x0 + x1) ≤ (1000 : Nat))) (h1 : ((1000 : Nat) < x2)) : ((x0 + x1) ≤ x2) := rn (far 1000 [(x0 : Int), (x1 : Int), (x2 : Int)] [(1001, .s (.n 1000) (.a (.v 0) (.v 1))), (1000, .s (.s (.v 2) (.n 1000)) (.n 1)), (1, .v 0), (1, .v 1)] (.s (.v 2) (.a (.v 0) (.v 1))) (by decide) (qn h0) (qn1 h1) (qv x0) (qv x1))
theorem om96 {x0 : Nat} : (((0 : Nat) + (1 : Nat)) ≤ (x0 + (2 : Nat))) := rn (far 1 [(x0 : Int)] [(1, .v 0)] (.s (.a (.v 0) (.n 2)) (.a (.n 0) (.n 1))) (by decide) (qv x0))
theorem om97 {x0 : Nat} {x1 : Nat} {x2 : Nat} (h0 : (x0 = x1)) (h1 : (x1 ≤ x2)) (h2 : (((1 : Nat) + x2) ≤ (60 : Nat))) : (x0 ≤ (100000 : Nat)) := rn (far 59 [(x0 : Int), (x1 : Int), (x2 : Int)] [(100000, .s (.v 1) (.v 0)), (100000, .s (.v 2) (.v 1)), (100000, .s (.n 60) (.a (.n 1) (.v 2))), (99941, .v 0)] (.s (.n 100000) (.v 0)) (by decide) (qn (Nat.le_of_eq h0)) (qn h1) (qn h2) (qv x0))
theorem om98 {x0 : Nat} {x1 : Nat} (h0 : (((1 : Nat) + x1) ≤ (60 : Nat))) (h1 : (x0 ≤ x1)) : (x0 ≤ (60 : Nat)) := rn (far 59 [(x0 : Int), (x1 : Int)] [(60, .s (.n 60) (.a (.n 1) (.v 1))), (60, .s (.v 1) (.v 0)), (1, .v 0)] (.s (.n 60) (.v 0)) (by decide) (qn h0) (qn h1) (qv x0))
theorem om99 {x0 : Nat} {x1 : Nat} {x2 : Nat} {x3 : Nat} (h0 : ((((2 : Nat) * ((1 : Nat) + x2)) - (1 : Nat)) ≤ (x1 + (1 : Nat)))) (h1 : (((1 : Nat) + x2) ≤ (60 : Nat))) (h2 : (x3 ≤ x2)) (h3 : (x0 ≤ ((2 : Nat) * x3))) : (x0 ≤ x1) := rn (far 1 [(x0 : Int), (x1 : Int), (x2 : Int), (x3 : Int), (((((2 : Nat) * ((1 : Nat) + x2)) - (1 : Nat)) : Nat) : Int)] [(1, .s (.a (.v 1) (.n 1)) (.v 4)), (2, .s (.v 2) (.v 3)), (1, .s (.m 2 (.v 3)) (.v 0)), (1, .s (.v 4) (.s (.m 2 (.a (.n 1) (.v 2))) (.n 1)))] (.s (.v 1) (.v 0)) (by decide) (qn h0) (qn h2) (qn h3) (qs1 ((2 : Nat) * ((1 : Nat) + x2)) (1 : Nat)))
theorem om100 {x0 : Nat} {x1 : Nat} {x2 : Nat} {x3 : Nat} (h0 : (x1 = x2)) (h1 : (x2 ≤ x3)) (h2 : (((1 : Nat) + x3) ≤ (60 : Nat))) (h3 : (x0 ≤ x1)) : (x0 ≤ (1000000 : Nat)) := rn (far 59 [(x0 : Int), (x1 : Int), (x2 : Int), (x3 : Int)] [(1000000, .s (.v 2) (.v 1)), (1000000, .s (.v 3) (.v 2)), (1000000, .s (.n 60) (.a (.n 1) (.v 3))), (1000000, .s (.v 1) (.v 0)), (999941, .v 0)] (.s (.n 1000000) (.v 0)) (by decide) (qn (Nat.le_of_eq h0)) (qn h1) (qn h2) (qn h3) (qv x0))
theorem om101 {x0 : Nat} {x1 : Nat} {x2 : Nat} {x3 : Nat} (h0 : (x1 = x2)) (h1 : (x2 ≤ x3)) (h2 : (((1 : Nat) + x3) ≤ (60 : Nat))) (h3 : (x0 ≤ x1)) : (((1 : Nat) + x0) ≤ (1000 : Nat)) := rn (far 59 [(x0 : Int), (x1 : Int), (x2 : Int), (x3 : Int)] [(999, .s (.v 2) (.v 1)), (999, .s (.v 3) (.v 2)), (999, .s (.n 60) (.a (.n 1) (.v 3))), (999, .s (.v 1) (.v 0)), (940, .v 0)] (.s (.n 1000) (.a (.n 1) (.v 0))) (by decide) (qn (Nat.le_of_eq h0)) (qn h1) (qn h2) (qn h3) (qv x0))
theorem om102 {x0 : Nat} {x1 : Nat} {x2 : Nat} (h0 : (x0 = x1)) (h1 : (x1 ≤ x2)) (h2 : (((1 : Nat) + x2) ≤ (60 : Nat))) : (x0 ≤ (60 : Nat)) := rn (far 59 [(x0 : Int), (x1 : Int), (x2 : Int)] [(60, .s (.v 1) (.v 0)), (60, .s (.v 2) (.v 1)), (60, .s (.n 60) (.a (.n 1) (.v 2))), (1, .v 0)] (.s (.n 60) (.v 0)) (by decide) (qn (Nat.le_of_eq h0)) (qn h1) (qn h2) (qv x0))
theorem om103 {x0 : Nat} {x1 : Nat} {x2 : Nat} {x3 : Nat} {x4 : Nat} (h0 : (x1 = x2)) (h1 : (x2 ≤ x3)) (h2 : (((1 : Nat) + x3) ≤ (60 : Nat))) (h3 : (x0 = x4)) (h4 : (x4 = x1)) : (x0 ≤ (100000 : Nat)) := rn (far 59 [(x0 : Int), (x1 : Int), (x2 : Int), (x3 : Int), (x4 : Int)] [(100000, .s (.v 2) (.v 1)), (100000, .s (.v 3) (.v 2)), (100000, .s (.n 60) (.a (.n 1) (.v 3))), (100000, .s (.v 4) (.v 0)), (100000, .s (.v 1) (.v 4)), (99941, .v 0)] (.s (.n 100000) (.v 0)) (by decide) (qn (Nat.le_of_eq h0)) (qn h1) (qn h2) (qn (Nat.le_of_eq h3)) (qn (Nat.le_of_eq h4)) (qv x0))
theorem om104 {x0 : Nat} {x1 : Nat} {x2 : Nat} {x3 : Nat} {x4 : Nat} {x5 : Nat} (h0 : (x1 = x2)) (h1 : (x2 ≤ x3)) (h2 : (((1 : Nat) + x3) ≤ (60 : Nat))) (h3 : (x4 = x5)) (h4 : (x5 = x1)) (h5 : (x0 ≤ x4)) : (x0 ≤ (1000000 : Nat)) := rn (far 59 [(x0 : Int), (x1 : Int), (x2 : Int), (x3 : Int), (x4 : Int), (x5 : Int)] [(1000000, .s (.v 2) (.v 1)), (1000000, .s (.v 3) (.v 2)), (1000000, .s (.n 60) (.a (.n 1) (.v 3))), (1000000, .s (.v 5) (.v 4)), (1000000, .s (.v 1) (.v 5)), (1000000, .s (.v 4) (.v 0)), (999941, .v 0)] (.s (.n 1000000) (.v 0)) (by decide) (qn (Nat.le_of_eq h0)) (qn h1) (qn h2) (qn (Nat.le_of_eq h3)) (qn (Nat.le_of_eq h4)) (qn h5) (qv x0))
theorem om105 {x0 : Nat} {x1 : Nat} {x2 : Nat} {x3 : Nat} {x4 : Nat} {x5 : Nat} (h0 : (x1 = x2)) (h1 : (x2 ≤ x3)) (h2 : (((1 : Nat) + x3) ≤ (60 : Nat))) (h3 : (x4 = x5)) (h4 : (x5 = x1)) (h5 : (x0 ≤ x4)) : (((1 : Nat) + x0) ≤ (1000 : Nat)) := rn (far 59 [(x0 : Int), (x1 : Int), (x2 : Int), (x3 : Int), (x4 : Int), (x5 : Int)] [(999, .s (.v 2) (.v 1)), (999, .s (.v 3) (.v 2)), (999, .s (.n 60) (.a (.n 1) (.v 3))), (999, .s (.v 5) (.v 4)), (999, .s (.v 1) (.v 5)), (999, .s (.v 4) (.v 0)), (940, .v 0)] (.s (.n 1000) (.a (.n 1) (.v 0))) (by decide) (qn (Nat.le_of_eq h0)) (qn h1) (qn h2) (qn (Nat.le_of_eq h3)) (qn (Nat.le_of_eq h4)) (qn h5) (qv x0))
theorem om106 {x0 : Nat} {x1 : Nat} (h0 : (((2 : Nat) * ((1 : Nat) + x0)) ≤ (x1 + (1 : Nat)))) : ((((2 : Nat) * ((1 : Nat) + x0)) - (1 : Nat)) ≤ x1) := by omega
theorem om107 {x0 : Nat} (h0 : (x0 ≤ (0 : Nat))) : (x0 = (0 : Nat)) := Nat.le_antisymm (rn (far 1 [(x0 : Int)] [(1, .s (.n 0) (.v 0))] (.s (.n 0) (.v 0)) (by decide) (qn h0))) (rn (far 1 [(x0 : Int)] [(1, .v 0)] (.s (.v 0) (.n 0)) (by decide) (qv x0)))
theorem om108 {x0 : Nat} : (((0 : Nat) + (2 : Nat)) ≤ ((x0 + (1 : Nat)) + (2 : Nat))) := rn (far 1 [(x0 : Int)] [(1, .v 0)] (.s (.a (.a (.v 0) (.n 1)) (.n 2)) (.a (.n 0) (.n 2))) (by decide) (qv x0))
theorem om109 {x0 : Nat} {x1 : Nat} (h0 : (x1 ≤ (20 : Nat))) (h1 : (x0 = x1)) : (x0 ≤ (100000 : Nat)) := rn (far 1 [(x0 : Int), (x1 : Int)] [(5000, .s (.n 20) (.v 1)), (5000, .s (.v 1) (.v 0)), (4999, .v 0)] (.s (.n 100000) (.v 0)) (by decide) (qn h0) (qn (Nat.le_of_eq h1)) (qv x0))
theorem om110 {x0 : Nat} {x1 : Nat} (h0 : (x1 ≤ (60 : Nat))) (h1 : (x0 ≤ ((2 : Nat) * x1))) : (x0 ≤ (120 : Nat)) := rn (far 1 [(x0 : Int), (x1 : Int)] [(2, .s (.n 60) (.v 1)), (1, .s (.m 2 (.v 1)) (.v 0))] (.s (.n 120) (.v 0)) (by decide) (qn h0) (qn h1))
theorem om111 {x0 : Nat} {x1 : Nat} {x2 : Nat} (h0 : (x1 ≤ (20 : Nat))) (h1 : (x2 = x1)) (h2 : (x0 ≤ x2)) : (x0 ≤ (1000000 : Nat)) := rn (far 1 [(x0 : Int), (x1 : Int), (x2 : Int)] [(50000, .s (.n 20) (.v 1)), (50000, .s (.v 1) (.v 2)), (50000, .s (.v 2) (.v 0)), (49999, .v 0)] (.s (.n 1000000) (.v 0)) (by decide) (qn h0) (qn (Nat.le_of_eq h1)) (qn h2) (qv x0))
theorem om112 {x0 : Nat} {x1 : Nat} {x2 : Nat} {x3 : Nat} (h0 : (x1 = x2)) (h1 : (x2 ≤ x3)) (h2 : (((1 : Nat) + x3) ≤ (60 : Nat))) (h3 : (x0 = x1)) : (x0 ≤ (100000 : Nat)) := rn (far 59 [(x0 : Int), (x1 : Int), (x2 : Int), (x3 : Int)] [(100000, .s (.v 2) (.v 1)), (100000, .s (.v 3) (.v 2)), (100000, .s (.n 60) (.a (.n 1) (.v 3))), (100000, .s (.v 1) (.v 0)), (99941, .v 0)] (.s (.n 100000) (.v 0)) (by decide) (qn (Nat.le_of_eq h0)) (qn h1) (qn h2) (qn (Nat.le_of_eq h3)) (qv x0))
theorem om113 {x0 : Nat} : (((0 : Nat) + (2 : Nat)) ≤ (x0 + (3 : Nat))) := rn (far 1 [(x0 : Int)] [(1, .v 0)] (.s (.a (.v 0) (.n 3)) (.a (.n 0) (.n 2))) (by decide) (qv x0))
theorem om114 {x0 : Nat} : (((0 : Nat) + (2 : Nat)) ≤ ((x0 + (1 : Nat)) + (3 : Nat))) := rn (far 1 [(x0 : Int)] [(1, .v 0)] (.s (.a (.a (.v 0) (.n 1)) (.n 3)) (.a (.n 0) (.n 2))) (by decide) (qv x0))
theorem om115 {x0 : Nat} {x1 : Nat} (h0 : (((x0 + (1 : Nat)) + (1 : Nat)) ≤ x1)) : ((x0 + (1 : Nat)) < x1) := rn1 (far 1 [(x0 : Int), (x1 : Int)] [(1, .s (.v 1) (.a (.a (.v 0) (.n 1)) (.n 1)))] (.s (.s (.v 1) (.a (.v 0) (.n 1))) (.n 1)) (by decide) (qn h0))
theorem om116 {x0 : Nat} {x1 : Nat} {x2 : Nat} (h0 : (x2 ≤ x1)) (h1 : ((x0 + (1 : Nat)) < x2)) : (x0 ≤ x1) := rn (far 1 [(x0 : Int), (x1 : Int), (x2 : Int)] [(1, .s (.v 1) (.v 2)), (1, .s (.s (.v 2) (.a (.v 0) (.n 1))) (.n 1))] (.s (.v 1) (.v 0)) (by decide) (qn h0) (qn1 h1))
theorem om117 {x0 : Nat} {x1 : Nat} {x2 : Nat} (h0 : (x2 ≤ x1)) (h1 : ((x0 + (1 : Nat)) < x2)) : (x0 ≠ x1) := fun e => rf (far 2 [(x0 : Int), (x1 : Int), (x2 : Int)] [(1, .s (.v 1) (.v 2)), (1, .s (.s (.v 2) (.a (.v 0) (.n 1))) (.n 1)), (1, .s (.v 0) (.v 1))] (.n (-1)) (by decide) (qn h0) (qn1 h1) (qn (Nat.le_of_eq e.symm)))
theorem om118 {x0 : Nat} : (x0 ≠ (x0 + (1 : Nat))) := fun e => rf (far 1 [(x0 : Int)] [(1, .s (.v 0) (.a (.v 0) (.n 1)))] (.n (-1)) (by decide) (qn (Nat.le_of_eq e.symm)))
theorem om119 {x0 : Nat} {x1 : Nat} {x2 : Nat} (h0 : (x2 ≤ x0)) (h1 : ((x1 + (1 : Nat)) < x2)) : (x0 ≠ (x1 + (1 : Nat))) := fun e => rf (far 1 [(x0 : Int), (x1 : Int), (x2 : Int)] [(1, .s (.v 0) (.v 2)), (1, .s (.s (.v 2) (.a (.v 1) (.n 1))) (.n 1)), (1, .s (.a (.v 1) (.n 1)) (.v 0))] (.n (-1)) (by decide) (qn h0) (qn1 h1) (qn (Nat.le_of_eq e)))
theorem om120 {x0 : Nat} (h0 : (x0 ≤ (1000 : Nat))) : (x0 ≤ (1000000 : Nat)) := rn (far 1 [(x0 : Int)] [(1000, .s (.n 1000) (.v 0)), (999, .v 0)] (.s (.n 1000000) (.v 0)) (by decide) (qn h0) (qv x0))
theorem om121 {x0 : Int} (h0 : ((1 : Int) ≤ x0)) (h1 : (x0 ≤ (8 : Int))) : ((x0 = (1 : Int)) ∨ ((x0 = (2 : Int)) ∨ ((x0 = (3 : Int)) ∨ ((x0 = (4 : Int)) ∨ ((x0 = (5 : Int)) ∨ ((x0 = (6 : Int)) ∨ ((x0 = (7 : Int)) ∨ (x0 = (8 : Int))))))))) := (upI h0).elim .inl fun h => .inr ((upI h).elim .inl fun h => .inr ((upI h).elim .inl fun h => .inr ((upI h).elim .inl fun h => .inr ((upI h).elim .inl fun h => .inr ((upI h).elim .inl fun h => .inr ((upI h).elim .inl fun h => .inr (Int.le_antisymm (h1) h)))))))
theorem om122 {x0 : Int} (h0 : ((1 : Int) ≤ x0)) (h1 : (x0 ≤ (8 : Int))) : (¬ (x0 = (0 : Int))) := fun e => rf (far 1 [(x0 : Int)] [(1, .s (.v 0) (.n 1)), (1, .s (.n 0) (.v 0))] (.n (-1)) (by decide) (qi h0) (qi (Int.le_of_eq e)))
theorem om123 {x0 : Int} (h0 : ((1 : Int) ≤ x0)) (h1 : (x0 ≤ (8 : Int))) : ((0 : Int) ≤ x0) := ri (far 7 [(x0 : Int)] [(8, .s (.v 0) (.n 1)), (1, .s (.n 8) (.v 0))] (.s (.v 0) (.n 0)) (by decide) (qi h0) (qi h1))
theorem om124 {x0 : Int} (h0 : ((1 : Int) ≤ x0)) (h1 : (x0 ≤ (8 : Int))) : (x0 ≠ (0 : Int)) := fun e => rf (far 1 [(x0 : Int)] [(1, .s (.v 0) (.n 1)), (1, .s (.n 0) (.v 0))] (.n (-1)) (by decide) (qi h0) (qi (Int.le_of_eq e)))
theorem om125 {x0 : Int} (h0 : ((1 : Int) ≤ x0)) (h1 : (x0 ≤ (8 : Int))) : ((0 : Int) < x0) := ri1 (far 1 [(x0 : Int)] [(1, .s (.v 0) (.n 1))] (.s (.s (.v 0) (.n 0)) (.n 1)) (by decide) (qi h0))
theorem om126 {x0 : Int} (h0 : ((0 : Int) < x0)) : ((0 : Int) ≤ x0) := ri (far 1 [(x0 : Int)] [(1, .s (.s (.v 0) (.n 0)) (.n 1))] (.s (.v 0) (.n 0)) (by decide) (qi1 h0))
theorem om127 {x0 : Int} (h0 : ((0 : Int) ≤ x0)) (h1 : (x0 ≤ (0 : Int))) : (x0 = (0 : Int)) := Int.le_antisymm (ri (far 1 [(x0 : Int)] [(1, .s (.n 0) (.v 0))] (.s (.n 0) (.v 0)) (by decide) (qi h1))) (ri (far 1 [(x0 : Int)] [(1, .s (.v 0) (.n 0))] (.s (.v 0) (.n 0)) (by decide) (qi h0)))
theorem om128 {x0 : Int} (h0 : ((0 : Int) ≤ x0)) (h1 : (x0 < (900000 : Int))) : ((0 : Int) ≤ (x0 + (1 : Int))) := ri (far 899999 [(x0 : Int)] [(900000, .s (.v 0) (.n 0)), (1, .s (.s (.n 900000) (.v 0)) (.n 1))] (.s (.a (.v 0) (.n 1)) (.n 0)) (by decide) (qi h0) (qi1 h1))
theorem om129 {x0 : Int} (h0 : ((0 : Int) ≤ x0)) (h1 : (x0 < (900000 : Int))) : ((x0 + (1 : Int)) < (1000000 : Int)) := ri1 (far 899999 [(x0 : Int)] [(99999, .s (.v 0) (.n 0)), (999998, .s (.s (.n 900000) (.v 0)) (.n 1))] (.s (.s (.n 1000000) (.a (.v 0) (.n 1))) (.n 1)) (by decide) (qi h0) (qi1 h1))
theorem om130 {x0 : Nat} {x1 : Nat} {x2 : Nat} {x3 : Nat} (h0 : (x1 ≤ x3)) : ((x0 + x1) ≤ ((x2 + x3) + x0)) := rn (far 1 [(x0 : Int), (x1 : Int), (x2 : Int), (x3 : Int)] [(1, .s (.v 3) (.v 1)), (1, .v 2)] (.s (.a (.a (.v 2) (.v 3)) (.v 0)) (.a (.v 0) (.v 1))) (by decide) (qn h0) (qv x2))
theorem om131 {x0 : Nat} {x1 : Nat} {x2 : Nat} {x3 : Nat} (h0 : (x1 ≤ (x2 + x3))) : ((x0 + x1) ≤ ((x0 + x2) + x3)) := rn (far 1 [(x0 : Int), (x1 : Int), (x2 : Int), (x3 : Int)] [(1, .s (.a (.v 2) (.v 3)) (.v 1))] (.s (.a (.a (.v 0) (.v 2)) (.v 3)) (.a (.v 0) (.v 1))) (by decide) (qn h0))
theorem om132 {x0 : Int} (h0 : ((8 : Int) ≤ x0)) : ((8 : Int) ≤ ((8 : Int) * x0)) := ri (far 1 [(x0 : Int)] [(8, .s (.v 0) (.n 8))] (.s (.m 8 (.v 0)) (.n 8)) (by decide) (qi h0))
theorem om133 {x0 : Nat} : ((1 : Nat) ≤ ((1 : Nat) + ((3 : Nat) * x0))) := rn (far 1 [(x0 : Int)] [(3, .v 0)] (.s (.a (.n 1) (.m 3 (.v 0))) (.n 1)) (by decide) (qv x0))
theorem om134 {x0 : Nat} {x1 : Nat} : (((0 : Nat) + (1 : Nat)) ≤ ((x0 + ((4 : Nat) * x1)) + (5 : Nat))) := rn (far 1 [(x0 : Int), (x1 : Int)] [(1, .v 0), (4, .v 1)] (.s (.a (.a (.v 0) (.m 4 (.v 1))) (.n 5)) (.a (.n 0) (.n 1))) (by decide) (qv x0) (qv x1))
theorem om135 {x0 : Nat} {x1 : Nat} : (((0 : Nat) + (2 : Nat)) ≤ ((x0 + ((4 : Nat) * x1)) + (5 : Nat))) := rn (far 1 [(x0 : Int), (x1 : Int)] [(1, .v 0), (4, .v 1)] (.s (.a (.a (.v 0) (.m 4 (.v 1))) (.n 5)) (.a (.n 0) (.n 2))) (by decide) (qv x0) (qv x1))
theorem om136 {x0 : Int} {x1 : Int} (h0 : ((x0 + x1) ≤ (800000 : Int))) (h1 : ((8 : Int) ≤ x1)) : (x0 < (900000 : Int)) := ri1 (far 1 [(x0 : Int), (x1 : Int)] [(1, .s (.n 800000) (.a (.v 0) (.v 1))), (1, .s (.v 1) (.n 8))] (.s (.s (.n 900000) (.v 0)) (.n 1)) (by decide) (qi h0) (qi h1))
theorem om137 {x0 : Int} (h0 : ((0 : Int) ≤ x0)) : ((0 : Int) ≤ (x0 + (1 : Int))) := ri (far 1 [(x0 : Int)] [(1, .s (.v 0) (.n 0))] (.s (.a (.v 0) (.n 1)) (.n 0)) (by decide) (qi h0))
theorem om138 {x0 : Int} {x1 : Int} (h0 : ((x0 + x1) ≤ (800000 : Int))) (h1 : ((8 : Int) ≤ x1)) : ((x0 + (1 : Int)) < (900000 : Int)) := ri1 (far 1 [(x0 : Int), (x1 : Int)] [(1, .s (.n 800000) (.a (.v 0) (.v 1))), (1, .s (.v 1) (.n 8))] (.s (.s (.n 900000) (.a (.v 0) (.n 1))) (.n 1)) (by decide) (qi h0) (qi h1))
theorem om139 {x0 : Int} (h0 : ((0 : Int) ≤ x0)) : ((0 : Int) ≤ ((x0 + (1 : Int)) + (1 : Int))) := ri (far 1 [(x0 : Int)] [(1, .s (.v 0) (.n 0))] (.s (.a (.a (.v 0) (.n 1)) (.n 1)) (.n 0)) (by decide) (qi h0))
theorem om140 {x0 : Int} {x1 : Int} (h0 : ((x0 + x1) ≤ (800000 : Int))) (h1 : ((8 : Int) ≤ x1)) : (((x0 + (1 : Int)) + (1 : Int)) < (900000 : Int)) := ri1 (far 1 [(x0 : Int), (x1 : Int)] [(1, .s (.n 800000) (.a (.v 0) (.v 1))), (1, .s (.v 1) (.n 8))] (.s (.s (.n 900000) (.a (.a (.v 0) (.n 1)) (.n 1))) (.n 1)) (by decide) (qi h0) (qi h1))
theorem om141 {x0 : Int} : (x0 ≤ (((x0 + (1 : Int)) + (1 : Int)) + (1 : Int))) := ri (far 1 [(x0 : Int)] [] (.s (.a (.a (.a (.v 0) (.n 1)) (.n 1)) (.n 1)) (.v 0)) (by decide))
theorem om142 {x0 : Int} {x1 : Int} (h0 : ((8 : Int) ≤ x1)) : ((((x0 + (1 : Int)) + (1 : Int)) + (1 : Int)) ≤ (x0 + x1)) := ri (far 1 [(x0 : Int), (x1 : Int)] [(1, .s (.v 1) (.n 8))] (.s (.a (.v 0) (.v 1)) (.a (.a (.a (.v 0) (.n 1)) (.n 1)) (.n 1))) (by decide) (qi h0))
theorem om143 {x0 : Int} : (x0 ≤ ((x0 + (1 : Int)) + (1 : Int))) := ri (far 1 [(x0 : Int)] [] (.s (.a (.a (.v 0) (.n 1)) (.n 1)) (.v 0)) (by decide))
theorem om144 {x0 : Int} {x1 : Int} (h0 : ((8 : Int) ≤ x1)) : (((x0 + (1 : Int)) + (1 : Int)) ≤ (x0 + x1)) := ri (far 1 [(x0 : Int), (x1 : Int)] [(1, .s (.v 1) (.n 8))] (.s (.a (.v 0) (.v 1)) (.a (.a (.v 0) (.n 1)) (.n 1))) (by decide) (qi h0))
theorem om145 {x0 : Int} (h0 : ((0 : Int) ≤ x0)) (h1 : (x0 < (2 : Int))) : ((x0 = (0 : Int)) ∨ (x0 = (1 : Int))) := (upI h0).elim .inl fun h => .inr (Int.le_antisymm (Int.le_of_lt_add_one h1) h)
theorem om146 {x0 : Int} (h0 : ((0 : Int) ≤ x0)) (h1 : (x0 < (2 : Int))) : (x0 ≤ (1000000000 : Int)) := ri (far 1 [(x0 : Int)] [(999999999, .s (.v 0) (.n 0)), (1000000000, .s (.s (.n 2) (.v 0)) (.n 1))] (.s (.n 1000000000) (.v 0)) (by decide) (qi h0) (qi1 h1))
theorem om147 {x0 : Int} (h0 : ((3 : Int) ≤ x0)) (h1 : (¬ (x0 = (3 : Int)))) (h2 : (¬ (x0 = (4 : Int)))) (h3 : (x0 < (5 : Int))) : False := by omega
theorem om148 {x0 : Nat} (h0 : ((0 : Nat) < x0)) : (x0 = ((x0 - (1 : Nat)) + (1 : Nat))) := by omega
theorem om149 {x0 : Nat} {x1 : Nat} (h0 : (x1 ≤ (1000 : Nat))) (h1 : ((1 : Nat) ≤ x1)) (h2 : (x1 = ((1 : Nat) + ((3 : Nat) * x0)))) : (x0 ≤ (1000 : Nat)) := rn (far 999 [(x0 : Int), (x1 : Int)] [(1000, .s (.n 1000) (.v 1)), (667, .s (.v 1) (.n 1)), (333, .s (.v 1) (.a (.n 1) (.m 3 (.v 0))))] (.s (.n 1000) (.v 0)) (by decide) (qn h0) (qn h1) (qn (Nat.le_of_eq h2.symm)))
theorem om150 {x0 : Int} {x1 : Int} {x2 : Int} (h0 : ((x0 + x1) ≤ (800000 : Int))) (h1 : ((8 : Int) ≤ x2)) (h2 : (x1 = ((8 : Int) * x2))) : ((x0 + (1 : Int)) < (900000 : Int)) := ri1 (far 1 [(x0 : Int), (x1 : Int), (x2 : Int)] [(1, .s (.n 800000) (.a (.v 0) (.v 1))), (8, .s (.v 2) (.n 8)), (1, .s (.v 1) (.m 8 (.v 2)))] (.s (.s (.n 900000) (.a (.v 0) (.n 1))) (.n 1)) (by decide) (qi h0) (qi h1) (qi (Int.le_of_eq h2.symm)))
theorem om151 {x0 : Nat} : (((x0 : Nat) : Int) = ((0 : Int) + ((x0 : Nat) : Int))) := Int.le_antisymm (ri (far 1 [(x0 : Int)] [] (.s (.a (.n 0) (.v 0)) (.v 0)) (by decide))) (ri (far 1 [(x0 : Int)] [] (.s (.v 0) (.a (.n 0) (.v 0))) (by decide)))
theorem om152 {x0 : Nat} (h0 : ((0 : Int) ≤ ((x0 : Nat) : Int))) (h1 : (((x0 : Nat) : Int) < (3 : Int))) : (((x0 : Nat) : Int) ≤ (1000000 : Int)) := ri (far 1 [(x0 : Int)] [(499999, .s (.v 0) (.n 0)), (500000, .s (.s (.n 3) (.v 0)) (.n 1))] (.s (.n 1000000) (.v 0)) (by decide) (qi h0) (qi1 h1))
theorem om153 {x0 : Int} : ((x0 + (2 : Int)) ≤ ((x0 + (1 : Int)) + (1 : Int))) := ri (far 1 [(x0 : Int)] [] (.s (.a (.a (.v 0) (.n 1)) (.n 1)) (.a (.v 0) (.n 2))) (by decide))
theorem om154 {x0 : Int} : (((x0 + (1 : Int)) + (1 : Int)) ≤ (x0 + (2 : Int))) := ri (far 1 [(x0 : Int)] [] (.s (.a (.v 0) (.n 2)) (.a (.a (.v 0) (.n 1)) (.n 1))) (by decide))
theorem om155 {x0 : Nat} {x1 : Nat} {x2 : Nat} (h0 : (x0 ≤ x2)) (h1 : (x2 ≤ x1)) : (x0 ≤ x1) := rn (far 1 [(x0 : Int), (x1 : Int), (x2 : Int)] [(1, .s (.v 2) (.v 0)), (1, .s (.v 1) (.v 2))] (.s (.v 1) (.v 0)) (by decide) (qn h0) (qn h1))
theorem om156 {x0 : Nat} (h0 : ((0 : Int) ≤ ((x0 : Nat) : Int))) (h1 : (((x0 : Nat) : Int) < (3 : Int))) : (((x0 : Nat) : Int) ≤ (2 : Int)) := ri (far 1 [(x0 : Int)] [(1, .s (.s (.n 3) (.v 0)) (.n 1))] (.s (.n 2) (.v 0)) (by decide) (qi1 h1))
theorem om157 {x0 : Int} (h0 : ((8 : Int) ≤ x0)) : ((0 : Int) ≤ x0) := ri (far 1 [(x0 : Int)] [(1, .s (.v 0) (.n 8))] (.s (.v 0) (.n 0)) (by decide) (qi h0))
theorem om158 {x0 : Nat} (h0 : ((0 : Int) ≤ ((x0 : Nat) : Int))) (h1 : (((x0 : Nat) : Int) < (3 : Int))) : (x0 ≤ (2 : Nat)) := rn (far 1 [(x0 : Int)] [(1, .s (.s (.n 3) (.v 0)) (.n 1))] (.s (.n 2) (.v 0)) (by decide) (qi1 h1))
theorem om159 {x0 : Nat} {x1 : Nat} {x2 : Nat} {x3 : Nat} (h0 : (x1 = ((1 : Nat) + ((3 : Nat) * x2)))) (h1 : (x0 ≤ (x3 * x2))) (h2 : ((x3 * x2) ≤ ((2 : Nat) * x2))) : (((1 : Nat) + x0) ≤ x1) := rn (far 2 [(x0 : Int), (x1 : Int), (x2 : Int), (x3 : Int), (((x3 * x2) : Nat) : Int)] [(2, .s (.v 1) (.a (.n 1) (.m 3 (.v 2)))), (3, .s (.v 4) (.v 0)), (3, .s (.m 2 (.v 2)) (.v 4)), (1, .v 0)] (.s (.v 1) (.a (.n 1) (.v 0))) (by decide) (qn (Nat.le_of_eq h0.symm)) (qn h1) (qn h2) (qv x0))
theorem om160 {x0 : Int} {x1 : Int} (h0 : ((x0 + (2 : Int)) ≤ x1)) : (x0 ≤ x1) := ri (far 1 [(x0 : Int), (x1 : Int)] [(1, .s (.v 1) (.a (.v 0) (.n 2)))] (.s (.v 1) (.v 0)) (by decide) (qi h0))
theorem om161 {x0 : Int} {x1 : Int} {x2 : Int} {x3 : Int} {x4 : Nat} (h0 : ((8 : Int) ≤ x3)) (h1 : (x2 = ((8 : Int) * x3))) (h2 : ((x1 + (2 : Int)) ≤ x0)) (h3 : (x0 ≤ ((x1 + (2 : Int)) + (((x4 : Nat) : Int) * x3)))) (h4 : ((((x4 : Nat) : Int) * x3) ≤ ((2 : Int) * x3))) : (x0 ≤ (x1 + x2)) := ri (far 8 [(x0 : Int), (x1 : Int), (x2 : Int), (x3 : Int), (x4 : Int), ((((x4 : Nat) : Int) * x3) : Int)] [(2, .s (.v 3) (.n 8)), (8, .s (.v 2) (.m 8 (.v 3))), (23, .s (.v 0) (.a (.v 1) (.n 2))), (31, .s (.a (.a (.v 1) (.n 2)) (.v 5)) (.v 0)), (31, .s (.m 2 (.v 3)) (.v 5))] (.s (.a (.v 1) (.v 2)) (.v 0)) (by decide) (qi h0) (qi (Int.le_of_eq h1.symm)) (qi h2) (qi h3) (qi h4))
theorem om162 {x0 : Nat} (h0 : ((0 : Int) ≤ ((x0 : Nat) : Int))) (h1 : (((x0 : Nat) : Int) < (4 : Int))) : (((x0 : Nat) : Int) ≤ (1000000 : Int)) := ri (far 3 [(x0 : Int)] [(999997, .s (.v 0) (.n 0)), (1000000, .s (.s (.n 4) (.v 0)) (.n 1))] (.s (.n 1000000) (.v 0)) (by decide) (qi h0) (qi1 h1))
theorem om163 {x0 : Nat} : (((((x0 + (1 : Nat)) : Nat) : Int) - (1 : Int)) = ((x0 : Nat) : Int)) := Int.le_antisymm (ri (far 1 [(x0 : Int)] [] (.s (.v 0) (.s (.a (.v 0) (.n 1)) (.n 1))) (by decide))) (ri (far 1 [(x0 : Int)] [] (.s (.s (.a (.v 0) (.n 1)) (.n 1)) (.v 0)) (by decide)))
theorem om164 {x0 : Nat} {x1 : Nat} (h0 : ((0 : Int) ≤ ((x1 : Nat) : Int))) (h1 : (((x1 : Nat) : Int) < (4 : Int))) (h2 : (x0 < x1)) : ((((x0 : Nat) : Int) + (1 : Int)) ≤ (4 : Int)) := ri (far 3 [(x0 : Int), (x1 : Int)] [(1, .s (.v 1) (.n 0)), (4, .s (.s (.n 4) (.v 1)) (.n 1)), (3, .s (.s (.v 1) (.v 0)) (.n 1))] (.s (.n 4) (.a (.v 0) (.n 1))) (by decide) (qi h0) (qi1 h1) (qn1 h2))
theorem om165 {x0 : Int} (h0 : ((8 : Int) ≤ x0)) : ((0 : Int) ≤ (x0 + (1 : Int))) := ri (far 1 [(x0 : Int)] [(1, .s (.v 0) (.n 8))] (.s (.a (.v 0) (.n 1)) (.n 0)) (by decide) (qi h0))
theorem om166 {x0 : Nat} {x1 : Nat} : (((x0 + ((4 : Nat) * x1)) + (6 : Nat)) ≤ ((x0 + ((4 : Nat) * (x1 + (1 : Nat)))) + (5 : Nat))) := rn (far 1 [(x0 : Int), (x1 : Int)] [] (.s (.a (.a (.v 0) (.m 4 (.a (.v 1) (.n 1)))) (.n 5)) (.a (.a (.v 0) (.m 4 (.v 1))) (.n 6))) (by decide))
theorem om167 {x0 : Int} {x1 : Int} (h0 : ((0 : Int) ≤ x1)) (h1 : ((x1 + (2 : Int)) ≤ x0)) : ((0 : Int) ≤ x0) := ri (far 1 [(x0 : Int), (x1 : Int)] [(1, .s (.v 1) (.n 0)), (1, .s (.v 0) (.a (.v 1) (.n 2)))] (.s (.v 0) (.n 0)) (by decide) (qi h0) (qi h1))
theorem om168 {x0 : Int} {x1 : Int} {x2 : Int} {x3 : Int} {x4 : Nat} (h0 : ((0 : Int) ≤ x2)) (h1 : ((x2 + x3) ≤ (800000 : Int))) (h2 : ((8 : Int) ≤ x1)) (h3 : (x3 = ((8 : Int) * x1))) (h4 : ((x2 + (2 : Int)) ≤ x0)) (h5 : (x0 ≤ ((x2 + (2 : Int)) + (((x4 : Nat) : Int) * (x1 + (1 : Int)))))) (h6 : (((((x4 : Nat) : Int) * (x1 + (1 : Int))) + (x1 + (1 : Int))) ≤ ((4 : Int) * (x1 + (1 : Int))))) : ((x0 + x1) ≤ (800000 : Int)) := ri (far 799936 [(x0 : Int), (x1 : Int), (x2 : Int), (x3 : Int), (x4 : Int), ((((x4 : Nat) : Int) * (x1 + (1 : Int))) : Int)] [(27, .s (.v 2) (.n 0)), (799963, .s (.n 800000) (.a (.v 2) (.v 3))), (3199960, .s (.v 1) (.n 8)), (799963, .s (.v 3) (.m 8 (.v 1))), (799936, .s (.a (.a (.v 2) (.n 2)) (.v 5)) (.v 0)), (799936, .s (.m 4 (.a (.v 1) (.n 1))) (.a (.v 5) (.a (.v 1) (.n 1))))] (.s (.n 800000) (.a (.v 0) (.v 1))) (by decide) (qi h0) (qi h1) (qi h2) (qi (Int.le_of_eq h3.symm)) (qi h5) (qi h6))
theorem om169 {x0 : Nat} {x1 : Nat} (h0 : (x0 ≤ x1)) : (x0 ≤ x1) := rn (far 1 [(x0 : Int), (x1 : Int)] [(1, .s (.v 1) (.v 0))] (.s (.v 1) (.v 0)) (by decide) (qn h0))
theorem om170 {x0 : Int} {x1 : Int} {x2 : Int} (h0 : ((0 : Int) ≤ x1)) (h1 : ((x1 + (2 : Int)) ≤ x2)) (h2 : (x2 ≤ x0)) : ((0 : Int) ≤ x0) := ri (far 1 [(x0 : Int), (x1 : Int), (x2 : Int)] [(1, .s (.v 1) (.n 0)), (1, .s (.v 2) (.a (.v 1) (.n 2))), (1, .s (.v 0) (.v 2))] (.s (.v 0) (.n 0)) (by decide) (qi h0) (qi h1) (qi h2))
theorem om171 {x0 : Int} {x1 : Int} {x2 : Int} {x3 : Int} {x4 : Int} {x5 : Nat} (h0 : ((x1 + x2) ≤ (800000 : Int))) (h1 : (x2 = ((8 : Int) * x3))) (h2 : (x4 ≤ ((x1 + (2 : Int)) + (((x5 : Nat) : Int) * (x3 + (1 : Int)))))) (h3 : (((((x5 : Nat) : Int) * (x3 + (1 : Int))) + (x3 + (1 : Int))) ≤ ((4 : Int) * (x3 + (1 : Int))))) (h4 : (x4 ≤ x0)) (h5 : (x0 ≤ (x4 + x3))) : (x0 < (900000 : Int)) := ri1 (far 1 [(x0 : Int), (x1 : Int), (x2 : Int), (x3 : Int), (x4 : Int), (x5 : Int), ((((x5 : Nat) : Int) * (x3 + (1 : Int))) : Int)] [(1, .s (.n 800000) (.a (.v 1) (.v 2))), (1, .s (.v 2) (.m 8 (.v 3))), (1, .s (.a (.a (.v 1) (.n 2)) (.v 6)) (.v 4)), (1, .s (.m 4 (.a (.v 3) (.n 1))) (.a (.v 6) (.a (.v 3) (.n 1)))), (4, .s (.v 0) (.v 4)), (5, .s (.a (.v 4) (.v 3)) (.v 0))] (.s (.s (.n 900000) (.v 0)) (.n 1)) (by decide) (qi h0) (qi (Int.le_of_eq h1.symm)) (qi h2) (qi h3) (qi h4) (qi h5))
theorem om172 {x0 : Int} (h0 : ((0 : Int) ≤ x0)) (h1 : (x0 < (3 : Int))) : ((x0 = (0 : Int)) ∨ ((x0 = (1 : Int)) ∨ (x0 = (2 : Int)))) := (upI h0).elim .inl fun h => .inr ((upI h).elim .inl fun h => .inr (Int.le_antisymm (Int.le_of_lt_add_one h1) h))
theorem om173 {x0 : Int} (h0 : ((0 : Int) ≤ x0)) (h1 : (x0 < (3 : Int))) : (x0 ≤ (1000000000 : Int)) := ri (far 1 [(x0 : Int)] [(499999999, .s (.v 0) (.n 0)), (500000000, .s (.s (.n 3) (.v 0)) (.n 1))] (.s (.n 1000000000) (.v 0)) (by decide) (qi h0) (qi1 h1))
theorem om174 {x0 : Nat} {x1 : Nat} (h0 : ((0 : Int) ≤ ((x1 : Nat) : Int))) (h1 : (((x1 : Nat) : Int) < (4 : Int))) (h2 : (x0 < x1)) : ((x0 + (1 : Nat)) ≤ (4 : Nat)) := rn (far 3 [(x0 : Int), (x1 : Int)] [(1, .s (.v 1) (.n 0)), (4, .s (.s (.n 4) (.v 1)) (.n 1)), (3, .s (.s (.v 1) (.v 0)) (.n 1))] (.s (.n 4) (.a (.v 0) (.n 1))) (by decide) (qi h0) (qi1 h1) (qn1 h2))
theorem om175 {x0 : Nat} {x1 : Nat} {x2 : Nat} {x3 : Nat} {x4 : Nat} {x5 : Nat} (h0 : (x1 ≤ (1000 : Nat))) (h1 : ((1 : Nat) ≤ x1)) (h2 : (x1 = ((1 : Nat) + ((3 : Nat) * x2)))) (h3 : (x3 ≤ (x4 * x2))) (h4 : (x0 = x5)) (h5 : (x5 ≤ x3)) (h6 : (((x4 * x2) + x2) ≤ ((4 : Nat) * x2))) : (x0 ≤ (1000000 : Nat)) := rn (far 999 [(x0 : Int), (x1 : Int), (x2 : Int), (x3 : Int), (x4 : Int), (x5 : Int), (((x4 * x2) : Nat) : Int)] [(1000000, .s (.n 1000) (.v 1)), (999001, .s (.v 1) (.n 1)), (999, .s (.v 1) (.a (.n 1) (.m 3 (.v 2)))), (999, .s (.v 6) (.v 3)), (999, .s (.v 5) (.v 0)), (999, .s (.v 3) (.v 5)), (999, .s (.m 4 (.v 2)) (.a (.v 6) (.v 2)))] (.s (.n 1000000) (.v 0)) (by decide) (qn h0) (qn h1) (qn (Nat.le_of_eq h2.symm)) (qn h3) (qn (Nat.le_of_eq h4)) (qn h5) (qn h6))
theorem om176 {x0 : Int} {x1 : Int} {x2 : Int} (h0 : ((x0 + (2 : Int)) ≤ x2)) (h1 : (x2 ≤ x1)) : ((x0 + (2 : Int)) ≤ (x1 + (1 : Int))) := ri (far 1 [(x0 : Int), (x1 : Int), (x2 : Int)] [(1, .s (.v 2) (.a (.v 0) (.n 2))), (1, .s (.v 1) (.v 2))] (.s (.a (.v 1) (.n 1)) (.a (.v 0) (.n 2))) (by decide) (qi h0) (qi h1))
theorem om177 {x0 : Int} {x1 : Int} {x2 : Nat} {x3 : Int} {x4 : Int} (h0 : (x4 ≤ ((x1 + (2 : Int)) + (((x2 : Nat) : Int) * (x3 + (1 : Int)))))) (h1 : (x0 ≤ (x4 + x3))) : ((x0 + (1 : Int)) ≤ ((x1 + (2 : Int)) + ((((x2 : Nat) : Int) * (x3 + (1 : Int))) + (x3 + (1 : Int))))) := ri (far 1 [(x0 : Int), (x1 : Int), (x2 : Int), (x3 : Int), (x4 : Int), ((((x2 : Nat) : Int) * (x3 + (1 : Int))) : Int)] [(1, .s (.a (.a (.v 1) (.n 2)) (.v 5)) (.v 4)), (1, .s (.a (.v 4) (.v 3)) (.v 0))] (.s (.a (.a (.v 1) (.n 2)) (.a (.v 5) (.a (.v 3) (.n 1)))) (.a (.v 0) (.n 1))) (by decide) (qi h0) (qi h1))
theorem om178 {x0 : Nat} {x1 : Nat} {x2 : Nat} {x3 : Nat} {x4 : Nat} (h0 : (x3 ≤ (x1 * x2))) (h1 : (x4 ≤ x2)) (h2 : (x0 ≤ (x3 + x4))) : (x0 ≤ ((x1 * x2) + x2)) := rn (far 1 [(x0 : Int), (x1 : Int), (x2 : Int), (x3 : Int), (x4 : Int), (((x1 * x2) : Nat) : Int)] [(1, .s (.v 5) (.v 3)), (1, .s (.v 2) (.v 4)), (1, .s (.a (.v 3) (.v 4)) (.v 0))] (.s (.a (.v 5) (.v 2)) (.v 0)) (by decide) (qn h0) (qn h1) (qn h2))
theorem om179 {x0 : Nat} (h0 : ((0 : Int) ≤ ((x0 : Nat) : Int))) (h1 : (((x0 : Nat) : Int) < (4 : Int))) : (((x0 : Nat) : Int) ≤ (3 : Int)) := ri (far 1 [(x0 : Int)] [(1, .s (.s (.n 4) (.v 0)) (.n 1))] (.s (.n 3) (.v 0)) (by decide) (qi1 h1))
theorem om180 {x0 : Nat} (h0 : ((0 : Int) ≤ ((x0 : Nat) : Int))) (h1 : (((x0 : Nat) : Int) < (4 : Int))) : (x0 ≤ (3 : Nat)) := rn (far 1 [(x0 : Int)] [(1, .s (.s (.n 4) (.v 0)) (.n 1))] (.s (.n 3) (.v 0)) (by decide) (qi1 h1))
theorem om181 {x0 : Nat} {x1 : Nat} {x2 : Nat} {x3 : Nat} (h0 : (x1 = ((1 : Nat) + ((3 : Nat) * x2)))) (h1 : (x0 ≤ (x3 * x2))) (h2 : ((x3 * x2) ≤ ((3 : Nat) * x2))) : (((1 : Nat) + x0) ≤ x1) := rn (far 1 [(x0 : Int), (x1 : Int), (x2 : Int), (x3 : Int), (((x3 * x2) : Nat) : Int)] [(1, .s (.v 1) (.a (.n 1) (.m 3 (.v 2)))), (1, .s (.v 4) (.v 0)), (1, .s (.m 3 (.v 2)) (.v 4))] (.s (.v 1) (.a (.n 1) (.v 0))) (by decide) (qn (Nat.le_of_eq h0.symm)) (qn h1) (qn h2))
theorem om182 {x0 : Int} {x1 : Int} {x2 : Int} {x3 : Int} {x4 : Nat} (h0 : ((0 : Int) ≤ x1)) (h1 : ((x1 + x2) ≤ (800000 : Int))) (h2 : ((8 : Int) ≤ x3)) (h3 : (x2 = ((8 : Int) * x3))) (h4 : ((x1 + (2 : Int)) ≤ x0)) (h5 : (x0 ≤ ((x1 + (2 : Int)) + (((x4 : Nat) : Int) * (x3 + (1 : Int)))))) (h6 : ((((x4 : Nat) : Int) * (x3 + (1 : Int))) ≤ ((3 : Int) * (x3 + (1 : Int))))) : (x0 ≤ (x1 + x2)) := ri (far 799936 [(x0 : Int), (x1 : Int), (x2 : Int), (x3 : Int), (x4 : Int), ((((x4 : Nat) : Int) * (x3 + (1 : Int))) : Int)] [(35, .s (.v 1) (.n 0)), (35, .s (.n 800000) (.a (.v 1) (.v 2))), (3999960, .s (.v 3) (.n 8)), (799971, .s (.v 2) (.m 8 (.v 3))), (799936, .s (.a (.a (.v 1) (.n 2)) (.v 5)) (.v 0)), (799936, .s (.m 3 (.a (.v 3) (.n 1))) (.v 5))] (.s (.a (.v 1) (.v 2)) (.v 0)) (by decide) (qi h0) (qi h1) (qi h2) (qi (Int.le_of_eq h3.symm)) (qi h5) (qi h6))
theorem om183 {x0 : Int} {x1 : Int} {x2 : Int} {x3 : Int} {x4 : Nat} (h0 : ((x1 + x2) ≤ (800000 : Int))) (h1 : (x2 = ((8 : Int) * x3))) (h2 : ((x1 + (2 : Int)) ≤ x0)) (h3 : (x0 ≤ ((x1 + (2 : Int)) + (((x4 : Nat) : Int) * (x3 + (1 : Int)))))) (h4 : ((((x4 : Nat) : Int) * (x3 + (1 : Int))) ≤ ((3 : Int) * (x3 + (1 : Int))))) : (x0 < (900000 : Int)) := ri1 (far 3 [(x0 : Int), (x1 : Int), (x2 : Int), (x3 : Int), (x4 : Int), ((((x4 : Nat) : Int) * (x3 + (1 : Int))) : Int)] [(3, .s (.n 800000) (.a (.v 1) (.v 2))), (3, .s (.v 2) (.m 8 (.v 3))), (5, .s (.v 0) (.a (.v 1) (.n 2))), (8, .s (.a (.a (.v 1) (.n 2)) (.v 5)) (.v 0)), (8, .s (.m 3 (.a (.v 3) (.n 1))) (.v 5))] (.s (.s (.n 900000) (.v 0)) (.n 1)) (by decide) (qi h0) (qi (Int.le_of_eq h1.symm)) (qi h2) (qi h3) (qi h4))
theorem om184 {x0 : Int} (h0 : ((0 : Int) ≤ x0)) (h1 : (x0 < (2 : Int))) : (x0 < (256 : Int)) := ri1 (far 1 [(x0 : Int)] [(254, .s (.v 0) (.n 0)), (255, .s (.s (.n 2) (.v 0)) (.n 1))] (.s (.s (.n 256) (.v 0)) (.n 1)) (by decide) (qi h0) (qi1 h1))
theorem om185 {x0 : Int} {x1 : Int} (h0 : ((x0 + (2 : Int)) ≤ x1)) : (x0 ≤ (x1 + (1 : Int))) := ri (far 1 [(x0 : Int), (x1 : Int)] [(1, .s (.v 1) (.a (.v 0) (.n 2)))] (.s (.a (.v 1) (.n 1)) (.v 0)) (by decide) (qi h0))
theorem om186 {x0 : Int} {x1 : Int} {x2 : Int} {x3 : Int} {x4 : Nat} (h0 : ((0 : Int) ≤ x1)) (h1 : ((x1 + x2) ≤ (800000 : Int))) (h2 : ((8 : Int) ≤ x3)) (h3 : (x2 = ((8 : Int) * x3))) (h4 : ((x1 + (2 : Int)) ≤ x0)) (h5 : (x0 ≤ ((x1 + (2 : Int)) + (((x4 : Nat) : Int) * (x3 + (1 : Int)))))) (h6 : ((((x4 : Nat) : Int) * (x3 + (1 : Int))) ≤ ((3 : Int) * (x3 + (1 : Int))))) : ((x0 + (1 : Int)) ≤ (x1 + x2)) := ri (far 399968 [(x0 : Int), (x1 : Int), (x2 : Int), (x3 : Int), (x4 : Int), ((((x4 : Nat) : Int) * (x3 + (1 : Int))) : Int)] [(17, .s (.v 1) (.n 0)), (17, .s (.n 800000) (.a (.v 1) (.v 2))), (1999976, .s (.v 3) (.n 8)), (399985, .s (.v 2) (.m 8 (.v 3))), (399968, .s (.a (.a (.v 1) (.n 2)) (.v 5)) (.v 0)), (399968, .s (.m 3 (.a (.v 3) (.n 1))) (.v 5))] (.s (.a (.v 1) (.v 2)) (.a (.v 0) (.n 1))) (by decide) (qi h0) (qi h1) (qi h2) (qi (Int.le_of_eq h3.symm)) (qi h5) (qi h6))
theorem om187 {x0 : Nat} {x1 : Nat} (h0 : ((x0 + (1 : Nat)) = (x1 + (1 : Nat)))) : (x0 = x1) := Nat.le_antisymm (rn (far 1 [(x0 : Int), (x1 : Int)] [(1, .s (.a (.v 1) (.n 1)) (.a (.v 0) (.n 1)))] (.s (.v 1) (.v 0)) (by decide) (qn (Nat.le_of_eq h0)))) (rn (far 1 [(x0 : Int), (x1 : Int)] [(1, .s (.a (.v 0) (.n 1)) (.a (.v 1) (.n 1)))] (.s (.v 0) (.v 1)) (by decide) (qn (Nat.le_of_eq h0.symm))))
theorem om188 {x0 : Nat} : (((0 : Nat) + (1 : Nat)) ≤ (x0 + (15 : Nat))) := rn (far 1 [(x0 : Int)] [(1, .v 0)] (.s (.a (.v 0) (.n 15)) (.a (.n 0) (.n 1))) (by decide) (qv x0))
theorem om189 {x0 : Nat} : (((0 : Nat) + (2 : Nat)) ≤ (x0 + (15 : Nat))) := rn (far 1 [(x0 : Int)] [(1, .v 0)] (.s (.a (.v 0) (.n 15)) (.a (.n 0) (.n 2))) (by decide) (qv x0))
theorem om190 {x0 : Nat} : (((x0 + ((4 : Nat) * (2 : Nat))) + (6 : Nat)) ≤ (x0 + (15 : Nat))) := rn (far 1 [(x0 : Int)] [] (.s (.a (.v 0) (.n 15)) (.a (.a (.v 0) (.m 4 (.n 2))) (.n 6))) (by decide))
theorem om191 {x0 : Nat} : (((x0 + ((4 : Nat) * (1 : Nat))) + (6 : Nat)) ≤ (x0 + (15 : Nat))) := rn (far 1 [(x0 : Int)] [] (.s (.a (.v 0) (.n 15)) (.a (.a (.v 0) (.m 4 (.n 1))) (.n 6))) (by decide))
theorem om192 {x0 : Int} (h0 : ((0 : Int) ≤ x0)) (h1 : (x0 ≤ (1000 : Int))) : (x0 < (900000 : Int)) := ri1 (far 1000 [(x0 : Int)] [(898999, .s (.v 0) (.n 0)), (899999, .s (.n 1000) (.v 0))] (.s (.s (.n 900000) (.v 0)) (.n 1)) (by decide) (qi h0) (qi h1))
theorem om193 {x0 : Nat} : (((2 : Int) + ((x0 : Nat) : Int)) = ((1 : Int) + ((((1 : Nat) + x0) : Nat) : Int))) := Int.le_antisymm (ri (far 1 [(x0 : Int)] [] (.s (.a (.n 1) (.a (.n 1) (.v 0))) (.a (.n 2) (.v 0))) (by decide))) (ri (far 1 [(x0 : Int)] [] (.s (.a (.n 2) (.v 0)) (.a (.n 1) (.a (.n 1) (.v 0)))) (by decide)))
theorem om194 {x0 : Nat} (h0 : ((0 : Int) ≤ ((x0 : Nat) : Int))) (h1 : (((x0 : Nat) : Int) < (6 : Int))) : (((2 : Int) + ((x0 : Nat) : Int)) ≤ (1000000 : Int)) := ri (far 5 [(x0 : Int)] [(999993, .s (.v 0) (.n 0)), (999998, .s (.s (.n 6) (.v 0)) (.n 1))] (.s (.n 1000000) (.a (.n 2) (.v 0))) (by decide) (qi h0) (qi1 h1))
theorem om195 {x0 : Int} : (x0 ≤ (x0 + (1 : Int))) := ri (far 1 [(x0 : Int)] [] (.s (.a (.v 0) (.n 1)) (.v 0)) (by decide))
theorem om196 {x0 : Int} : ((x0 + (1 : Int)) ≤ ((x0 + (1 : Int)) + ((600 : Int) * (((0 : Nat) : Nat) : Int)))) := ri (far 1 [(x0 : Int)] [] (.s (.a (.a (.v 0) (.n 1)) (.m 600 (.n 0))) (.a (.v 0) (.n 1))) (by decide))
theorem om197 {x0 : Int} {x1 : Int} (h0 : ((0 : Int) ≤ x1)) (h1 : (x1 ≤ (1000 : Int))) (h2 : (x1 ≤ x0)) : ((0 : Int) ≤ x0) := ri (far 1 [(x0 : Int), (x1 : Int)] [(1, .s (.v 1) (.n 0)), (1, .s (.v 0) (.v 1))] (.s (.v 0) (.n 0)) (by decide) (qi h0) (qi h2))
theorem om198 {x0 : Int} {x1 : Int} {x2 : Nat} {x3 : Nat} (h0 : ((0 : Int) ≤ x1)) (h1 : (x1 ≤ (1000 : Int))) (h2 : ((0 : Int) ≤ ((x2 : Nat) : Int))) (h3 : (((x2 : Nat) : Int) < (6 : Int))) (h4 : (x3 < ((1 : Nat) + x2))) (h5 : (x0 ≤ ((x1 + (1 : Int)) + ((600 : Int) * ((x3 : Nat) : Int))))) : (x0 < (900000 : Int)) := ri1 (far 500 [(x0 : Int), (x1 : Int), (x2 : Int), (x3 : Int)] [(447999, .s (.v 1) (.n 0)), (448499, .s (.n 1000) (.v 1)), (300000, .s (.s (.n 6) (.v 2)) (.n 1)), (300000, .s (.s (.a (.n 1) (.v 2)) (.v 3)) (.n 1)), (500, .s (.a (.a (.v 1) (.n 1)) (.m 600 (.v 3))) (.v 0))] (.s (.s (.n 900000) (.v 0)) (.n 1)) (by decide) (qi h0) (qi h1) (qi1 h3) (qn1 h4) (qi h5))
theorem om199 {x0 : Int} {x1 : Int} (h0 : ((0 : Int) ≤ x1)) (h1 : (x1 ≤ (1000 : Int))) (h2 : (x1 ≤ x0)) : ((0 : Int) ≤ (x0 + (1 : Int))) := ri (far 1000 [(x0 : Int), (x1 : Int)] [(1001, .s (.v 1) (.n 0)), (1, .s (.n 1000) (.v 1)), (1000, .s (.v 0) (.v 1))] (.s (.a (.v 0) (.n 1)) (.n 0)) (by decide) (qi h0) (qi h1) (qi h2))
theorem om200 {x0 : Int} {x1 : Int} {x2 : Nat} {x3 : Nat} (h0 : ((0 : Int) ≤ x1)) (h1 : (x1 ≤ (1000 : Int))) (h2 : ((0 : Int) ≤ ((x2 : Nat) : Int))) (h3 : (((x2 : Nat) : Int) < (6 : Int))) (h4 : (x3 < ((1 : Nat) + x2))) (h5 : (x0 ≤ ((x1 + (1 : Int)) + ((600 : Int) * ((x3 : Nat) : Int))))) : ((x0 + (1 : Int)) < (900000 : Int)) := ri1 (far 1000 [(x0 : Int), (x1 : Int), (x2 : Int), (x3 : Int)] [(895997, .s (.v 1) (.n 0)), (896997, .s (.n 1000) (.v 1)), (600000, .s (.s (.n 6) (.v 2)) (.n 1)), (600000, .s (.s (.a (.n 1) (.v 2)) (.v 3)) (.n 1)), (1000, .s (.a (.a (.v 1) (.n 1)) (.m 600 (.v 3))) (.v 0))] (.s (.s (.n 900000) (.a (.v 0) (.n 1))) (.n 1)) (by decide) (qi h0) (qi h1) (qi1 h3) (qn1 h4) (qi h5))
theorem om201 {x0 : Nat} (h0 : (x0 = (13 : Nat))) : (x0 ≤ (1000 : Nat)) := rn (far 13 [(x0 : Int)] [(1000, .s (.n 13) (.v 0)), (987, .v 0)] (.s (.n 1000) (.v 0)) (by decide) (qn (Nat.le_of_eq h0)) (qv x0))
theorem om202 {x0 : Int} {x1 : Int} (h0 : ((0 : Int) ≤ x1)) (h1 : (x1 ≤ (1000 : Int))) (h2 : (x1 ≤ x0)) : ((0 : Int) ≤ ((x0 + (1 : Int)) + (1 : Int))) := ri (far 500 [(x0 : Int), (x1 : Int)] [(501, .s (.v 1) (.n 0)), (1, .s (.n 1000) (.v 1)), (500, .s (.v 0) (.v 1))] (.s (.a (.a (.v 0) (.n 1)) (.n 1)) (.n 0)) (by decide) (qi h0) (qi h1) (qi h2))
theorem om203 {x0 : Int} {x1 : Int} {x2 : Int} {x3 : Nat} {x4 : Nat} (h0 : ((0 : Int) ≤ x2)) (h1 : (x2 ≤ (1000 : Int))) (h2 : (x1 = (512 : Int))) (h3 : ((0 : Int) ≤ ((x3 : Nat) : Int))) (h4 : (((x3 : Nat) : Int) < (6 : Int))) (h5 : (x4 < ((1 : Nat) + x3))) (h6 : (x0 ≤ ((x2 + (1 : Int)) + ((600 : Int) * ((x4 : Nat) : Int))))) : ((((x0 + (1 : Int)) + (1 : Int)) + x1) ≤ (800000 : Int)) := ri (far 200 [(x0 : Int), (x1 : Int), (x2 : Int), (x3 : Int), (x4 : Int)] [(159097, .s (.v 2) (.n 0)), (159297, .s (.n 1000) (.v 2)), (200, .s (.n 512) (.v 1)), (120000, .s (.s (.n 6) (.v 3)) (.n 1)), (120000, .s (.s (.a (.n 1) (.v 3)) (.v 4)) (.n 1)), (200, .s (.a (.a (.v 2) (.n 1)) (.m 600 (.v 4))) (.v 0))] (.s (.n 800000) (.a (.a (.a (.v 0) (.n 1)) (.n 1)) (.v 1))) (by decide) (qi h0) (qi h1) (qi (Int.le_of_eq h2)) (qi1 h4) (qn1 h5) (qi h6))
theorem om204 {x0 : Nat} {x1 : Nat} {x2 : Nat} {x3 : Nat} (h0 : ((0 : Int) ≤ ((x1 : Nat) : Int))) (h1 : (((x1 : Nat) : Int) < (6 : Int))) (h2 : (x2 < ((1 : Nat) + x1))) (h3 : (x3 ≤ x2)) (h4 : (x0 = x3)) : (x0 ≤ (1000 : Nat)) := rn (far 1 [(x0 : Int), (x1 : Int), (x2 : Int), (x3 : Int)] [(199, .s (.v 1) (.n 0)), (200, .s (.s (.n 6) (.v 1)) (.n 1)), (1, .s (.s (.a (.n 1) (.v 1)) (.v 2)) (.n 1)), (1, .s (.v 2) (.v 3)), (1, .s (.v 3) (.v 0))] (.s (.n 1000) (.v 0)) (by decide) (qi h0) (qi1 h1) (qn1 h2) (qn h3) (qn (Nat.le_of_eq h4)))
theorem om205 {x0 : Int} {x1 : Nat} (h0 : (x0 = ((1 : Int) + (((x1 : Nat) : Int) * (1 : Int))))) (h1 : (x0 ≤ ((x1 : Nat) : Int))) : False := by omega
theorem om206 {x0 : Int} {x1 : Int} {x2 : Int} {x3 : Int} (h0 : (x2 = (512 : Int))) (h1 : (x0 ≤ x3)) (h2 : (((x3 + (1 : Int)) + (1 : Int)) ≤ x1)) (h3 : (x1 ≤ (((x3 + (1 : Int)) + (1 : Int)) + x2))) : (x0 ≤ x1) := ri (far 256 [(x0 : Int), (x1 : Int), (x2 : Int), (x3 : Int)] [(1, .s (.n 512) (.v 2)), (256, .s (.v 3) (.v 0)), (257, .s (.v 1) (.a (.a (.v 3) (.n 1)) (.n 1))), (1, .s (.a (.a (.a (.v 3) (.n 1)) (.n 1)) (.v 2)) (.v 1))] (.s (.v 1) (.v 0)) (by decide) (qi (Int.le_of_eq h0)) (qi h1) (qi h2) (qi h3))
theorem om207 {x0 : Int} {x1 : Int} {x2 : Nat} {x3 : Int} {x4 : Int} (h0 : (x3 = (512 : Int))) (h1 : (x4 ≤ ((x1 + (1 : Int)) + ((600 : Int) * ((x2 : Nat) : Int))))) (h2 : (((x4 + (1 : Int)) + (1 : Int)) ≤ x0)) (h3 : (x0 ≤ (((x4 + (1 : Int)) + (1 : Int)) + x3))) : (x0 ≤ ((x1 + (1 : Int)) + ((600 : Int) * (((x2 + (1 : Nat)) : Nat) : Int)))) := ri (far 256 [(x0 : Int), (x1 : Int), (x2 : Int), (x3 : Int), (x4 : Int)] [(299, .s (.n 512) (.v 3)), (256, .s (.a (.a (.v 1) (.n 1)) (.m 600 (.v 2))) (.v 4)), (43, .s (.v 0) (.a (.a (.v 4) (.n 1)) (.n 1))), (299, .s (.a (.a (.a (.v 4) (.n 1)) (.n 1)) (.v 3)) (.v 0))] (.s (.a (.a (.v 1) (.n 1)) (.m 600 (.a (.v 2) (.n 1)))) (.v 0)) (by decide) (qi (Int.le_of_eq h0)) (qi h1) (qi h2) (qi h3))
theorem om208 {x0 : Nat} {x1 : Nat} {x2 : Nat} (h0 : (x0 ≤ x1)) (h1 : (x2 = x0)) : (x0 ≤ x1) := rn (far 1 [(x0 : Int), (x1 : Int), (x2 : Int)] [(1, .s (.v 1) (.v 0))] (.s (.v 1) (.v 0)) (by decide) (qn h0))
theorem om209 {x0 : Int} {x1 : Nat} {x2 : Nat} (h0 : ((x0 ≤ ((x1 : Nat) : Int)) ∧ (x2 ≤ (13 : Nat)))) : (x0 ≤ (((x1 + (1 : Nat)) : Nat) : Int)) := by omega
theorem om210 {x0 : Nat} : (((1 : Int) + ((x0 : Nat) : Int)) ≤ (((x0 : Nat) : Int) + (1 : Int))) := ri (far 1 [(x0 : Int)] [] (.s (.a (.v 0) (.n 1)) (.a (.n 1) (.v 0))) (by decide))
theorem om211 {x0 : Nat} {x1 : Nat} (h0 : (x1 = (13 : Nat))) (h1 : (x0 ≤ x1)) : (x0 ≤ (13 : Nat)) := rn (far 1 [(x0 : Int), (x1 : Int)] [(1, .s (.n 13) (.v 1)), (1, .s (.v 1) (.v 0))] (.s (.n 13) (.v 0)) (by decide) (qn (Nat.le_of_eq h0)) (qn h1))
theorem om212 {x0 : Int} {x1 : Int} (h0 : (x0 ≤ x1)) : (x0 ≤ (x1 + (1 : Int))) := ri (far 1 [(x0 : Int), (x1 : Int)] [(1, .s (.v 1) (.v 0))] (.s (.a (.v 1) (.n 1)) (.v 0)) (by decide) (qi h0))
theorem om213 {x0 : Int} {x1 : Int} {x2 : Nat} (h0 : (x0 ≤ ((x1 + (1 : Int)) + ((600 : Int) * ((x2 : Nat) : Int))))) : ((x0 + (1 : Int)) ≤ ((x1 + (1 : Int)) + ((600 : Int) * (((x2 + (1 : Nat)) : Nat) : Int)))) := ri (far 1 [(x0 : Int), (x1 : Int), (x2 : Int)] [(1, .s (.a (.a (.v 1) (.n 1)) (.m 600 (.v 2))) (.v 0))] (.s (.a (.a (.v 1) (.n 1)) (.m 600 (.a (.v 2) (.n 1)))) (.a (.v 0) (.n 1))) (by decide) (qi h0))
theorem om214 {x0 : Nat} {x1 : Nat} (h0 : (x0 ≤ x1)) : (x0 ≤ (x1 + (1 : Nat))) := rn (far 1 [(x0 : Int), (x1 : Int)] [(1, .s (.v 1) (.v 0))] (.s (.a (.v 1) (.n 1)) (.v 0)) (by decide) (qn h0))
theorem om215 {x0 : Int} {x1 : Nat} (h0 : (x0 ≤ ((x1 : Nat) : Int))) : (x0 ≤ (((x1 + (1 : Nat)) : Nat) : Int)) := ri (far 1 [(x0 : Int), (x1 : Int)] [(1, .s (.v 1) (.v 0))] (.s (.a (.v 1) (.n 1)) (.v 0)) (by decide) (qi h0))
theorem om216 {x0 : Nat} (h0 : (x0 = (4 : Nat))) : (x0 ≤ (1000 : Nat)) := rn (far 1 [(x0 : Int)] [(250, .s (.n 4) (.v 0)), (249, .v 0)] (.s (.n 1000) (.v 0)) (by decide) (qn (Nat.le_of_eq h0)) (qv x0))
theorem om217 {x0 : Int} {x1 : Int} {x2 : Int} {x3 : Int} (h0 : (x2 = (64 : Int))) (h1 : (x0 ≤ x3)) (h2 : ((x3 + (1 : Int)) ≤ x1)) (h3 : (x1 ≤ ((x3 + (1 : Int)) + x2))) : (x0 ≤ x1) := ri (far 64 [(x0 : Int), (x1 : Int), (x2 : Int), (x3 : Int)] [(1, .s (.n 64) (.v 2)), (64, .s (.v 3) (.v 0)), (65, .s (.v 1) (.a (.v 3) (.n 1))), (1, .s (.a (.a (.v 3) (.n 1)) (.v 2)) (.v 1))] (.s (.v 1) (.v 0)) (by decide) (qi (Int.le_of_eq h0)) (qi h1) (qi h2) (qi h3))
theorem om218 {x0 : Nat} {x1 : Nat} (h0 : (x1 = (4 : Nat))) (h1 : (x0 ≤ x1)) : (((1 : Nat) + ((1 : Nat) + (x0 + ((1 : Nat) + ((1 : Nat) + (0 : Nat)))))) ≤ (60 : Nat)) := rn (far 1 [(x0 : Int), (x1 : Int)] [(14, .s (.n 4) (.v 1)), (14, .s (.v 1) (.v 0)), (13, .v 0)] (.s (.n 60) (.a (.n 1) (.a (.n 1) (.a (.v 0) (.a (.n 1) (.a (.n 1) (.n 0))))))) (by decide) (qn (Nat.le_of_eq h0)) (qn h1) (qv x0))
theorem om219 {x0 : Nat} : (x0 ≤ (x0 + (2 : Nat))) := rn (far 1 [(x0 : Int)] [] (.s (.a (.v 0) (.n 2)) (.v 0)) (by decide))
theorem om220 {x0 : Nat} {x1 : Nat} {x2 : Nat} (h0 : (x1 = x2)) (h1 : ((x1 - x0) = (0 : Nat))) (h2 : (x0 ≤ x1)) : (x0 = x1) := Nat.le_antisymm (rn (far 1 [(x0 : Int), (x1 : Int), (x2 : Int), (((x1 - x0) : Nat) : Int)] [(1, .s (.v 1) (.v 0))] (.s (.v 1) (.v 0)) (by decide) (qn h2))) (rn (far 1 [(x0 : Int), (x1 : Int), (x2 : Int), (((x1 - x0) : Nat) : Int)] [(1, .s (.n 0) (.v 3)), (1, .s (.v 3) (.s (.v 1) (.v 0)))] (.s (.v 0) (.v 1)) (by decide) (qn (Nat.le_of_eq h1)) (qs1 x1 x0)))
theorem om221 {x0 : Nat} {x1 : Nat} {x2 : Nat} {x3 : Nat} (h0 : (x1 = x2)) (h1 : ((x1 - x0) = (x3 + (1 : Nat)))) (h2 : (x0 ≤ x1)) : (x0 < x1) := by omega
theorem om222 {x0 : Nat} {x1 : Nat} {x2 : Nat} {x3 : Nat} (h0 : (x0 = x3)) (h1 : ((x0 - x1) = (x2 + (1 : Nat)))) (h2 : (x1 < x0)) : ((x0 - (x1 + (1 : Nat))) = x2) := by omega
theorem om223 {x0 : Nat} {x1 : Nat} {x2 : Nat} (h0 : (x1 = x2)) (h1 : (x0 < x1)) : ((x0 + (1 : Nat)) ≤ x1) := rn (far 1 [(x0 : Int), (x1 : Int), (x2 : Int)] [(1, .s (.s (.v 1) (.v 0)) (.n 1))] (.s (.v 1) (.a (.v 0) (.n 1))) (by decide) (qn1 h1))
theorem om224 {x0 : Nat} {x1 : Nat} {x2 : Nat} {x3 : Nat} (h0 : (x2 = x3)) (h1 : ((x0 + x2) ≤ (100000 : Nat))) (h2 : ((200000 : Nat) ≤ x1)) : (x0 ≤ x1) := rn (far 2 [(x0 : Int), (x1 : Int), (x2 : Int), (x3 : Int)] [(2, .s (.n 100000) (.a (.v 0) (.v 2))), (1, .s (.v 1) (.n 200000)), (1, .v 1), (2, .v 2)] (.s (.v 1) (.v 0)) (by decide) (qn h1) (qn h2) (qv x1) (qv x2))
theorem om225 {x0 : Nat} {x1 : Nat} {x2 : Nat} {x3 : Nat} (h0 : (x2 = x3)) (h1 : ((x0 + x2) ≤ (100000 : Nat))) (h2 : ((200000 : Nat) ≤ x1)) : ((x0 + (1 : Nat)) ≤ (x1 + (1 : Nat))) := rn (far 2 [(x0 : Int), (x1 : Int), (x2 : Int), (x3 : Int)] [(2, .s (.n 100000) (.a (.v 0) (.v 2))), (1, .s (.v 1) (.n 200000)), (1, .v 1), (2, .v 2)] (.s (.a (.v 1) (.n 1)) (.a (.v 0) (.n 1))) (by decide) (qn h1) (qn h2) (qv x1) (qv x2))
theorem om226 {x0 : Nat} {x1 : Nat} {x2 : Nat} {x3 : Nat} (h0 : (x2 = x3)) (h1 : ((x0 + x2) ≤ (100000 : Nat))) (h2 : ((200000 : Nat) ≤ x1)) : ((x0 + (1 : Nat)) ≤ x1) := rn (far 200000 [(x0 : Int), (x1 : Int), (x2 : Int), (x3 : Int)] [(200000, .s (.n 100000) (.a (.v 0) (.v 2))), (100001, .s (.v 1) (.n 200000)), (99999, .v 1), (200000, .v 2)] (.s (.v 1) (.a (.v 0) (.n 1))) (by decide) (qn h1) (qn h2) (qv x1) (qv x2))
theorem om227 {x0 : Nat} {x1 : Nat} {x2 : Nat} {x3 : Nat} (h0 : (x2 = x3)) (h1 : ((x0 + x2) ≤ (100000 : Nat))) (h2 : ((200000 : Nat) ≤ x1)) : (x0 ≤ (x1 + (1 : Nat))) := rn (far 200000 [(x0 : Int), (x1 : Int), (x2 : Int), (x3 : Int)] [(200000, .s (.n 100000) (.a (.v 0) (.v 2))), (99999, .s (.v 1) (.n 200000)), (100001, .v 1), (200000, .v 2)] (.s (.a (.v 1) (.n 1)) (.v 0)) (by decide) (qn h1) (qn h2) (qv x1) (qv x2))
theorem om228 {x0 : Nat} {x1 : Nat} {x2 : Nat} (h0 : (x1 = x2)) (h1 : ((x0 + x1) ≤ (100000 : Nat))) : ((x0 + x1) ≤ (1000000 : Nat)) := rn (far 1 [(x0 : Int), (x1 : Int), (x2 : Int)] [(10, .s (.n 100000) (.a (.v 0) (.v 1))), (9, .v 0), (9, .v 1)] (.s (.n 1000000) (.a (.v 0) (.v 1))) (by decide) (qn h1) (qv x0) (qv x1))
theorem om229 {x0 : Nat} {x1 : Nat} {x2 : Nat} (h0 : (x1 ≤ (60 : Nat))) (h1 : (x0 = x2)) (h2 : (x2 = x1)) : (x0 ≤ (100000 : Nat)) := rn (far 3 [(x0 : Int), (x1 : Int), (x2 : Int)] [(5000, .s (.n 60) (.v 1)), (5000, .s (.v 2) (.v 0)), (5000, .s (.v 1) (.v 2)), (4997, .v 0)] (.s (.n 100000) (.v 0)) (by decide) (qn h0) (qn (Nat.le_of_eq h1)) (qn (Nat.le_of_eq h2)) (qv x0))
theorem om230 {x0 : Nat} {x1 : Nat} (h0 : (((x0 + (1 : Nat)) + (1 : Nat)) ≤ x1)) : (x0 ≤ x1) := rn (far 1 [(x0 : Int), (x1 : Int)] [(1, .s (.v 1) (.a (.a (.v 0) (.n 1)) (.n 1)))] (.s (.v 1) (.v 0)) (by decide) (qn h0))
theorem om231 {x0 : Nat} {x1 : Nat} (h0 : ((x0 + (200 : Nat)) < x1)) : (((x0 + (0 : Nat)) + (2 : Nat)) < x1) := rn1 (far 1 [(x0 : Int), (x1 : Int)] [(1, .s (.s (.v 1) (.a (.v 0) (.n 200))) (.n 1))] (.s (.s (.v 1) (.a (.a (.v 0) (.n 0)) (.n 2))) (.n 1)) (by decide) (qn1 h0))
theorem om232 {x0 : Nat} {x1 : Nat} {x2 : Nat} {x3 : Nat} (h0 : (x1 ≤ (60 : Nat))) (h1 : (x2 = x1)) (h2 : (x0 ≤ x3)) (h3 : (x1 = x3)) : (x0 ≤ (60 : Nat)) := rn (far 1 [(x0 : Int), (x1 : Int), (x2 : Int), (x3 : Int)] [(1, .s (.n 60) (.v 1)), (1, .s (.v 3) (.v 0)), (1, .s (.v 1) (.v 3))] (.s (.n 60) (.v 0)) (by decide) (qn h0) (qn h2) (qn (Nat.le_of_eq h3.symm)))
theorem om233 {x0 : Nat} {x1 : Nat} {x2 : Nat} {x3 : Nat} {x4 : Nat} {x5 : Nat} {x6 : Nat} (h0 : (x2 ≤ (10000 : Nat))) (h1 : ((100000 : Nat) < x1)) (h2 : (x3 = x2)) (h3 : (x4 = x5)) (h4 : (x5 ≤ (60 : Nat))) (h5 : (x6 < x4)) (h6 : (x0 ≤ (x3 + x6))) : (x0 ≤ x1) := rn (far 10059 [(x0 : Int), (x1 : Int), (x2 : Int), (x3 : Int), (x4 : Int), (x5 : Int), (x6 : Int)] [(100001, .s (.n 10000) (.v 2)), (10059, .s (.s (.v 1) (.n 100000)) (.n 1)), (100001, .s (.v 2) (.v 3)), (100001, .s (.v 5) (.v 4)), (100001, .s (.n 60) (.v 5)), (100001, .s (.s (.v 4) (.v 6)) (.n 1)), (100001, .s (.a (.v 3) (.v 6)) (.v 0)), (89942, .v 0)] (.s (.v 1) (.v 0)) (by decide) (qn h0) (qn1 h1) (qn (Nat.le_of_eq h2)) (qn (Nat.le_of_eq h3)) (qn h4) (qn1 h5) (qn h6) (qv x0))
theorem om234 {x0 : Nat} {x1 : Nat} {x2 : Nat} (h0 : (x0 ≤ (x1 + x2))) : ((x0 + (1 : Nat)) ≤ (x1 + (x2 + (1 : Nat)))) := rn (far 1 [(x0 : Int), (x1 : Int), (x2 : Int)] [(1, .s (.a (.v 1) (.v 2)) (.v 0))] (.s (.a (.v 1) (.a (.v 2) (.n 1))) (.a (.v 0) (.n 1))) (by decide) (qn h0))
theorem om235 {x0 : Nat} {x1 : Nat} {x2 : Nat} (h0 : (((x0 + ((8 : Nat) * x2)) + (200 : Nat)) < x1)) : ((x0 + (200 : Nat)) < x1) := rn1 (far 1 [(x0 : Int), (x1 : Int), (x2 : Int)] [(1, .s (.s (.v 1) (.a (.a (.v 0) (.m 8 (.v 2))) (.n 200))) (.n 1)), (8, .v 2)] (.s (.s (.v 1) (.a (.v 0) (.n 200))) (.n 1)) (by decide) (qn1 h0) (qv x2))
theorem om236 {x0 : Nat} {x1 : Nat} {x2 : Nat} (h0 : (x1 ≤ (10000 : Nat))) (h1 : (x0 = x1)) (h2 : (x2 = x1)) : (x0 ≤ (1000000 : Nat)) := rn (far 1 [(x0 : Int), (x1 : Int), (x2 : Int)] [(100, .s (.n 10000) (.v 1)), (100, .s (.v 1) (.v 0)), (99, .v 0)] (.s (.n 1000000) (.v 0)) (by decide) (qn h0) (qn (Nat.le_of_eq h1)) (qv x0))
theorem om237 {x0 : Nat} {x1 : Nat} {x2 : Nat} (h0 : (x1 ≤ (10000 : Nat))) (h1 : (x2 = x1)) (h2 : (x0 = x1)) : (x0 ≤ (1000000 : Nat)) := rn (far 1 [(x0 : Int), (x1 : Int), (x2 : Int)] [(100, .s (.n 10000) (.v 1)), (100, .s (.v 1) (.v 0)), (99, .v 0)] (.s (.n 1000000) (.v 0)) (by decide) (qn h0) (qn (Nat.le_of_eq h2)) (qv x0))
theorem om238 {x0 : Nat} {x1 : Nat} {x2 : Nat} (h0 : (x2 ≤ (10000 : Nat))) (h1 : ((100000 : Nat) < x1)) (h2 : (x0 = x2)) : (x0 ≤ x1) := rn (far 10000 [(x0 : Int), (x1 : Int), (x2 : Int)] [(100001, .s (.n 10000) (.v 2)), (10000, .s (.s (.v 1) (.n 100000)) (.n 1)), (100001, .s (.v 2) (.v 0)), (90001, .v 0)] (.s (.v 1) (.v 0)) (by decide) (qn h0) (qn1 h1) (qn (Nat.le_of_eq h2)) (qv x0))
theorem om239 {x0 : Nat} : (((0 : Nat) + (1 : Nat)) ≤ (x0 + (5 : Nat))) := rn (far 1 [(x0 : Int)] [(1, .v 0)] (.s (.a (.v 0) (.n 5)) (.a (.n 0) (.n 1))) (by decide) (qv x0))
theorem om240 {x0 : Nat} : (((0 : Nat) + (2 : Nat)) ≤ (x0 + (5 : Nat))) := rn (far 1 [(x0 : Int)] [(1, .v 0)] (.s (.a (.v 0) (.n 5)) (.a (.n 0) (.n 2))) (by decide) (qv x0))
theorem om241 {x0 : Nat} {x1 : Nat} {x2 : Nat} (h0 : (((x0 + ((8 : Nat) * (x2 + (5 : Nat)))) + (200 : Nat)) < x1)) : ((x0 + (200 : Nat)) < x1) := rn1 (far 1 [(x0 : Int), (x1 : Int), (x2 : Int)] [(1, .s (.s (.v 1) (.a (.a (.v 0) (.m 8 (.a (.v 2) (.n 5)))) (.n 200))) (.n 1)), (8, .v 2)] (.s (.s (.v 1) (.a (.v 0) (.n 200))) (.n 1)) (by decide) (qn1 h0) (qv x2))
theorem om242 {x0 : Nat} {x1 : Nat} {x2 : Nat} (h0 : ((x0 + (200 : Nat)) < x2)) (h1 : (x1 = (0 : Nat))) : (((x0 + x1) + (2 : Nat)) < x2) := rn1 (far 1 [(x0 : Int), (x1 : Int), (x2 : Int)] [(1, .s (.s (.v 2) (.a (.v 0) (.n 200))) (.n 1)), (1, .s (.n 0) (.v 1))] (.s (.s (.v 2) (.a (.a (.v 0) (.v 1)) (.n 2))) (.n 1)) (by decide) (qn1 h0) (qn (Nat.le_of_eq h1)))
theorem om243 {x0 : Nat} {x1 : Nat} {x2 : Nat} (h0 : (x0 = x2)) (h1 : (x1 = x2)) : (x0 = x1) := Nat.le_antisymm (rn (far 1 [(x0 : Int), (x1 : Int), (x2 : Int)] [(1, .s (.v 2) (.v 0)), (1, .s (.v 1) (.v 2))] (.s (.v 1) (.v 0)) (by decide) (qn (Nat.le_of_eq h0)) (qn (Nat.le_of_eq h1.symm)))) (rn (far 1 [(x0 : Int), (x1 : Int), (x2 : Int)] [(1, .s (.v 0) (.v 2)), (1, .s (.v 2) (.v 1))] (.s (.v 0) (.v 1)) (by decide) (qn (Nat.le_of_eq h0.symm)) (qn (Nat.le_of_eq h1))))
theorem om244 {x0 : Nat} {x1 : Nat} {x2 : Nat} {x3 : Nat} {x4 : Nat} {x5 : Nat} (h0 : (x2 ≤ (10000 : Nat))) (h1 : (x0 = x2)) (h2 : (x1 = x3)) (h3 : (x4 = x3)) (h4 : (x3 ≤ x5)) (h5 : (((1 : Nat) + x5) ≤ (60 : Nat))) : ((x0 + x1) ≤ (100000 : Nat)) := rn (far 10000 [(x0 : Int), (x1 : Int), (x2 : Int), (x3 : Int), (x4 : Int), (x5 : Int)] [(99941, .s (.n 10000) (.v 2)), (99941, .s (.v 2) (.v 0)), (10000, .s (.v 3) (.v 1)), (10000, .s (.v 5) (.v 3)), (10000, .s (.n 60) (.a (.n 1) (.v 5))), (89941, .v 0)] (.s (.n 100000) (.a (.v 0) (.v 1))) (by decide) (qn h0) (qn (Nat.le_of_eq h1)) (qn (Nat.le_of_eq h2)) (qn h4) (qn h5) (qv x0))
theorem om245 {x0 : Nat} {x1 : Nat} {x2 : Nat} {x3 : Nat} (h0 : (x0 = x1)) (h1 : (x2 = x1)) (h2 : (x1 ≤ x3)) (h3 : (((1 : Nat) + x3) ≤ (60 : Nat))) : (x0 ≤ (1000000000 : Nat)) := rn (far 59 [(x0 : Int), (x1 : Int), (x2 : Int), (x3 : Int)] [(1000000000, .s (.v 1) (.v 0)), (1000000000, .s (.v 3) (.v 1)), (1000000000, .s (.n 60) (.a (.n 1) (.v 3))), (999999941, .v 0)] (.s (.n 1000000000) (.v 0)) (by decide) (qn (Nat.le_of_eq h0)) (qn h2) (qn h3) (qv x0))
theorem om246 {x0 : Nat} {x1 : Nat} {x2 : Nat} (h0 : (x0 = x1)) (h1 : (x1 ≤ x2)) (h2 : (((1 : Nat) + x2) ≤ (60 : Nat))) : (x0 ≤ (1000000000 : Nat)) := rn (far 59 [(x0 : Int), (x1 : Int), (x2 : Int)] [(1000000000, .s (.v 1) (.v 0)), (1000000000, .s (.v 2) (.v 1)), (1000000000, .s (.n 60) (.a (.n 1) (.v 2))), (999999941, .v 0)] (.s (.n 1000000000) (.v 0)) (by decide) (qn (Nat.le_of_eq h0)) (qn h1) (qn h2) (qv x0))
theorem om247 {x0 : Nat} : ((x0 + (4 : Nat)) ≤ (x0 + (5 : Nat))) := rn (far 1 [(x0 : Int)] [] (.s (.a (.v 0) (.n 5)) (.a (.v 0) (.n 4))) (by decide))
theorem om248 {x0 : Nat} {x1 : Nat} {x2 : Nat} (h0 : (x2 ≤ (20 : Nat))) (h1 : (x1 ≤ (60 : Nat))) (h2 : ((x0 + (1 : Nat)) ≤ x2)) : ((((61 : Nat) * ((20 : Nat) - (x0 + (1 : Nat)))) + (x1 + (0 : Nat))) < (((61 : Nat) * ((20 : Nat) - x0)) + (1 : Nat))) := by omega
theorem om249 {x0 : Nat} : (((0 : Nat) + (2 : Nat)) ≤ (x0 + (6 : Nat))) := rn (far 1 [(x0 : Int)] [(1, .v 0)] (.s (.a (.v 0) (.n 6)) (.a (.n 0) (.n 2))) (by decide) (qv x0))
theorem om250 {x0 : Nat} (h0 : (x0 ≤ (60 : Nat))) : ((((61 : Nat) * (20 : Nat)) + (x0 + (0 : Nat))) ≤ (2000 : Nat)) := rn (far 1 [(x0 : Int)] [(13, .s (.n 60) (.v 0)), (12, .v 0)] (.s (.n 2000) (.a (.m 61 (.n 20)) (.a (.v 0) (.n 0)))) (by decide) (qn h0) (qv x0))
theorem om251 {x0 : Nat} {x1 : Nat} {x2 : Nat} {x3 : Nat} {x4 : Nat} (h0 : (x1 = (((61 : Nat) * ((20 : Nat) - x2)) + x3))) (h1 : (x1 ≤ (2000 : Nat))) (h2 : (x0 = x4)) (h3 : (x4 ≤ x3)) : (x0 ≤ (1000000000 : Nat)) := rn (far 1 [(x0 : Int), (x1 : Int), (x2 : Int), (x3 : Int), (x4 : Int), ((((20 : Nat) - x2) : Nat) : Int)] [(1, .s (.v 1) (.a (.m 61 (.v 5)) (.v 3))), (500000, .s (.n 2000) (.v 1)), (1, .s (.v 4) (.v 0)), (1, .s (.v 3) (.v 4)), (499999, .v 1), (61, .v 5)] (.s (.n 1000000000) (.v 0)) (by decide) (qn (Nat.le_of_eq h0.symm)) (qn h1) (qn (Nat.le_of_eq h2)) (qn h3) (qv x1) (qv ((20 : Nat) - x2)))
theorem om252 {x0 : Nat} {x1 : Nat} {x2 : Nat} {x3 : Nat} {x4 : Nat} {x5 : Nat} (h0 : (x2 ≤ (2000 : Nat))) (h1 : ((100000 : Nat) < x1)) (h2 : (x2 = (((61 : Nat) * ((20 : Nat) - x3)) + x4))) (h3 : ((x5 + (1 : Nat)) ≤ x4)) (h4 : ((x0 + (1 : Nat)) = (x5 + (1 : Nat)))) : (x0 < x1) := rn1 (far 100001 [(x0 : Int), (x1 : Int), (x2 : Int), (x3 : Int), (x4 : Int), (x5 : Int), ((((20 : Nat) - x3) : Nat) : Int)] [(100001, .s (.n 2000) (.v 2)), (2000, .s (.s (.v 1) (.n 100000)) (.n 1)), (100001, .s (.v 2) (.a (.m 61 (.v 6)) (.v 4))), (100001, .s (.v 4) (.a (.v 5) (.n 1))), (100001, .s (.a (.v 5) (.n 1)) (.a (.v 0) (.n 1))), (98001, .v 1), (6100061, .v 6)] (.s (.s (.v 1) (.v 0)) (.n 1)) (by decide) (qn h0) (qn1 h1) (qn (Nat.le_of_eq h2.symm)) (qn h3) (qn (Nat.le_of_eq h4)) (qv x1) (qv ((20 : Nat) - x3)))
theorem om253 {x0 : Nat} {x1 : Nat} {x2 : Nat} {x3 : Nat} {x4 : Nat} {x5 : Nat} {x6 : Nat} (h0 : (x1 ≤ (2000 : Nat))) (h1 : (x1 = (((61 : Nat) * ((20 : Nat) - x2)) + (x3 + (x4 + (0 : Nat)))))) (h2 : ((((61 : Nat) * ((20 : Nat) - x5)) + x6) < (((61 : Nat) * ((20 : Nat) - x2)) + x4))) (h3 : (x0 ≤ x3)) : (x0 ≤ (10000 : Nat)) := rn (far 1 [(x0 : Int), (x1 : Int), (x2 : Int), (x3 : Int), (x4 : Int), (x5 : Int), (x6 : Int), ((((20 : Nat) - x2) : Nat) : Int), ((((20 : Nat) - x5) : Nat) : Int)] [(5, .s (.n 2000) (.v 1)), (1, .s (.v 1) (.a (.m 61 (.v 7)) (.a (.v 3) (.a (.v 4) (.n 0))))), (1, .s (.v 3) (.v 0)), (4, .v 1), (1, .v 4), (61, .v 7)] (.s (.n 10000) (.v 0)) (by decide) (qn h0) (qn (Nat.le_of_eq h1.symm)) (qn h3) (qv x1) (qv x4) (qv ((20 : Nat) - x2)))
theorem om254 {x0 : Nat} {x1 : Nat} (h0 : (x0 ≤ x1)) (h1 : (x1 ≤ (20 : Nat))) : (x0 ≤ (10000 : Nat)) := rn (far 1 [(x0 : Int), (x1 : Int)] [(500, .s (.v 1) (.v 0)), (500, .s (.n 20) (.v 1)), (499, .v 0)] (.s (.n 10000) (.v 0)) (by decide) (qn h0) (qn h1) (qv x0))
theorem om255 {x0 : Nat} {x1 : Nat} {x2 : Nat} {x3 : Nat} {x4 : Nat} {x5 : Nat} (h0 : (x3 = (((61 : Nat) * ((20 : Nat) - x4)) + (x1 + (x5 + (0 : Nat)))))) (h1 : ((((61 : Nat) * ((20 : Nat) - x0)) + x2) < (((61 : Nat) * ((20 : Nat) - x4)) + x5))) : ((((61 : Nat) * ((20 : Nat) - x0)) + (x1 + x2)) < x3) := rn1 (far 1 [(x0 : Int), (x1 : Int), (x2 : Int), (x3 : Int), (x4 : Int), (x5 : Int), ((((20 : Nat) - x4) : Nat) : Int), ((((20 : Nat) - x0) : Nat) : Int)] [(1, .s (.v 3) (.a (.m 61 (.v 6)) (.a (.v 1) (.a (.v 5) (.n 0))))), (1, .s (.s (.a (.m 61 (.v 6)) (.v 5)) (.a (.m 61 (.v 7)) (.v 2))) (.n 1))] (.s (.s (.v 3) (.a (.m 61 (.v 7)) (.a (.v 1) (.v 2)))) (.n 1)) (by decide) (qn (Nat.le_of_eq h0.symm)) (qn1 h1))
theorem om256 {x0 : Nat} {x1 : Nat} {x2 : Nat} {x3 : Nat} {x4 : Nat} {x5 : Nat} (h0 : (x3 ≤ (2000 : Nat))) (h1 : (x3 = (((61 : Nat) * ((20 : Nat) - x4)) + (x1 + (x5 + (0 : Nat)))))) (h2 : ((((61 : Nat) * ((20 : Nat) - x0)) + x2) < (((61 : Nat) * ((20 : Nat) - x4)) + x5))) : ((((61 : Nat) * ((20 : Nat) - x0)) + (x1 + x2)) ≤ (2000 : Nat)) := rn (far 2000 [(x0 : Int), (x1 : Int), (x2 : Int), (x3 : Int), (x4 : Int), (x5 : Int), ((((20 : Nat) - x4) : Nat) : Int), ((((20 : Nat) - x0) : Nat) : Int)] [(2001, .s (.n 2000) (.v 3)), (2000, .s (.v 3) (.a (.m 61 (.v 6)) (.a (.v 1) (.a (.v 5) (.n 0))))), (2000, .s (.s (.a (.m 61 (.v 6)) (.v 5)) (.a (.m 61 (.v 7)) (.v 2))) (.n 1)), (1, .v 3)] (.s (.n 2000) (.a (.m 61 (.v 7)) (.a (.v 1) (.v 2)))) (by decide) (qn h0) (qn (Nat.le_of_eq h1.symm)) (qn1 h2) (qv x3))
theorem om257 {x0 : Nat} {x1 : Nat} (h0 : ((x0 + (10 : Nat)) < x1)) : (((x0 + (1 : Nat)) + (2 : Nat)) < x1) := rn1 (far 1 [(x0 : Int), (x1 : Int)] [(1, .s (.s (.v 1) (.a (.v 0) (.n 10))) (.n 1))] (.s (.s (.v 1) (.a (.a (.v 0) (.n 1)) (.n 2))) (.n 1)) (by decide) (qn1 h0))
theorem om258 {x0 : Nat} {x1 : Nat} (h0 : ((x0 + (200 : Nat)) < x1)) : (x0 < x1) := rn1 (far 1 [(x0 : Int), (x1 : Int)] [(1, .s (.s (.v 1) (.a (.v 0) (.n 200))) (.n 1))] (.s (.s (.v 1) (.v 0)) (.n 1)) (by decide) (qn1 h0))
theorem om259 {x0 : Nat} {x1 : Nat} {x2 : Nat} {x3 : Nat} {x4 : Nat} (h0 : ((1000 : Nat) < x1)) (h1 : (x2 ≤ (20 : Nat))) (h2 : ((x3 + x4) ≤ x2)) (h3 : (x0 = (x3 + x4))) : (x0 ≤ x1) := rn (far 20 [(x0 : Int), (x1 : Int), (x2 : Int), (x3 : Int), (x4 : Int)] [(20, .s (.s (.v 1) (.n 1000)) (.n 1)), (1001, .s (.n 20) (.v 2)), (1001, .s (.v 2) (.a (.v 3) (.v 4))), (1001, .s (.a (.v 3) (.v 4)) (.v 0)), (981, .v 0)] (.s (.v 1) (.v 0)) (by decide) (qn1 h0) (qn h1) (qn h2) (qn (Nat.le_of_eq h3)) (qv x0))
theorem om260 {x0 : Nat} {x1 : Nat} {x2 : Nat} {x3 : Nat} {x4 : Nat} {x5 : Nat} (h0 : ((1000 : Nat) < x1)) (h1 : (x2 ≤ (20 : Nat))) (h2 : ((x3 + x4) ≤ x2)) (h3 : (x5 = (x3 + x4))) (h4 : (x0 = x4)) : (x0 ≤ x1) := rn (far 1001 [(x0 : Int), (x1 : Int), (x2 : Int), (x3 : Int), (x4 : Int), (x5 : Int)] [(20, .s (.s (.v 1) (.n 1000)) (.n 1)), (1001, .s (.n 20) (.v 2)), (1001, .s (.v 2) (.a (.v 3) (.v 4))), (1001, .s (.v 4) (.v 0)), (981, .v 1), (1001, .v 3)] (.s (.v 1) (.v 0)) (by decide) (qn1 h0) (qn h1) (qn h2) (qn (Nat.le_of_eq h4)) (qv x1) (qv x3))
theorem om261 {x0 : Nat} {x1 : Nat} {x2 : Nat} {x3 : Nat} {x4 : Nat} (h0 : ((1000 : Nat) < x1)) (h1 : (x2 = (((2 : Nat) * ((21 : Nat) - x3)) + (1 : Nat)))) (h2 : ((x0 + x2) ≤ (50 : Nat))) (h3 : (x0 = x4)) : (x0 ≤ x1) := rn (far 1001 [(x0 : Int), (x1 : Int), (x2 : Int), (x3 : Int), (x4 : Int), ((((21 : Nat) - x3) : Nat) : Int)] [(50, .s (.s (.v 1) (.n 1000)) (.n 1)), (1001, .s (.n 50) (.a (.v 0) (.v 2))), (951, .v 1), (1001, .v 2)] (.s (.v 1) (.v 0)) (by decide) (qn1 h0) (qn h2) (qv x1) (qv x2))
theorem om262 {x0 : Nat} {x1 : Nat} {x2 : Nat} {x3 : Nat} {x4 : Nat} {x5 : Nat} {x6 : Nat} (h0 : (x2 ≤ (20 : Nat))) (h1 : ((x3 + x4) ≤ x2)) (h2 : (x5 = x4)) (h3 : (x6 < x5)) (h4 : (x0 ≤ ((60 : Nat) * x6))) (h5 : (x1 ≤ (60 : Nat))) : ((x0 + x1) ≤ (1000000 : Nat)) := rn (far 3 [(x0 : Int), (x1 : Int), (x2 : Int), (x3 : Int), (x4 : Int), (x5 : Int), (x6 : Int)] [(180, .s (.n 20) (.v 2)), (180, .s (.v 2) (.a (.v 3) (.v 4))), (180, .s (.v 4) (.v 5)), (180, .s (.s (.v 5) (.v 6)) (.n 1)), (3, .s (.m 60 (.v 6)) (.v 0)), (49943, .s (.n 60) (.v 1)), (49940, .v 1), (180, .v 3)] (.s (.n 1000000) (.a (.v 0) (.v 1))) (by decide) (qn h0) (qn h1) (qn (Nat.le_of_eq h2)) (qn1 h3) (qn h4) (qn h5) (qv x1) (qv x3))
theorem om263 {x0 : Nat} {x1 : Nat} {x2 : Nat} (h0 : (x0 ≤ ((60 : Nat) * x2))) (h1 : (x1 ≤ (60 : Nat))) : ((x0 + x1) ≤ ((60 : Nat) * (x2 + (1 : Nat)))) := rn (far 1 [(x0 : Int), (x1 : Int), (x2 : Int)] [(1, .s (.m 60 (.v 2)) (.v 0)), (1, .s (.n 60) (.v 1))] (.s (.m 60 (.a (.v 2) (.n 1))) (.a (.v 0) (.v 1))) (by decide) (qn h0) (qn h1))
theorem om264 {x0 : Nat} {x1 : Nat} (h0 : (x1 = (((2 : Nat) * ((21 : Nat) - x0)) + (1 : Nat)))) : (((2 : Nat) * ((21 : Nat) - x0)) < x1) := rn1 (far 1 [(x0 : Int), (x1 : Int), ((((21 : Nat) - x0) : Nat) : Int)] [(1, .s (.v 1) (.a (.m 2 (.v 2)) (.n 1)))] (.s (.s (.v 1) (.m 2 (.v 2))) (.n 1)) (by decide) (qn (Nat.le_of_eq h0.symm)))
theorem om265 {x0 : Nat} {x1 : Nat} {x2 : Nat} {x3 : Nat} {x4 : Nat} {x5 : Nat} (h0 : (x3 = (((2 : Nat) * ((21 : Nat) - x4)) + (1 : Nat)))) (h1 : ((x0 + x3) ≤ (50 : Nat))) (h2 : (x0 = x5)) (h3 : ((((2 : Nat) * ((21 : Nat) - x1)) + x2) < x3)) : (((x0 + (1 : Nat)) + (((2 : Nat) * ((21 : Nat) - x1)) + x2)) ≤ (50 : Nat)) := rn (far 1 [(x0 : Int), (x1 : Int), (x2 : Int), (x3 : Int), (x4 : Int), (x5 : Int), ((((21 : Nat) - x4) : Nat) : Int), ((((21 : Nat) - x1) : Nat) : Int)] [(1, .s (.n 50) (.a (.v 0) (.v 3))), (1, .s (.s (.v 3) (.a (.m 2 (.v 7)) (.v 2))) (.n 1))] (.s (.n 50) (.a (.a (.v 0) (.n 1)) (.a (.m 2 (.v 7)) (.v 2)))) (by decide) (qn h1) (qn1 h3))
theorem om266 {x0 : Nat} {x1 : Nat} {x2 : Nat} {x3 : Nat} {x4 : Nat} (h0 : ((x0 + x1) ≤ (50 : Nat))) (h1 : (x1 = (((2 : Nat) * ((21 : Nat) - x2)) + x3))) (h2 : (x0 = x4)) : (x0 ≤ (100000 : Nat)) := rn (far 1 [(x0 : Int), (x1 : Int), (x2 : Int), (x3 : Int), (x4 : Int), ((((21 : Nat) - x2) : Nat) : Int)] [(2000, .s (.n 50) (.a (.v 0) (.v 1))), (1999, .v 0), (2000, .v 1)] (.s (.n 100000) (.v 0)) (by decide) (qn h0) (qv x0) (qv x1))
theorem om267 {x0 : Nat} {x1 : Nat} {x2 : Nat} {x3 : Nat} {x4 : Nat} {x5 : Nat} (h0 : ((x1 + x2) ≤ (50 : Nat))) (h1 : (x2 = (((2 : Nat) * ((21 : Nat) - x3)) + x4))) (h2 : (x1 = x5)) (h3 : (x0 ≤ x1)) : (x0 ≤ (50 : Nat)) := rn (far 1 [(x0 : Int), (x1 : Int), (x2 : Int), (x3 : Int), (x4 : Int), (x5 : Int), ((((21 : Nat) - x3) : Nat) : Int)] [(1, .s (.n 50) (.a (.v 1) (.v 2))), (1, .s (.v 1) (.v 0)), (1, .v 2)] (.s (.n 50) (.v 0)) (by decide) (qn h0) (qn h3) (qv x2))
theorem om268 {x0 : Nat} {x1 : Nat} (h0 : (x0 ≤ x1)) (h1 : (x1 ≤ (20 : Nat))) : (x0 ≤ (20 : Nat)) := rn (far 1 [(x0 : Int), (x1 : Int)] [(1, .s (.v 1) (.v 0)), (1, .s (.n 20) (.v 1))] (.s (.n 20) (.v 0)) (by decide) (qn h0) (qn h1))
theorem om269 {x0 : Nat} {x1 : Nat} {x2 : Nat} (h0 : ((x2 + x0) ≤ (x1 + (1 : Nat)))) (h1 : ((1 : Nat) ≤ x2)) : (x0 ≤ x1) := rn (far 1 [(x0 : Int), (x1 : Int), (x2 : Int)] [(1, .s (.a (.v 1) (.n 1)) (.a (.v 2) (.v 0))), (1, .s (.v 2) (.n 1))] (.s (.v 1) (.v 0)) (by decide) (qn h0) (qn h1))
theorem om270 {x0 : Nat} {x1 : Nat} {x2 : Nat} {x3 : Nat} (h0 : ((x3 + x1) ≤ (x2 + (1 : Nat)))) (h1 : (x0 < x3)) : ((x0 + x1) ≤ x2) := rn (far 1 [(x0 : Int), (x1 : Int), (x2 : Int), (x3 : Int)] [(1, .s (.a (.v 2) (.n 1)) (.a (.v 3) (.v 1))), (1, .s (.s (.v 3) (.v 0)) (.n 1))] (.s (.v 2) (.a (.v 0) (.v 1))) (by decide) (qn h0) (qn1 h1))
theorem om271 {x0 : Nat} {x1 : Nat} (h0 : (x0 < x1)) : ((x0 + (1 : Nat)) ≤ x1) := rn (far 1 [(x0 : Int), (x1 : Int)] [(1, .s (.s (.v 1) (.v 0)) (.n 1))] (.s (.v 1) (.a (.v 0) (.n 1))) (by decide) (qn1 h0))
theorem om272 {x0 : Nat} (h0 : (x0 ≤ (250 : Nat))) : (((1 : Nat) + x0) ≤ (300 : Nat)) := rn (far 250 [(x0 : Int)] [(299, .s (.n 250) (.v 0)), (49, .v 0)] (.s (.n 300) (.a (.n 1) (.v 0))) (by decide) (qn h0) (qv x0))
theorem om273 {x0 : Nat} (h0 : (x0 ≤ (241 : Nat))) : (x0 ≤ (300 : Nat)) := rn (far 241 [(x0 : Int)] [(300, .s (.n 241) (.v 0)), (59, .v 0)] (.s (.n 300) (.v 0)) (by decide) (qn h0) (qv x0))
theorem om274 {x0 : Nat} {x1 : Nat} (h0 : (((x0 + ((8 : Nat) * (125 : Nat))) + (200 : Nat)) < x1)) : ((x0 + (1000 : Nat)) < x1) := rn1 (far 1 [(x0 : Int), (x1 : Int)] [(1, .s (.s (.v 1) (.a (.a (.v 0) (.m 8 (.n 125))) (.n 200))) (.n 1))] (.s (.s (.v 1) (.a (.v 0) (.n 1000))) (.n 1)) (by decide) (qn1 h0))
theorem om275 {x0 : Int} (h0 : ((0 : Int) ≤ x0)) (h1 : (x0 ≤ ((0 : Int) + (20000 : Int)))) : ((0 : Int) ≤ x0) := ri (far 1 [(x0 : Int)] [(1, .s (.v 0) (.n 0))] (.s (.v 0) (.n 0)) (by decide) (qi h0))
theorem om276 {x0 : Int} (h0 : ((0 : Int) ≤ x0)) (h1 : (x0 ≤ ((0 : Int) + (20000 : Int)))) : (x0 < (900000 : Int)) := ri1 (far 20000 [(x0 : Int)] [(879999, .s (.v 0) (.n 0)), (899999, .s (.a (.n 0) (.n 20000)) (.v 0))] (.s (.s (.n 900000) (.v 0)) (.n 1)) (by decide) (qi h0) (qi h1))
theorem om277 {x0 : Int} (h0 : ((0 : Int) ≤ x0)) (h1 : (x0 ≤ ((0 : Int) + (20000 : Int)))) : ((0 : Int) ≤ (x0 + (1 : Int))) := ri (far 20000 [(x0 : Int)] [(20001, .s (.v 0) (.n 0)), (1, .s (.a (.n 0) (.n 20000)) (.v 0))] (.s (.a (.v 0) (.n 1)) (.n 0)) (by decide) (qi h0) (qi h1))
theorem om278 {x0 : Int} {x1 : Int} (h0 : ((0 : Int) ≤ x0)) (h1 : (x0 ≤ ((0 : Int) + (20000 : Int)))) (h2 : (x1 = (512 : Int))) : (((x0 + (1 : Int)) + x1) ≤ (800000 : Int)) := ri (far 20000 [(x0 : Int), (x1 : Int)] [(779487, .s (.v 0) (.n 0)), (799487, .s (.a (.n 0) (.n 20000)) (.v 0)), (20000, .s (.n 512) (.v 1))] (.s (.n 800000) (.a (.a (.v 0) (.n 1)) (.v 1))) (by decide) (qi h0) (qi h1) (qi (Int.le_of_eq h2)))
theorem om279 {x0 : Nat} {x1 : Nat} (h0 : (x1 = (13 : Nat))) (h1 : (x0 ≤ x1)) : (x0 ≤ (60 : Nat)) := rn (far 13 [(x0 : Int), (x1 : Int)] [(60, .s (.n 13) (.v 1)), (60, .s (.v 1) (.v 0)), (47, .v 0)] (.s (.n 60) (.v 0)) (by decide) (qn (Nat.le_of_eq h0)) (qn h1) (qv x0))
theorem om280 {x0 : Nat} {x1 : Nat} {x2 : Nat} {x3 : Nat} {x4 : Nat} (h0 : (x2 ≤ (20 : Nat))) (h1 : (x1 = x3)) (h2 : (x0 = x4)) (h3 : (x3 ≤ x2)) (h4 : (x4 ≤ x2)) : ((x0 + x1) ≤ (1000000 : Nat)) := rn (far 1 [(x0 : Int), (x1 : Int), (x2 : Int), (x3 : Int), (x4 : Int)] [(50000, .s (.n 20) (.v 2)), (1, .s (.v 3) (.v 1)), (49999, .s (.v 4) (.v 0)), (1, .s (.v 2) (.v 3)), (49999, .s (.v 2) (.v 4)), (49998, .v 0)] (.s (.n 1000000) (.a (.v 0) (.v 1))) (by decide) (qn h0) (qn (Nat.le_of_eq h1)) (qn (Nat.le_of_eq h2)) (qn h3) (qn h4) (qv x0))
theorem om281 {x0 : Nat} {x1 : Nat} {x2 : Nat} (h0 : ((x0 + (1000 : Nat)) < x2)) (h1 : (x1 ≤ (1 : Nat))) : (((x0 + x1) + (2 : Nat)) < x2) := rn1 (far 1 [(x0 : Int), (x1 : Int), (x2 : Int)] [(1, .s (.s (.v 2) (.a (.v 0) (.n 1000))) (.n 1)), (998, .s (.n 1) (.v 1)), (997, .v 1)] (.s (.s (.v 2) (.a (.a (.v 0) (.v 1)) (.n 2))) (.n 1)) (by decide) (qn1 h0) (qn h1) (qv x1))
theorem om282 {x0 : Nat} {x1 : Nat} {x2 : Nat} (h0 : (x1 ≤ (20 : Nat))) (h1 : (x2 = x1)) (h2 : (x0 ≤ x2)) : (x0 ≤ (60 : Nat)) := rn (far 1 [(x0 : Int), (x1 : Int), (x2 : Int)] [(3, .s (.n 20) (.v 1)), (3, .s (.v 1) (.v 2)), (3, .s (.v 2) (.v 0)), (2, .v 0)] (.s (.n 60) (.v 0)) (by decide) (qn h0) (qn (Nat.le_of_eq h1)) (qn h2) (qv x0))
theorem om283 {x0 : Nat} {x1 : Nat} {x2 : Nat} (h0 : ((x0 + (1000 : Nat)) < x2)) (h1 : (x1 ≤ (0 : Nat))) : (((x0 + x1) + (2 : Nat)) < x2) := rn1 (far 1 [(x0 : Int), (x1 : Int), (x2 : Int)] [(1, .s (.s (.v 2) (.a (.v 0) (.n 1000))) (.n 1)), (1, .s (.n 0) (.v 1))] (.s (.s (.v 2) (.a (.a (.v 0) (.v 1)) (.n 2))) (.n 1)) (by decide) (qn1 h0) (qn h1))
theorem om284 {x0 : Nat} {x1 : Nat} {x2 : Nat} (h0 : (x0 = x1)) (h1 : (x1 ≤ x2)) (h2 : (x2 ≤ (20 : Nat))) : (x0 ≤ (1000 : Nat)) := rn (far 1 [(x0 : Int), (x1 : Int), (x2 : Int)] [(50, .s (.v 1) (.v 0)), (50, .s (.v 2) (.v 1)), (50, .s (.n 20) (.v 2)), (49, .v 0)] (.s (.n 1000) (.v 0)) (by decide) (qn (Nat.le_of_eq h0)) (qn h1) (qn h2) (qv x0))
theorem om285 {x0 : Nat} {x1 : Nat} (h0 : ((x0 + (1000 : Nat)) < x1)) : (x0 < x1) := rn1 (far 1 [(x0 : Int), (x1 : Int)] [(1, .s (.s (.v 1) (.a (.v 0) (.n 1000))) (.n 1))] (.s (.s (.v 1) (.v 0)) (.n 1)) (by decide) (qn1 h0))
theorem om286 {x0 : Nat} {x1 : Nat} (h0 : (x0 = x1)) (h1 : (x1 ≤ (20 : Nat))) : (x0 ≤ (60 : Nat)) := rn (far 1 [(x0 : Int), (x1 : Int)] [(3, .s (.v 1) (.v 0)), (3, .s (.n 20) (.v 1)), (2, .v 0)] (.s (.n 60) (.v 0)) (by decide) (qn (Nat.le_of_eq h0)) (qn h1) (qv x0))
theorem om287 {x0 : Nat} {x1 : Nat} {x2 : Nat} (h0 : ((x0 + (1000 : Nat)) < x2)) (h1 : (x1 ≤ (300 : Nat))) : (((x0 + x1) + (2 : Nat)) < x2) := rn1 (far 150 [(x0 : Int), (x1 : Int), (x2 : Int)] [(150, .s (.s (.v 2) (.a (.v 0) (.n 1000))) (.n 1)), (499, .s (.n 300) (.v 1)), (349, .v 1)] (.s (.s (.v 2) (.a (.a (.v 0) (.v 1)) (.n 2))) (.n 1)) (by decide) (qn1 h0) (qn h1) (qv x1))
end
section
/-! The part of the state behind the top that the walk looks into. The defs' bodies are read out of the given program, by place. -/
noncomputable abbrev at1 (i : Nat) : Stmt := (PySem.Challenge.pw_og0181_01.main.body[i]?).getD (.Pass default)
noncomputable abbrev inClass : Stmt → Nat → Stmt
  | .ClassDef _ _ _ b _ _ _ _ _ _ _, j => (b[j]?).getD (.Pass default)
  | s, _ => s
noncomputable abbrev at2 (i j : Nat) : Stmt := inClass (at1 i) j
@[reducible] def fnS (st : Stmt) (q : Str) (dV kV doc pm cdv ct : Value) : FuncData := match st with
  | .FunctionDef name args body _ _ _ scope _ _ _ => fnOf name q args body scope dV kV doc pm none cdv ct
  | _ => default
noncomputable def KX : Params → Frag := fun P =>
  (nat_lit 2, ⟨.none, none, (.dict [⟨PyData.keyHash P (Str.ofString "type.__subclasses__.Exception.0"), (.str (Str.ofString "type.__subclasses__.Exception.0") 232), (.int (46) 0)⟩, ⟨PyData.keyHash P (Str.ofString "type.__subclasses__.Exception.n"), (.str (Str.ofString "type.__subclasses__.Exception.n") 233), (.int (1) 0)⟩].toArray 2), [].toArray⟩) ::
  (nat_lit 3, ⟨(.type "dict"), none, (.dict [⟨PyData.keyHash P (Str.ofString "__name__"), (.str (Str.ofString "__name__") 165), (.str (Str.ofString "law_og0181_01") 793)⟩, ⟨PyData.keyHash P (Str.ofString "__doc__"), (.str (Str.ofString "__doc__") 166), .none⟩, ⟨PyData.keyHash P (Str.ofString "__package__"), (.str (Str.ofString "__package__") 167), .none⟩, ⟨PyData.keyHash P (Str.ofString "__loader__"), (.str (Str.ofString "__loader__") 168), (.builtin "__main__.__loader__#opaque")⟩, ⟨PyData.keyHash P (Str.ofString "__spec__"), (.str (Str.ofString "__spec__") 169), .none⟩, ⟨PyData.keyHash P (Str.ofString "__annotations__"), (.str (Str.ofString "__annotations__") 170), (.ref 6)⟩, ⟨PyData.keyHash P (Str.ofString "__builtins__"), (.str (Str.ofString "__builtins__") 171), (.ref 4)⟩, ⟨PyData.keyHash P (Str.ofString "__file__"), (.str (Str.ofString "__file__") 173), (.str (Str.ofString "/claim/cut.py") 172)⟩, ⟨PyData.keyHash P (Str.ofString "__cached__"), (.str (Str.ofString "__cached__") 174), .none⟩, ⟨PyData.keyHash P (Str.ofString "_wall"), (.str (Str.ofString "_wall") 193), (.ref 21)⟩, ⟨PyData.keyHash P (Str.ofString "PaperError"), (.str (Str.ofString "PaperError") 235), (.ref 46)⟩, ⟨PyData.keyHash P (Str.ofString "Decimal"), (.str (Str.ofString "Decimal") 351), (.ref 143)⟩, ⟨PyData.keyHash P (Str.ofString "sign_text"), (.str (Str.ofString "sign_text") 358), (.ref 154)⟩, ⟨PyData.keyHash P (Str.ofString "MOST_HOPS"), (.str (Str.ofString "MOST_HOPS") 362), (.int (30) 361)⟩, ⟨PyData.keyHash P (Str.ofString "Name"), (.str (Str.ofString "Name") 391), (.ref 171)⟩, ⟨PyData.keyHash P (Str.ofString "String"), (.str (Str.ofString "String") 422), (.ref 193)⟩, ⟨PyData.keyHash P (Str.ofString "Stream"), (.str (Str.ofString "Stream") 453), (.ref 214)⟩, ⟨PyData.keyHash P (Str.ofString "Reference"), (.str (Str.ofString "Reference") 491), (.ref 242)⟩, ⟨PyData.keyHash P (Str.ofString "kind_of"), (.str (Str.ofString "kind_of") 498), (.ref 253)⟩, ⟨PyData.keyHash P (Str.ofString "told_plain"), (.str (Str.ofString "told_plain") 506), (.ref 260)⟩, ⟨PyData.keyHash P (Str.ofString "told"), (.str (Str.ofString "told") 512), (.ref 265)⟩, ⟨PyData.keyHash P (Str.ofString "told_objects"), (.str (Str.ofString "told_objects") 513), (.ref 265)⟩, ⟨PyData.keyHash P (Str.ofString "copied"), (.str (Str.ofString "copied") 519), (.ref 270)⟩, ⟨PyData.keyHash P (Str.ofString "parts_of"), (.str (Str.ofString "parts_of") 525), (.ref 275)⟩, ⟨PyData.keyHash P (Str.ofString "references_in"), (.str (Str.ofString "references_in") 536), (.ref 282)⟩, ⟨PyData.keyHash P (Str.ofString "Lookup"), (.str (Str.ofString "Lookup") 588), (.ref 314)⟩, ⟨PyData.keyHash P (Str.ofString "Shelf"), (.str (Str.ofString "Shelf") 650), (.ref 368)⟩, ⟨PyData.keyHash P (Str.ofString "shelf_copied"), (.str (Str.ofString "shelf_copied") 661), (.ref 377)⟩, ⟨PyData.keyHash P (Str.ofString "PLACES_OF_FILES"), (.str (Str.ofString "PLACES_OF_FILES") 667), (.ref 378)⟩, ⟨PyData.keyHash P (Str.ofString "is_there"), (.str (Str.ofString "is_there") 677), (.ref 385)⟩, ⟨PyData.keyHash P (Str.ofString "plain_trailer"), (.str (Str.ofString "plain_trailer") 683), (.ref 390)⟩, ⟨PyData.keyHash P (Str.ofString "walk"), (.str (Str.ofString "walk") 689), (.ref 395)⟩, ⟨PyData.keyHash P (Str.ofString "reached"), (.str (Str.ofString "reached") 695), (.ref 400)⟩, ⟨PyData.keyHash P (Str.ofString "unreached"), (.str (Str.ofString "unreached") 701), (.ref 405)⟩, ⟨PyData.keyHash P (Str.ofString "seen_as"), (.str (Str.ofString "seen_as") 709), (.ref 412)⟩, ⟨PyData.keyHash P (Str.ofString "solid_keys"), (.str (Str.ofString "solid_keys") 715), (.ref 417)⟩, ⟨PyData.keyHash P (Str.ofString "Twin"), (.str (Str.ofString "Twin") 781), (.ref 455)⟩, ⟨PyData.keyHash P (Str.ofString "alike"), (.str (Str.ofString "alike") 792), (.ref 466)⟩, ⟨PyData.keyHash P (Str.ofString "_law_pen"), (.str (Str.ofString "_law_pen") 803), (.ref 473)⟩, ⟨PyData.keyHash P (Str.ofString "_law_draw"), (.str (Str.ofString "_law_draw") 812), (.ref 480)⟩, ⟨PyData.keyHash P (Str.ofString "_law_value"), (.str (Str.ofString "_law_value") 818), (.ref 485)⟩, ⟨PyData.keyHash P (Str.ofString "_law_shelf"), (.str (Str.ofString "_law_shelf") 827), (.ref 492)⟩, ⟨PyData.keyHash P (Str.ofString "_law_rounds"), (.str (Str.ofString "_law_rounds") 833), (.ref 497)⟩, ⟨PyData.keyHash P (Str.ofString "law"), (.str (Str.ofString "law") 839), (.ref 502)⟩].toArray 44), [].toArray⟩) ::
  (nat_lit 45, ⟨(.type "dict"), none, (.dict [⟨PyData.keyHash P (Str.ofString "__module__"), (.str (Str.ofString "__module__") 203), (.str (Str.ofString "paperhold.errors") 194)⟩, ⟨PyData.keyHash P (Str.ofString "__firstlineno__"), (.str (Str.ofString "__firstlineno__") 207), (.int (5) 206)⟩, ⟨PyData.keyHash P (Str.ofString "__init__"), (.str (Str.ofString "__init__") 218), (.ref 36)⟩, ⟨PyData.keyHash P (Str.ofString "told"), (.str (Str.ofString "told") 225), (.ref 43)⟩, ⟨PyData.keyHash P (Str.ofString "__static_attributes__"), (.str (Str.ofString "__static_attributes__") 228), (.ref 44)⟩, ⟨PyData.keyHash P (Str.ofString "__weakref__"), (.str (Str.ofString "__weakref__") 230), (.ref 47)⟩, ⟨PyData.keyHash P (Str.ofString "__doc__"), (.str (Str.ofString "__doc__") 231), .none⟩].toArray 3), [].toArray⟩) ::
  (nat_lit 46, ⟨(.type "type"), none, (.cls { name := (Str.ofString "PaperError"), bases := [(.type "Exception")], mro := [(.ref 46), (.type "Exception"), (.type "BaseException"), (.type "object")], ns := 45, qualname := (Str.ofString "PaperError"), hasDict := true, slotNames := [], subclasses := [], abstract := false, collection := none, hasDel := false }), [(some (.ref 22)), none, (some (.str (Str.ofString "PaperError") 196)), (some (.str (Str.ofString "PaperError") 204)), (some (.builtin "Exception.__new__")), (some (.bool true))].toArray⟩) ::
  (nat_lit 142, ⟨(.type "dict"), none, (.dict [⟨PyData.keyHash P (Str.ofString "__module__"), (.str (Str.ofString "__module__") 245), (.str (Str.ofString "paperhold.decimals") 236)⟩, ⟨PyData.keyHash P (Str.ofString "__firstlineno__"), (.str (Str.ofString "__firstlineno__") 249), (.int (15) 248)⟩, ⟨PyData.keyHash P (Str.ofString "__init__"), (.str (Str.ofString "__init__") 258), (.ref 63)⟩, ⟨PyData.keyHash P (Str.ofString "plus"), (.str (Str.ofString "plus") 266), (.ref 70)⟩, ⟨PyData.keyHash P (Str.ofString "minus"), (.str (Str.ofString "minus") 274), (.ref 77)⟩, ⟨PyData.keyHash P (Str.ofString "times"), (.str (Str.ofString "times") 282), (.ref 84)⟩, ⟨PyData.keyHash P (Str.ofString "negated"), (.str (Str.ofString "negated") 289), (.ref 91)⟩, ⟨PyData.keyHash P (Str.ofString "compared"), (.str (Str.ofString "compared") 297), (.ref 98)⟩, ⟨PyData.keyHash P (Str.ofString "is_whole"), (.str (Str.ofString "is_whole") 304), (.ref 105)⟩, ⟨PyData.keyHash P (Str.ofString "floor"), (.str (Str.ofString "floor") 311), (.ref 112)⟩, ⟨PyData.keyHash P (Str.ofString "rounded"), (.str (Str.ofString "rounded") 319), (.ref 119)⟩, ⟨PyData.keyHash P (Str.ofString "told"), (.str (Str.ofString "told") 326), (.ref 126)⟩, ⟨PyData.keyHash P (Str.ofString "text"), (.str (Str.ofString "text") 334), (.ref 133)⟩, ⟨PyData.keyHash P (Str.ofString "least_text"), (.str (Str.ofString "least_text") 341), (.ref 140)⟩, ⟨PyData.keyHash P (Str.ofString "__static_attributes__"), (.str (Str.ofString "__static_attributes__") 344), (.ref 141)⟩, ⟨PyData.keyHash P (Str.ofString "__dict__"), (.str (Str.ofString "__dict__") 346), (.ref 144)⟩, ⟨PyData.keyHash P (Str.ofString "__weakref__"), (.str (Str.ofString "__weakref__") 348), (.ref 145)⟩, ⟨PyData.keyHash P (Str.ofString "__doc__"), (.str (Str.ofString "__doc__") 349), .none⟩].toArray 4), [].toArray⟩) ::
  (nat_lit 143, ⟨(.type "type"), none, (.cls { name := (Str.ofString "Decimal"), bases := [(.type "object")], mro := [(.ref 143), (.type "object")], ns := 142, qualname := (Str.ofString "Decimal"), hasDict := true, slotNames := [], subclasses := [], abstract := false, collection := none, hasDel := false }), [none, none, (some (.str (Str.ofString "Decimal") 238)), (some (.str (Str.ofString "Decimal") 246)), (some (.builtin "object.__new__")), (some (.bool true))].toArray⟩) ::
  (nat_lit 167, ⟨(.type "code"), none, (.fields [(.str (Str.ofString "__init__") 375), (.str (Str.ofString "Name.__init__") 376), (.str (Str.ofString "/claim/cut.py") 377), (.int (66) 0), (.int (2) 0), (.int (0) 0), (.int (0) 0), (.int (3) 0), (.ref 162), (.bool true), (.int (181) 0), (.ref 163), .none, (.ref 164), (.ref 165), (.ref 166), (.int (380) 0), (.int (66) 0), (.str (Str.ofString "/claim/cut.py") 381)].toArray), [].toArray⟩) ::
  (nat_lit 168, ⟨(.type "function"), none, (.func (fnS (at2 8 0) (Str.ofString "Name.__init__") .none .none .none (.str (Str.ofString "paperhold.objects") 359) (.ref 167) .none)), [].toArray⟩) ::
  (nat_lit 170, ⟨(.type "dict"), none, (.dict [⟨PyData.keyHash P (Str.ofString "__module__"), (.str (Str.ofString "__module__") 370), (.str (Str.ofString "paperhold.objects") 359)⟩, ⟨PyData.keyHash P (Str.ofString "__firstlineno__"), (.str (Str.ofString "__firstlineno__") 374), (.int (64) 373)⟩, ⟨PyData.keyHash P (Str.ofString "__init__"), (.str (Str.ofString "__init__") 382), (.ref 168)⟩, ⟨PyData.keyHash P (Str.ofString "__static_attributes__"), (.str (Str.ofString "__static_attributes__") 384), (.ref 169)⟩, ⟨PyData.keyHash P (Str.ofString "__dict__"), (.str (Str.ofString "__dict__") 386), (.ref 172)⟩, ⟨PyData.keyHash P (Str.ofString "__weakref__"), (.str (Str.ofString "__weakref__") 388), (.ref 173)⟩, ⟨PyData.keyHash P (Str.ofString "__doc__"), (.str (Str.ofString "__doc__") 389), .none⟩].toArray 4), [].toArray⟩) ::
  (nat_lit 171, ⟨(.type "type"), none, (.cls { name := (Str.ofString "Name"), bases := [(.type "object")], mro := [(.ref 171), (.type "object")], ns := 170, qualname := (Str.ofString "Name"), hasDict := true, slotNames := [], subclasses := [], abstract := false, collection := none, hasDel := false }), [none, none, (some (.str (Str.ofString "Name") 363)), (some (.str (Str.ofString "Name") 371)), (some (.builtin "object.__new__")), (some (.bool true))].toArray⟩) ::
  (nat_lit 192, ⟨(.type "dict"), none, (.dict [⟨PyData.keyHash P (Str.ofString "__module__"), (.str (Str.ofString "__module__") 399), (.str (Str.ofString "paperhold.objects") 359)⟩, ⟨PyData.keyHash P (Str.ofString "__firstlineno__"), (.str (Str.ofString "__firstlineno__") 403), (.int (68) 402)⟩, ⟨PyData.keyHash P (Str.ofString "__init__"), (.str (Str.ofString "__init__") 412), (.ref 190)⟩, ⟨PyData.keyHash P (Str.ofString "__static_attributes__"), (.str (Str.ofString "__static_attributes__") 415), (.ref 191)⟩, ⟨PyData.keyHash P (Str.ofString "__dict__"), (.str (Str.ofString "__dict__") 417), (.ref 194)⟩, ⟨PyData.keyHash P (Str.ofString "__weakref__"), (.str (Str.ofString "__weakref__") 419), (.ref 195)⟩, ⟨PyData.keyHash P (Str.ofString "__doc__"), (.str (Str.ofString "__doc__") 420), .none⟩].toArray 4), [].toArray⟩) ::
  (nat_lit 193, ⟨(.type "type"), none, (.cls { name := (Str.ofString "String"), bases := [(.type "object")], mro := [(.ref 193), (.type "object")], ns := 192, qualname := (Str.ofString "String"), hasDict := true, slotNames := [], subclasses := [], abstract := false, collection := none, hasDel := false }), [none, none, (some (.str (Str.ofString "String") 392)), (some (.str (Str.ofString "String") 400)), (some (.builtin "object.__new__")), (some (.bool true))].toArray⟩) ::
  (nat_lit 210, ⟨(.type "code"), none, (.fields [(.str (Str.ofString "__init__") 435), (.str (Str.ofString "Stream.__init__") 436), (.str (Str.ofString "/claim/cut.py") 437), (.int (75) 0), (.int (3) 0), (.int (0) 0), (.int (0) 0), (.int (3) 0), (.ref 205), (.bool true), (.int (181) 0), (.ref 206), .none, (.ref 207), (.ref 208), (.ref 209), (.int (441) 0), (.int (75) 0), (.str (Str.ofString "/claim/cut.py") 442)].toArray), [].toArray⟩) ::
  (nat_lit 211, ⟨(.type "function"), none, (.func (fnS (at2 10 0) (Str.ofString "Stream.__init__") .none .none .none (.str (Str.ofString "paperhold.objects") 359) (.ref 210) .none)), [].toArray⟩) ::
  (nat_lit 213, ⟨(.type "dict"), none, (.dict [⟨PyData.keyHash P (Str.ofString "__module__"), (.str (Str.ofString "__module__") 430), (.str (Str.ofString "paperhold.objects") 359)⟩, ⟨PyData.keyHash P (Str.ofString "__firstlineno__"), (.str (Str.ofString "__firstlineno__") 434), (.int (73) 433)⟩, ⟨PyData.keyHash P (Str.ofString "__init__"), (.str (Str.ofString "__init__") 443), (.ref 211)⟩, ⟨PyData.keyHash P (Str.ofString "__static_attributes__"), (.str (Str.ofString "__static_attributes__") 446), (.ref 212)⟩, ⟨PyData.keyHash P (Str.ofString "__dict__"), (.str (Str.ofString "__dict__") 448), (.ref 215)⟩, ⟨PyData.keyHash P (Str.ofString "__weakref__"), (.str (Str.ofString "__weakref__") 450), (.ref 216)⟩, ⟨PyData.keyHash P (Str.ofString "__doc__"), (.str (Str.ofString "__doc__") 451), .none⟩].toArray 4), [].toArray⟩) ::
  (nat_lit 214, ⟨(.type "type"), none, (.cls { name := (Str.ofString "Stream"), bases := [(.type "object")], mro := [(.ref 214), (.type "object")], ns := 213, qualname := (Str.ofString "Stream"), hasDict := true, slotNames := [], subclasses := [], abstract := false, collection := none, hasDel := false }), [none, none, (some (.str (Str.ofString "Stream") 423)), (some (.str (Str.ofString "Stream") 431)), (some (.builtin "object.__new__")), (some (.bool true))].toArray⟩) ::
  (nat_lit 231, ⟨(.type "code"), none, (.fields [(.str (Str.ofString "__init__") 466), (.str (Str.ofString "Reference.__init__") 467), (.str (Str.ofString "/claim/cut.py") 468), (.int (80) 0), (.int (3) 0), (.int (0) 0), (.int (0) 0), (.int (3) 0), (.ref 226), (.bool true), (.int (181) 0), (.ref 227), .none, (.ref 228), (.ref 229), (.ref 230), (.int (472) 0), (.int (80) 0), (.str (Str.ofString "/claim/cut.py") 473)].toArray), [].toArray⟩) ::
  (nat_lit 232, ⟨(.type "function"), none, (.func (fnS (at2 11 0) (Str.ofString "Reference.__init__") .none .none .none (.str (Str.ofString "paperhold.objects") 359) (.ref 231) .none)), [].toArray⟩) ::
  (nat_lit 238, ⟨(.type "code"), none, (.fields [(.str (Str.ofString "pair") 475), (.str (Str.ofString "Reference.pair") 476), (.str (Str.ofString "/claim/cut.py") 477), (.int (84) 0), (.int (1) 0), (.int (0) 0), (.int (0) 0), (.int (3) 0), (.ref 233), (.bool true), (.int (181) 0), (.ref 234), .none, (.ref 235), (.ref 236), (.ref 237), (.int (479) 0), (.int (84) 0), (.str (Str.ofString "/claim/cut.py") 480)].toArray), [].toArray⟩) ::
  (nat_lit 239, ⟨(.type "function"), none, (.func (fnS (at2 11 1) (Str.ofString "Reference.pair") .none .none .none (.str (Str.ofString "paperhold.objects") 359) (.ref 238) .none)), [].toArray⟩) ::
  (nat_lit 241, ⟨(.type "dict"), none, (.dict [⟨PyData.keyHash P (Str.ofString "__module__"), (.str (Str.ofString "__module__") 461), (.str (Str.ofString "paperhold.objects") 359)⟩, ⟨PyData.keyHash P (Str.ofString "__firstlineno__"), (.str (Str.ofString "__firstlineno__") 465), (.int (78) 464)⟩, ⟨PyData.keyHash P (Str.ofString "__init__"), (.str (Str.ofString "__init__") 474), (.ref 232)⟩, ⟨PyData.keyHash P (Str.ofString "pair"), (.str (Str.ofString "pair") 481), (.ref 239)⟩, ⟨PyData.keyHash P (Str.ofString "__static_attributes__"), (.str (Str.ofString "__static_attributes__") 484), (.ref 240)⟩, ⟨PyData.keyHash P (Str.ofString "__dict__"), (.str (Str.ofString "__dict__") 486), (.ref 243)⟩, ⟨PyData.keyHash P (Str.ofString "__weakref__"), (.str (Str.ofString "__weakref__") 488), (.ref 244)⟩, ⟨PyData.keyHash P (Str.ofString "__doc__"), (.str (Str.ofString "__doc__") 489), .none⟩].toArray 4), [].toArray⟩) ::
  (nat_lit 242, ⟨(.type "type"), none, (.cls { name := (Str.ofString "Reference"), bases := [(.type "object")], mro := [(.ref 242), (.type "object")], ns := 241, qualname := (Str.ofString "Reference"), hasDict := true, slotNames := [], subclasses := [], abstract := false, collection := none, hasDel := false }), [none, none, (some (.str (Str.ofString "Reference") 454)), (some (.str (Str.ofString "Reference") 462)), (some (.builtin "object.__new__")), (some (.bool true))].toArray⟩) ::
  (nat_lit 252, ⟨(.type "code"), none, (.fields [(.str (Str.ofString "kind_of") 492), (.str (Str.ofString "kind_of") 493), (.str (Str.ofString "/claim/cut.py") 494), (.int (86) 0), (.int (1) 0), (.int (0) 0), (.int (0) 0), (.int (3) 0), (.ref 247), (.bool true), (.int (181) 0), (.ref 248), .none, (.ref 249), (.ref 250), (.ref 251), (.int (496) 0), (.int (86) 0), (.str (Str.ofString "/claim/cut.py") 497)].toArray), [].toArray⟩) ::
  (nat_lit 253, ⟨(.type "function"), none, (.func (fnS (at1 12) (Str.ofString "kind_of") .none .none .none (.str (Str.ofString "paperhold.objects") 359) (.ref 252) .none)), [].toArray⟩) ::
  (nat_lit 259, ⟨(.type "code"), none, (.fields [(.str (Str.ofString "told_plain") 499), (.str (Str.ofString "told_plain") 500), (.str (Str.ofString "/claim/cut.py") 501), (.int (108) 0), (.int (2) 0), (.int (0) 0), (.int (0) 0), (.int (3) 0), (.ref 254), (.bool true), (.int (181) 0), (.ref 255), .none, (.ref 256), (.ref 257), (.ref 258), (.int (504) 0), (.int (108) 0), (.str (Str.ofString "/claim/cut.py") 505)].toArray), [].toArray⟩) ::
  (nat_lit 260, ⟨(.type "function"), none, (.func (fnS (at1 13) (Str.ofString "told_plain") .none .none .none (.str (Str.ofString "paperhold.objects") 359) (.ref 259) .none)), [].toArray⟩) ::
  (nat_lit 264, ⟨(.type "code"), none, (.fields [(.str (Str.ofString "told") 507), (.str (Str.ofString "told") 508), (.str (Str.ofString "/claim/cut.py") 509), (.int (122) 0), (.int (1) 0), (.int (0) 0), (.int (0) 0), (.int (3) 0), (.ref 261), (.bool true), (.int (181) 0), (.ref 262), .none, .none, .none, (.ref 263), (.int (510) 0), (.int (122) 0), (.str (Str.ofString "/claim/cut.py") 511)].toArray), [].toArray⟩) ::
  (nat_lit 265, ⟨(.type "function"), none, (.func (fnS (at1 14) (Str.ofString "told") .none .none .none (.str (Str.ofString "paperhold.objects") 359) (.ref 264) .none)), [].toArray⟩) ::
  (nat_lit 269, ⟨(.type "code"), none, (.fields [(.str (Str.ofString "copied") 514), (.str (Str.ofString "copied") 515), (.str (Str.ofString "/claim/cut.py") 516), (.int (132) 0), (.int (1) 0), (.int (0) 0), (.int (0) 0), (.int (3) 0), (.ref 266), (.bool true), (.int (181) 0), (.ref 267), .none, .none, .none, (.ref 268), (.int (517) 0), (.int (132) 0), (.str (Str.ofString "/claim/cut.py") 518)].toArray), [].toArray⟩) ::
  (nat_lit 270, ⟨(.type "function"), none, (.func (fnS (at1 16) (Str.ofString "copied") .none .none .none (.str (Str.ofString "paperhold.objects") 359) (.ref 269) .none)), [].toArray⟩) ::
  (nat_lit 274, ⟨(.type "code"), none, (.fields [(.str (Str.ofString "parts_of") 520), (.str (Str.ofString "parts_of") 521), (.str (Str.ofString "/claim/cut.py") 522), (.int (141) 0), (.int (1) 0), (.int (0) 0), (.int (0) 0), (.int (3) 0), (.ref 271), (.bool true), (.int (181) 0), (.ref 272), .none, .none, .none, (.ref 273), (.int (523) 0), (.int (141) 0), (.str (Str.ofString "/claim/cut.py") 524)].toArray), [].toArray⟩) ::
  (nat_lit 275, ⟨(.type "function"), none, (.func (fnS (at1 17) (Str.ofString "parts_of") .none .none .none (.str (Str.ofString "paperhold.objects") 359) (.ref 274) .none)), [].toArray⟩) ::
  (nat_lit 281, ⟨(.type "code"), none, (.fields [(.str (Str.ofString "references_in") 526), (.str (Str.ofString "references_in") 527), (.str (Str.ofString "/claim/cut.py") 528), (.int (150) 0), (.int (1) 0), (.int (0) 0), (.int (0) 0), (.int (3) 0), (.ref 276), (.bool true), (.int (181) 0), (.ref 277), .none, (.ref 278), (.ref 279), (.ref 280), (.int (534) 0), (.int (150) 0), (.str (Str.ofString "/claim/cut.py") 535)].toArray), [].toArray⟩) ::
  (nat_lit 282, ⟨(.type "function"), none, (.func (fnS (at1 18) (Str.ofString "references_in") .none .none .none (.str (Str.ofString "paperhold.objects") 359) (.ref 281) .none)), [].toArray⟩) ::
  (nat_lit 290, ⟨(.type "tuple"), none, (.seq [.none, .none].toArray 0), [].toArray⟩) ::
  (nat_lit 296, ⟨(.type "code"), none, (.fields [(.str (Str.ofString "__init__") 549), (.str (Str.ofString "Lookup.__init__") 550), (.str (Str.ofString "/claim/cut.py") 551), (.int (165) 0), (.int (3) 0), (.int (0) 0), (.int (0) 0), (.int (3) 0), (.ref 291), (.bool true), (.int (181) 0), (.ref 292), .none, (.ref 293), (.ref 294), (.ref 295), (.int (555) 0), (.int (165) 0), (.str (Str.ofString "/claim/cut.py") 556)].toArray), [].toArray⟩) ::
  (nat_lit 297, ⟨(.type "function"), none, (.func (fnS (at2 19 0) (Str.ofString "Lookup.__init__") (.ref 290) .none .none (.str (Str.ofString "paperhold.objects") 359) (.ref 296) .none)), [].toArray⟩) ::
  (nat_lit 313, ⟨(.type "dict"), none, (.dict [⟨PyData.keyHash P (Str.ofString "__module__"), (.str (Str.ofString "__module__") 544), (.str (Str.ofString "paperhold.objects") 359)⟩, ⟨PyData.keyHash P (Str.ofString "__firstlineno__"), (.str (Str.ofString "__firstlineno__") 548), (.int (163) 547)⟩, ⟨PyData.keyHash P (Str.ofString "__init__"), (.str (Str.ofString "__init__") 557), (.ref 297)⟩, ⟨PyData.keyHash P (Str.ofString "fetch"), (.str (Str.ofString "fetch") 569), (.ref 304)⟩, ⟨PyData.keyHash P (Str.ofString "get"), (.str (Str.ofString "get") 578), (.ref 311)⟩, ⟨PyData.keyHash P (Str.ofString "__static_attributes__"), (.str (Str.ofString "__static_attributes__") 581), (.ref 312)⟩, ⟨PyData.keyHash P (Str.ofString "__dict__"), (.str (Str.ofString "__dict__") 583), (.ref 315)⟩, ⟨PyData.keyHash P (Str.ofString "__weakref__"), (.str (Str.ofString "__weakref__") 585), (.ref 316)⟩, ⟨PyData.keyHash P (Str.ofString "__doc__"), (.str (Str.ofString "__doc__") 586), .none⟩].toArray 4), [].toArray⟩) ::
  (nat_lit 314, ⟨(.type "type"), none, (.cls { name := (Str.ofString "Lookup"), bases := [(.type "object")], mro := [(.ref 314), (.type "object")], ns := 313, qualname := (Str.ofString "Lookup"), hasDict := true, slotNames := [], subclasses := [(.ref 368)], abstract := false, collection := none, hasDel := false }), [none, none, (some (.str (Str.ofString "Lookup") 537)), (some (.str (Str.ofString "Lookup") 545)), (some (.builtin "object.__new__")), (some (.bool true))].toArray⟩) ::
  (nat_lit 331, ⟨(.type "code"), none, (.fields [(.str (Str.ofString "put") 601), (.str (Str.ofString "Shelf.put") 602), (.str (Str.ofString "/claim/cut.py") 603), (.int (184) 0), (.int (4) 0), (.int (0) 0), (.int (0) 0), (.int (3) 0), (.ref 326), (.bool true), (.int (181) 0), (.ref 327), .none, (.ref 328), (.ref 329), (.ref 330), (.int (608) 0), (.int (184) 0), (.str (Str.ofString "/claim/cut.py") 609)].toArray), [].toArray⟩) ::
  (nat_lit 332, ⟨(.type "function"), none, (.func (fnS (at2 20 0) (Str.ofString "Shelf.put") .none .none .none (.str (Str.ofString "paperhold.objects") 359) (.ref 331) .none)), [].toArray⟩) ::
  (nat_lit 345, ⟨(.type "code"), none, (.fields [(.str (Str.ofString "drop") 619), (.str (Str.ofString "Shelf.drop") 620), (.str (Str.ofString "/claim/cut.py") 621), (.int (190) 0), (.int (2) 0), (.int (0) 0), (.int (0) 0), (.int (3) 0), (.ref 340), (.bool true), (.int (181) 0), (.ref 341), .none, (.ref 342), (.ref 343), (.ref 344), (.int (624) 0), (.int (190) 0), (.str (Str.ofString "/claim/cut.py") 625)].toArray), [].toArray⟩) ::
  (nat_lit 346, ⟨(.type "function"), none, (.func (fnS (at2 20 2) (Str.ofString "Shelf.drop") .none .none .none (.str (Str.ofString "paperhold.objects") 359) (.ref 345) .none)), [].toArray⟩) ::
  (nat_lit 352, ⟨(.type "code"), none, (.fields [(.str (Str.ofString "numbers") 627), (.str (Str.ofString "Shelf.numbers") 628), (.str (Str.ofString "/claim/cut.py") 629), (.int (194) 0), (.int (1) 0), (.int (0) 0), (.int (0) 0), (.int (3) 0), (.ref 347), (.bool true), (.int (181) 0), (.ref 348), .none, (.ref 349), (.ref 350), (.ref 351), (.int (631) 0), (.int (194) 0), (.str (Str.ofString "/claim/cut.py") 632)].toArray), [].toArray⟩) ::
  (nat_lit 353, ⟨(.type "function"), none, (.func (fnS (at2 20 3) (Str.ofString "Shelf.numbers") .none .none .none (.str (Str.ofString "paperhold.objects") 359) (.ref 352) .none)), [].toArray⟩) ::
  (nat_lit 364, ⟨(.type "code"), none, (.fields [(.str (Str.ofString "told") 641), (.str (Str.ofString "Shelf.told") 642), (.str (Str.ofString "/claim/cut.py") 643), (.int (200) 0), (.int (1) 0), (.int (0) 0), (.int (0) 0), (.int (3) 0), (.ref 361), (.bool true), (.int (181) 0), (.ref 362), .none, .none, .none, (.ref 363), (.int (644) 0), (.int (200) 0), (.str (Str.ofString "/claim/cut.py") 645)].toArray), [].toArray⟩) ::
  (nat_lit 365, ⟨(.type "function"), none, (.func (fnS (at2 20 5) (Str.ofString "Shelf.told") .none .none .none (.str (Str.ofString "paperhold.objects") 359) (.ref 364) .none)), [].toArray⟩) ::
  (nat_lit 367, ⟨(.type "dict"), none, (.dict [⟨PyData.keyHash P (Str.ofString "__module__"), (.str (Str.ofString "__module__") 596), (.str (Str.ofString "paperhold.objects") 359)⟩, ⟨PyData.keyHash P (Str.ofString "__firstlineno__"), (.str (Str.ofString "__firstlineno__") 600), (.int (182) 599)⟩, ⟨PyData.keyHash P (Str.ofString "put"), (.str (Str.ofString "put") 610), (.ref 332)⟩, ⟨PyData.keyHash P (Str.ofString "add"), (.str (Str.ofString "add") 618), (.ref 339)⟩, ⟨PyData.keyHash P (Str.ofString "drop"), (.str (Str.ofString "drop") 626), (.ref 346)⟩, ⟨PyData.keyHash P (Str.ofString "numbers"), (.str (Str.ofString "numbers") 633), (.ref 353)⟩, ⟨PyData.keyHash P (Str.ofString "root"), (.str (Str.ofString "root") 640), (.ref 360)⟩, ⟨PyData.keyHash P (Str.ofString "told"), (.str (Str.ofString "told") 646), (.ref 365)⟩, ⟨PyData.keyHash P (Str.ofString "__static_attributes__"), (.str (Str.ofString "__static_attributes__") 647), (.ref 366)⟩, ⟨PyData.keyHash P (Str.ofString "__doc__"), (.str (Str.ofString "__doc__") 648), .none⟩].toArray 2), [].toArray⟩) ::
  (nat_lit 368, ⟨(.type "type"), none, (.cls { name := (Str.ofString "Shelf"), bases := [(.ref 314)], mro := [(.ref 368), (.ref 314), (.type "object")], ns := 367, qualname := (Str.ofString "Shelf"), hasDict := true, slotNames := [], subclasses := [], abstract := false, collection := none, hasDel := false }), [(some (.ref 319)), none, (some (.str (Str.ofString "Shelf") 589)), (some (.str (Str.ofString "Shelf") 597)), (some (.builtin "object.__new__")), (some (.bool true))].toArray⟩) ::
  (nat_lit 376, ⟨(.type "code"), none, (.fields [(.str (Str.ofString "shelf_copied") 651), (.str (Str.ofString "shelf_copied") 652), (.str (Str.ofString "/claim/cut.py") 653), (.int (203) 0), (.int (1) 0), (.int (0) 0), (.int (0) 0), (.int (3) 0), (.ref 371), (.bool true), (.int (181) 0), (.ref 372), .none, (.ref 373), (.ref 374), (.ref 375), (.int (659) 0), (.int (203) 0), (.str (Str.ofString "/claim/cut.py") 660)].toArray), [].toArray⟩) ::
  (nat_lit 377, ⟨(.type "function"), none, (.func (fnS (at1 21) (Str.ofString "shelf_copied") .none .none .none (.str (Str.ofString "paperhold.objects") 359) (.ref 376) .none)), [].toArray⟩) ::
  (nat_lit 378, ⟨(.type "tuple"), none, (.seq [(.str (Str.ofString "Size") 664), (.str (Str.ofString "Prev") 665), (.str (Str.ofString "XRefStm") 666)].toArray 0), [].toArray⟩) ::
  (nat_lit 384, ⟨(.type "code"), none, (.fields [(.str (Str.ofString "is_there") 668), (.str (Str.ofString "is_there") 669), (.str (Str.ofString "/claim/cut.py") 670), (.int (211) 0), (.int (2) 0), (.int (0) 0), (.int (0) 0), (.int (3) 0), (.ref 379), (.bool true), (.int (181) 0), (.ref 380), .none, (.ref 381), (.ref 382), (.ref 383), (.int (675) 0), (.int (211) 0), (.str (Str.ofString "/claim/cut.py") 676)].toArray), [].toArray⟩) ::
  (nat_lit 385, ⟨(.type "function"), none, (.func (fnS (at1 24) (Str.ofString "is_there") .none .none .none (.str (Str.ofString "paperhold.gather") 662) (.ref 384) .none)), [].toArray⟩) ::
  (nat_lit 389, ⟨(.type "code"), none, (.fields [(.str (Str.ofString "plain_trailer") 678), (.str (Str.ofString "plain_trailer") 679), (.str (Str.ofString "/claim/cut.py") 680), (.int (214) 0), (.int (1) 0), (.int (0) 0), (.int (0) 0), (.int (3) 0), (.ref 386), (.bool true), (.int (181) 0), (.ref 387), .none, .none, .none, (.ref 388), (.int (681) 0), (.int (214) 0), (.str (Str.ofString "/claim/cut.py") 682)].toArray), [].toArray⟩) ::
  (nat_lit 390, ⟨(.type "function"), none, (.func (fnS (at1 25) (Str.ofString "plain_trailer") .none .none .none (.str (Str.ofString "paperhold.gather") 662) (.ref 389) .none)), [].toArray⟩) ::
  (nat_lit 394, ⟨(.type "code"), none, (.fields [(.str (Str.ofString "walk") 684), (.str (Str.ofString "walk") 685), (.str (Str.ofString "/claim/cut.py") 686), (.int (216) 0), (.int (2) 0), (.int (0) 0), (.int (0) 0), (.int (3) 0), (.ref 391), (.bool true), (.int (181) 0), (.ref 392), .none, .none, .none, (.ref 393), (.int (687) 0), (.int (216) 0), (.str (Str.ofString "/claim/cut.py") 688)].toArray), [].toArray⟩) ::
  (nat_lit 395, ⟨(.type "function"), none, (.func (fnS (at1 26) (Str.ofString "walk") .none .none .none (.str (Str.ofString "paperhold.gather") 662) (.ref 394) .none)), [].toArray⟩) ::
  (nat_lit 399, ⟨(.type "code"), none, (.fields [(.str (Str.ofString "reached") 690), (.str (Str.ofString "reached") 691), (.str (Str.ofString "/claim/cut.py") 692), (.int (227) 0), (.int (2) 0), (.int (0) 0), (.int (0) 0), (.int (3) 0), (.ref 396), (.bool true), (.int (181) 0), (.ref 397), .none, .none, .none, (.ref 398), (.int (693) 0), (.int (227) 0), (.str (Str.ofString "/claim/cut.py") 694)].toArray), [].toArray⟩) ::
  (nat_lit 400, ⟨(.type "function"), none, (.func (fnS (at1 27) (Str.ofString "reached") .none .none .none (.str (Str.ofString "paperhold.gather") 662) (.ref 399) .none)), [].toArray⟩) ::
  (nat_lit 404, ⟨(.type "code"), none, (.fields [(.str (Str.ofString "unreached") 696), (.str (Str.ofString "unreached") 697), (.str (Str.ofString "/claim/cut.py") 698), (.int (229) 0), (.int (1) 0), (.int (0) 0), (.int (0) 0), (.int (3) 0), (.ref 401), (.bool true), (.int (181) 0), (.ref 402), .none, .none, .none, (.ref 403), (.int (699) 0), (.int (229) 0), (.str (Str.ofString "/claim/cut.py") 700)].toArray), [].toArray⟩) ::
  (nat_lit 405, ⟨(.type "function"), none, (.func (fnS (at1 28) (Str.ofString "unreached") .none .none .none (.str (Str.ofString "paperhold.gather") 662) (.ref 404) .none)), [].toArray⟩) ::
  (nat_lit 411, ⟨(.type "code"), none, (.fields [(.str (Str.ofString "seen_as") 702), (.str (Str.ofString "seen_as") 703), (.str (Str.ofString "/claim/cut.py") 704), (.int (232) 0), (.int (2) 0), (.int (0) 0), (.int (0) 0), (.int (3) 0), (.ref 406), (.bool true), (.int (181) 0), (.ref 407), .none, (.ref 408), (.ref 409), (.ref 410), (.int (707) 0), (.int (232) 0), (.str (Str.ofString "/claim/cut.py") 708)].toArray), [].toArray⟩) ::
  (nat_lit 412, ⟨(.type "function"), none, (.func (fnS (at1 29) (Str.ofString "seen_as") .none .none .none (.str (Str.ofString "paperhold.gather") 662) (.ref 411) .none)), [].toArray⟩) ::
  (nat_lit 416, ⟨(.type "code"), none, (.fields [(.str (Str.ofString "solid_keys") 710), (.str (Str.ofString "solid_keys") 711), (.str (Str.ofString "/claim/cut.py") 712), (.int (236) 0), (.int (2) 0), (.int (0) 0), (.int (0) 0), (.int (3) 0), (.ref 413), (.bool true), (.int (181) 0), (.ref 414), .none, .none, .none, (.ref 415), (.int (713) 0), (.int (236) 0), (.str (Str.ofString "/claim/cut.py") 714)].toArray), [].toArray⟩) ::
  (nat_lit 417, ⟨(.type "function"), none, (.func (fnS (at1 30) (Str.ofString "solid_keys") .none .none .none (.str (Str.ofString "paperhold.gather") 662) (.ref 416) .none)), [].toArray⟩) ::
  (nat_lit 430, ⟨(.type "code"), none, (.fields [(.str (Str.ofString "__init__") 728), (.str (Str.ofString "Twin.__init__") 729), (.str (Str.ofString "/claim/cut.py") 730), (.int (240) 0), (.int (3) 0), (.int (0) 0), (.int (0) 0), (.int (3) 0), (.ref 425), (.bool true), (.int (181) 0), (.ref 426), .none, (.ref 427), (.ref 428), (.ref 429), (.int (734) 0), (.int (240) 0), (.str (Str.ofString "/claim/cut.py") 735)].toArray), [].toArray⟩) ::
  (nat_lit 431, ⟨(.type "function"), none, (.func (fnS (at2 31 0) (Str.ofString "Twin.__init__") .none .none .none (.str (Str.ofString "paperhold.gather") 662) (.ref 430) .none)), [].toArray⟩) ::
  (nat_lit 437, ⟨(.type "code"), none, (.fields [(.str (Str.ofString "meet") 737), (.str (Str.ofString "Twin.meet") 738), (.str (Str.ofString "/claim/cut.py") 739), (.int (247) 0), (.int (3) 0), (.int (0) 0), (.int (0) 0), (.int (3) 0), (.ref 432), (.bool true), (.int (181) 0), (.ref 433), .none, (.ref 434), (.ref 435), (.ref 436), (.int (746) 0), (.int (247) 0), (.str (Str.ofString "/claim/cut.py") 747)].toArray), [].toArray⟩) ::
  (nat_lit 438, ⟨(.type "function"), none, (.func (fnS (at2 31 1) (Str.ofString "Twin.meet") .none .none .none (.str (Str.ofString "paperhold.gather") 662) (.ref 437) .none)), [].toArray⟩) ::
  (nat_lit 444, ⟨(.type "code"), none, (.fields [(.str (Str.ofString "meet_dicts") 749), (.str (Str.ofString "Twin.meet_dicts") 750), (.str (Str.ofString "/claim/cut.py") 751), (.int (264) 0), (.int (3) 0), (.int (0) 0), (.int (0) 0), (.int (3) 0), (.ref 439), (.bool true), (.int (181) 0), (.ref 440), .none, (.ref 441), (.ref 442), (.ref 443), (.int (757) 0), (.int (264) 0), (.str (Str.ofString "/claim/cut.py") 758)].toArray), [].toArray⟩) ::
  (nat_lit 445, ⟨(.type "function"), none, (.func (fnS (at2 31 2) (Str.ofString "Twin.meet_dicts") .none .none .none (.str (Str.ofString "paperhold.gather") 662) (.ref 444) .none)), [].toArray⟩) ::
  (nat_lit 451, ⟨(.type "code"), none, (.fields [(.str (Str.ofString "meet_references") 760), (.str (Str.ofString "Twin.meet_references") 761), (.str (Str.ofString "/claim/cut.py") 762), (.int (272) 0), (.int (3) 0), (.int (0) 0), (.int (0) 0), (.int (3) 0), (.ref 446), (.bool true), (.int (181) 0), (.ref 447), .none, (.ref 448), (.ref 449), (.ref 450), (.int (766) 0), (.int (272) 0), (.str (Str.ofString "/claim/cut.py") 767)].toArray), [].toArray⟩) ::
  (nat_lit 452, ⟨(.type "function"), none, (.func (fnS (at2 31 3) (Str.ofString "Twin.meet_references") .none .none .none (.str (Str.ofString "paperhold.gather") 662) (.ref 451) .none)), [].toArray⟩) ::
  (nat_lit 454, ⟨(.type "dict"), none, (.dict [⟨PyData.keyHash P (Str.ofString "__module__"), (.str (Str.ofString "__module__") 723), (.str (Str.ofString "paperhold.gather") 662)⟩, ⟨PyData.keyHash P (Str.ofString "__firstlineno__"), (.str (Str.ofString "__firstlineno__") 727), (.int (238) 726)⟩, ⟨PyData.keyHash P (Str.ofString "__init__"), (.str (Str.ofString "__init__") 736), (.ref 431)⟩, ⟨PyData.keyHash P (Str.ofString "meet"), (.str (Str.ofString "meet") 748), (.ref 438)⟩, ⟨PyData.keyHash P (Str.ofString "meet_dicts"), (.str (Str.ofString "meet_dicts") 759), (.ref 445)⟩, ⟨PyData.keyHash P (Str.ofString "meet_references"), (.str (Str.ofString "meet_references") 768), (.ref 452)⟩, ⟨PyData.keyHash P (Str.ofString "__static_attributes__"), (.str (Str.ofString "__static_attributes__") 774), (.ref 453)⟩, ⟨PyData.keyHash P (Str.ofString "__dict__"), (.str (Str.ofString "__dict__") 776), (.ref 456)⟩, ⟨PyData.keyHash P (Str.ofString "__weakref__"), (.str (Str.ofString "__weakref__") 778), (.ref 457)⟩, ⟨PyData.keyHash P (Str.ofString "__doc__"), (.str (Str.ofString "__doc__") 779), .none⟩].toArray 4), [].toArray⟩) ::
  (nat_lit 455, ⟨(.type "type"), none, (.cls { name := (Str.ofString "Twin"), bases := [(.type "object")], mro := [(.ref 455), (.type "object")], ns := 454, qualname := (Str.ofString "Twin"), hasDict := true, slotNames := [], subclasses := [], abstract := false, collection := none, hasDel := false }), [none, none, (some (.str (Str.ofString "Twin") 716)), (some (.str (Str.ofString "Twin") 724)), (some (.builtin "object.__new__")), (some (.bool true))].toArray⟩) ::
  (nat_lit 465, ⟨(.type "code"), none, (.fields [(.str (Str.ofString "alike") 782), (.str (Str.ofString "alike") 783), (.str (Str.ofString "/claim/cut.py") 784), (.int (279) 0), (.int (2) 0), (.int (0) 0), (.int (0) 0), (.int (3) 0), (.ref 460), (.bool true), (.int (181) 0), (.ref 461), .none, (.ref 462), (.ref 463), (.ref 464), (.int (790) 0), (.int (279) 0), (.str (Str.ofString "/claim/cut.py") 791)].toArray), [].toArray⟩) ::
  (nat_lit 466, ⟨(.type "function"), none, (.func (fnS (at1 32) (Str.ofString "alike") .none .none .none (.str (Str.ofString "paperhold.gather") 662) (.ref 465) .none)), [].toArray⟩) ::
  (nat_lit 472, ⟨(.type "code"), none, (.fields [(.str (Str.ofString "_law_pen") 795), (.str (Str.ofString "_law_pen") 796), (.str (Str.ofString "/claim/cut.py") 797), (.int (288) 0), (.int (1) 0), (.int (0) 0), (.int (0) 0), (.int (3) 0), (.ref 467), (.bool true), (.int (181) 0), (.ref 468), .none, (.ref 469), (.ref 470), (.ref 471), (.int (801) 0), (.int (288) 0), (.str (Str.ofString "/claim/cut.py") 802)].toArray), [].toArray⟩) ::
  (nat_lit 473, ⟨(.type "function"), none, (.func (fnS (at1 34) (Str.ofString "_law_pen") .none .none .none (.str (Str.ofString "law_og0181_01") 793) (.ref 472) .none)), [].toArray⟩) ::
  (nat_lit 479, ⟨(.type "code"), none, (.fields [(.str (Str.ofString "_law_draw") 804), (.str (Str.ofString "_law_draw") 805), (.str (Str.ofString "/claim/cut.py") 806), (.int (293) 0), (.int (2) 0), (.int (0) 0), (.int (0) 0), (.int (3) 0), (.ref 474), (.bool true), (.int (181) 0), (.ref 475), .none, (.ref 476), (.ref 477), (.ref 478), (.int (810) 0), (.int (293) 0), (.str (Str.ofString "/claim/cut.py") 811)].toArray), [].toArray⟩) ::
  (nat_lit 480, ⟨(.type "function"), none, (.func (fnS (at1 35) (Str.ofString "_law_draw") .none .none .none (.str (Str.ofString "law_og0181_01") 793) (.ref 479) .none)), [].toArray⟩) ::
  (nat_lit 484, ⟨(.type "code"), none, (.fields [(.str (Str.ofString "_law_value") 813), (.str (Str.ofString "_law_value") 814), (.str (Str.ofString "/claim/cut.py") 815), (.int (300) 0), (.int (2) 0), (.int (0) 0), (.int (0) 0), (.int (3) 0), (.ref 481), (.bool true), (.int (181) 0), (.ref 482), .none, .none, .none, (.ref 483), (.int (816) 0), (.int (300) 0), (.str (Str.ofString "/claim/cut.py") 817)].toArray), [].toArray⟩) ::
  (nat_lit 485, ⟨(.type "function"), none, (.func (fnS (at1 36) (Str.ofString "_law_value") .none .none .none (.str (Str.ofString "law_og0181_01") 793) (.ref 484) .none)), [].toArray⟩) ::
  (nat_lit 491, ⟨(.type "code"), none, (.fields [(.str (Str.ofString "_law_shelf") 819), (.str (Str.ofString "_law_shelf") 820), (.str (Str.ofString "/claim/cut.py") 821), (.int (314) 0), (.int (1) 0), (.int (0) 0), (.int (0) 0), (.int (3) 0), (.ref 486), (.bool true), (.int (181) 0), (.ref 487), .none, (.ref 488), (.ref 489), (.ref 490), (.int (825) 0), (.int (314) 0), (.str (Str.ofString "/claim/cut.py") 826)].toArray), [].toArray⟩) ::
  (nat_lit 492, ⟨(.type "function"), none, (.func (fnS (at1 37) (Str.ofString "_law_shelf") .none .none .none (.str (Str.ofString "law_og0181_01") 793) (.ref 491) .none)), [].toArray⟩) ::
  (nat_lit 496, ⟨(.type "code"), none, (.fields [(.str (Str.ofString "_law_rounds") 828), (.str (Str.ofString "_law_rounds") 829), (.str (Str.ofString "/claim/cut.py") 830), (.int (321) 0), (.int (2) 0), (.int (0) 0), (.int (0) 0), (.int (3) 0), (.ref 493), (.bool true), (.int (181) 0), (.ref 494), .none, .none, .none, (.ref 495), (.int (831) 0), (.int (321) 0), (.str (Str.ofString "/claim/cut.py") 832)].toArray), [].toArray⟩) ::
  (nat_lit 497, ⟨(.type "function"), none, (.func (fnS (at1 38) (Str.ofString "_law_rounds") .none .none .none (.str (Str.ofString "law_og0181_01") 793) (.ref 496) .none)), [].toArray⟩) ::
  (nat_lit 501, ⟨(.type "code"), none, (.fields [(.str (Str.ofString "law") 834), (.str (Str.ofString "law") 835), (.str (Str.ofString "/claim/cut.py") 836), (.int (336) 0), (.int (1) 0), (.int (0) 0), (.int (0) 0), (.int (3) 0), (.ref 498), (.bool true), (.int (181) 0), (.ref 499), .none, .none, .none, (.ref 500), (.int (837) 0), (.int (336) 0), (.str (Str.ofString "/claim/cut.py") 838)].toArray), [].toArray⟩) ::
  (nat_lit 502, ⟨(.type "function"), none, (.func (fnS (at1 39) (Str.ofString "law") .none .none .none (.str (Str.ofString "law_og0181_01") 793) (.ref 501) .none)), [].toArray⟩) :: []
/-- what stood stays, but for the addresses in M -/
noncomputable def Kb (M : List Addr) (h h' : Heap) : Prop := ∀ b o, h.get? b = some o → b ∉ M → h'.get? b = some o
theorem Kb.trans {M : List Addr} {h h' h'' : Heap} (x : Kb M h h') (y : Kb M h' h'') : Kb M h h'' := fun b o e n => y b o (x b o e n) n
/-- the world, and what the top's facts speak of -/
structure Cx where
  w : World
  p : Program
  loose : List Str
  mg : Str → Option Value
  mb : Str → Option Value
/-- the facts of the top that every call leans on -/
structure GF (C : Cx) (h : Heap) : Prop where
  x : (KX C.w.params).In h
  t : TopRead C.p C.loose C.mg C.mb h

theorem mem_of_lookup {K : Frag} {a : Addr} {o : Obj} (e : K.lookup a = some o) : a ∈ K.map (·.1) := by
  induction K with
  | nil => cases e
  | cons q r ih =>
    obtain ⟨b, x⟩ := q
    simp only [List.lookup] at e
    split at e
    · rename_i q; exact List.mem_cons.mpr (.inl (beq_iff_eq.mp q))
    · exact List.mem_cons.mpr (.inr (ih e))
theorem KX_lt (P : Params) : ∀ a ∈ (KX P).map (·.1), a < 503 := by
  have e : ((KX P).map (·.1)).all (fun a => Nat.blt a 503) = true := by kernel_rfl
  intro a ha
  exact Nat.le_of_ble_eq_true (List.all_eq_true.mp e a ha)
theorem lt503 {P : Params} {a : Addr} {o : Obj} (e : (KX P).lookup a = some o) : a < 503 := KX_lt P a (mem_of_lookup e)

theorem Ns_kb {M : List Addr} {h h' : Heap} {a : Addr} {m : Str → Option Value} (n : h.Ns a m) (k : Kb M h h') (ha : a ∉ M) : h'.Ns a m := n.at' fun o e => k a o e ha
theorem GF.kb {C : Cx} {M : List Addr} {h h' : Heap} (G : GF C h) (k : Kb M h h') (hm : ∀ a ∈ M, 503 ≤ a) : GF C h' := by
  have off : ∀ a, a < 503 → a ∉ M := fun a ha q => absurd (hm a q) (Nat.not_le.mpr ha)
  refine ⟨fun a o e => k a o (G.x a o e) (off a (lt503 e)), ?_⟩
  obtain ⟨g, b, n, bu, fr⟩ := G.t
  obtain ⟨mc, n1, n2⟩ := n
  exact ⟨Ns_kb g k (off _ (by decide)), Ns_kb b k (off _ (by decide)), ⟨mc, Ns_kb n1 k (off _ (by decide)), n2⟩, bu, fr⟩
end
section
noncomputable abbrev PR : Program := PySem.Challenge.pw_og0181_01
/-- the same state with another heap and another count of tokens -/
noncomputable def st (s : Shared) (h : Heap) (tk : Nat) : Shared := { s with heap := h, toks := tk }
@[simp] theorem st_heap (s : Shared) (h : Heap) (tk : Nat) : (st s h tk).heap = h := rfl
@[simp] theorem st_toks (s : Shared) (h : Heap) (tk : Nat) : (st s h tk).toks = tk := rfl

/-- from heap h the tree t ends by no raise in a value and a heap of which Q holds; nothing but the heap and the tokens is turned -/
structure W {α : Type} (C : Cx) (A : Around) (t : Sem α) (h : Heap) (Q : α → Heap → Prop) : Prop where
  all : ∀ (s : Shared) (tk : Nat), wpAny (model PR C.w) A t (fun a s' => ∃ h' tk', s' = st s h' tk' ∧ Q a h') (fun _ _ => False) (st s h tk)

section
variable {α β : Type} {C : Cx} {A : Around} {h : Heap}
theorem W.run {t : Sem α} {P : α → Heap → Prop} {Q : α → Shared → Prop} {E : Value → Shared → Prop} {s : Shared} {tk : Nat} (x : W C A t h P) (k : ∀ a h' tk', P a h' → Q a (st s h' tk')) : wpAny (model PR C.w) A t Q E (st s h tk) :=
  wpAny_mono (x.1 s tk) (fun a s' ⟨h', tk', e, y⟩ => e ▸ k a h' tk' y) fun _ _ f => f.elim
theorem W.mono {t : Sem α} {P Q : α → Heap → Prop} (x : W C A t h P) (k : ∀ a h', P a h' → Q a h') : W C A t h Q := W.mk fun s tk => x.run fun a h' tk' y => ⟨h', tk', rfl, k a h' y⟩
theorem W.pure {a : α} {Q : α → Heap → Prop} (x : Q a h) : W C A (Pure.pure a) h Q := W.mk fun s tk => wpAny_pure ⟨h, tk, rfl, x⟩
end

/-- room: frames and C units below the limits, nothing being handled -/
structure Rm (A : Around) (k : Nat) : Prop where
  hd : A.handled = none
  dp : A.depth + k < recursionLimit
  un : A.units + 8 * k + 200 < cLine
theorem Rm.le {A : Around} {k j : Nat} (R : Rm A k) (hj : j ≤ k) : Rm A j := ⟨R.hd, by have := R.dp; exact om0 hj this, by have := R.un; exact om1 hj this⟩
theorem Rm.deeper {A : Around} {k : Nat} (R : Rm A (k + 1)) (env : Env) : Rm (A.deeper env) k := ⟨R.hd, by show A.depth + 1 + k < _; have := R.dp; exact om2 this, by show A.units + 3 + 8 * k + 200 < _; have := R.un; exact om3 this⟩

/-- a def's locals, as a list -/
noncomputable abbrev Loc := List (Str × Value)
noncomputable def look (m : Loc) : Str → Option Value := fun y => m.lookup y
noncomputable def upd : Loc → Str → Value → Loc
  | [], x, v => [(x, v)]
  | (y, u) :: r, x, v => if y = x then (x, v) :: r else (y, u) :: upd r x v
theorem look_upd (m : Loc) (x : Str) (v : Value) : (fun y => if y = x then some v else look m y) = look (upd m x v) := by
  funext y
  induction m with
  | nil =>
    by_cases e : y = x
    · simp [look, upd, e]
    · simp [look, upd, List.lookup, e, beq_eq_false_iff_ne.mpr e]
  | cons q r ih =>
    obtain ⟨z, u⟩ := q
    simp only [look, upd] at ih ⊢
    by_cases h1 : z = x
    · subst h1
      by_cases e : y = z
      · simp [e]
      · simp [e, List.lookup, beq_eq_false_iff_ne.mpr e]
    · rw [if_neg h1]
      by_cases e : y = z
      · subst e; simp [List.lookup, h1]
      · simp only [List.lookup, beq_eq_false_iff_ne.mpr e]; exact ih

theorem upd_o (o : Option Value) (x : Str) (v : Value) : upd (o.map fun u => (x, u)).toList x v = [(x, v)] := by cases o <;> simp [upd]
/-- what is frozen: a part of a heap -/
noncomputable abbrev Fz := Addr → Option Obj
noncomputable def Le (F F' : Fz) : Prop := ∀ a o, F a = some o → F' a = some o
theorem Le.refl {F : Fz} : Le F F := fun _ _ e => e
theorem Le.trans {F F' F'' : Fz} (x : Le F F') (y : Le F' F'') : Le F F'' := fun a o e => y a o (x a o e)
/-- the heap without the addresses Mu -/
noncomputable def fz (Mu : List Addr) (h : Heap) : Fz := fun a => if a ∈ Mu then none else h.get? a
theorem fz_some {Mu : List Addr} {h : Heap} {a : Addr} {o : Obj} (e : fz Mu h a = some o) : a ∉ Mu ∧ h.get? a = some o := by
  unfold fz at e; split at e
  · cases e
  · exact ⟨‹_›, e⟩
theorem fz_of {Mu : List Addr} {h : Heap} {a : Addr} {o : Obj} (n : a ∉ Mu) (e : h.get? a = some o) : fz Mu h a = some o := by
  unfold fz; rw [if_neg n]; exact e
theorem fz_le (Mu : List Addr) (h : Heap) : Le (fz Mu h) h.get? := fun a o e => (fz_some e).2
theorem fz_kb {Mu Mu' M : List Addr} {h h' : Heap} (k : Kb M h h') (s : ∀ a ∈ M, a ∈ Mu) (s' : ∀ a ∈ Mu', a ∈ Mu ∨ h.objs.size ≤ a) : Le (fz Mu h) (fz Mu' h') := fun a o e => by
  obtain ⟨n, e⟩ := fz_some e
  exact fz_of (fun q => (s' a q).elim n fun q => absurd (Heap.lt_size e) (Nat.not_lt.mpr q)) (k a o e fun q => n (s a q))
/-- F and what is new in h' behind h -/
noncomputable def ext (F : Fz) (h h' : Heap) : Fz := fun a => if a < h.objs.size then F a else h'.get? a
theorem Le.ext {F : Fz} {h h' : Heap} (l : Le F h.get?) : Le F (ext F h h') := fun a o e => by
  unfold Mine.ext; rw [if_pos (Heap.lt_size (l a o e))]; exact e
theorem ext_fz {Mu Mu' M : List Addr} {h h' : Heap} (k : Kb M h h') (lt : ∀ a ∈ Mu, a < h.objs.size) (s : ∀ a ∈ M, a ∈ Mu) (s' : ∀ a ∈ Mu', a ∈ Mu) : Le (Mine.ext (fz Mu h) h h') (fz Mu' h') := fun a o e => by
  unfold Mine.ext at e; split at e
  · exact fz_kb k s (fun a q => .inl (s' a q)) a o e
  · exact fz_of (fun q => ‹¬ _› (lt a (s' a q))) e
theorem ext_new {F : Fz} {h h' : Heap} {a : Addr} {o : Obj} (n : h.objs.size ≤ a) (e : h'.get? a = some o) : Mine.ext F h h' a = some o := by
  unfold Mine.ext; rw [if_neg (Nat.not_lt.mpr n)]; exact e

/-- a ledger: own objects that may be turned, and what is known of them -/
noncomputable abbrev Led := List (Addr × (Obj → Prop))
noncomputable abbrev ads (σ : Led) : List Addr := σ.map (·.1)

/-- what a def's body knows: the top's facts, its locals, that what stood stays (but for M), a ledger of objects of its own with addresses apart, and what holds of all that is frozen -/
structure St (C : Cx) (h₀ : Heap) (M : List Addr) (L : Addr) (m : Loc) (σ : Led) (Φ : Fz → Prop) (h : Heap) : Prop where
  g0 : GF C h₀
  ns : h.Ns L (look m)
  kb : Kb M h₀ h
  own : ∀ q ∈ σ, ∃ o, h.get? q.1 = some o ∧ q.2 o
  nd : (L :: ads σ).Nodup
  hi : ∀ q ∈ σ, q.1 ∈ M ∨ h₀.objs.size ≤ q.1
  l0 : h₀.objs.size ≤ L
  s5 : 503 ≤ h₀.objs.size
  mm : ∀ a ∈ M, 503 ≤ a
  φ : ∀ F, Le (fz (L :: ads σ) h) F → Φ F

section
variable {C : Cx} {h₀ h h' : Heap} {M : List Addr} {L : Addr} {m m' : Loc} {σ σ' : Led} {Φ Ψ : Fz → Prop}

theorem GF.size (G : GF C h) : 503 ≤ h.objs.size := by
  have e : ((KX C.w.params).lookup 502).isSome = true := by kernel_rfl
  obtain ⟨o, ho⟩ := Option.isSome_iff_exists.mp e
  exact Heap.lt_size (G.x _ _ ho)
theorem St.g (S : St C h₀ M L m σ Φ h) : GF C h := S.g0.kb S.kb S.mm
theorem St.size (S : St C h₀ M L m σ Φ h) : h₀.objs.size ≤ h.objs.size := Nat.le_of_lt (Nat.lt_of_le_of_lt S.l0 S.ns.lt)
theorem St.L5 (S : St C h₀ M L m σ Φ h) : 503 ≤ L := Nat.le_trans S.s5 S.l0
theorem St.q5 (S : St C h₀ M L m σ Φ h) : ∀ q ∈ σ, 503 ≤ q.1 := fun q hq => (S.hi q hq).elim (S.mm _) fun e => Nat.le_trans S.s5 e
theorem St.Lσ (S : St C h₀ M L m σ Φ h) : ∀ q ∈ σ, q.1 ≠ L := fun q hq e => (List.nodup_cons.mp S.nd).1 (e ▸ List.mem_map_of_mem hq)
theorem St.ndσ (S : St C h₀ M L m σ Φ h) : (ads σ).Nodup := (List.nodup_cons.mp S.nd).2
theorem St.lt (S : St C h₀ M L m σ Φ h) : ∀ a ∈ L :: ads σ, a < h.objs.size := fun a ha => by
  rcases List.mem_cons.mp ha with rfl | ha
  · exact S.ns.lt
  · obtain ⟨q, hq, rfl⟩ := List.mem_map.mp ha
    obtain ⟨o, ho, -⟩ := S.own q hq
    exact Heap.lt_size ho
/-- what is frozen here -/
theorem St.here (S : St C h₀ M L m σ Φ h) : Φ (fz (L :: ads σ) h) := S.φ _ Le.refl
theorem St.now (S : St C h₀ M L m σ Φ h) : Φ h.get? := S.φ _ (fz_le _ _)
theorem St.lo (S : St C h₀ M L m σ Φ h) (e : m = m') : St C h₀ M L m' σ Φ h := e ▸ S
theorem St.imp (S : St C h₀ M L m σ Φ h) (k : ∀ F, Le (fz (L :: ads σ) h) F → Φ F → Ψ F) : St C h₀ M L m σ Ψ h := { S with φ := fun F l => k F l (S.φ F l) }
theorem St.add (S : St C h₀ M L m σ Φ h) (k : ∀ F, Le (fz (L :: ads σ) h) F → Ψ F) : St C h₀ M L m σ (fun F => Ψ F ∧ Φ F) h := S.imp fun F l x => ⟨k F l, x⟩

/-- a step that turns nothing that stood -/
theorem St.keep (S : St C h₀ M L m σ Φ h) (k : Kb [] h h') : St C h₀ M L m σ Φ h' :=
  ⟨S.g0, Ns_kb S.ns k (by simp), fun b o e n => k b o (S.kb b o e n) (by simp), fun q hq => let ⟨o, ho, z⟩ := S.own q hq; ⟨o, k _ _ ho (by simp), z⟩, S.nd, S.hi, S.l0, S.s5, S.mm,
    fun F l => S.φ F ((fz_kb k (by simp) fun a q => .inl q).trans l)⟩
/-- .. and makes a fact of what is new and what is frozen -/
theorem St.keepx (S : St C h₀ M L m σ Φ h) (k : Kb [] h h') (f : ∀ F, Le (ext (fz (L :: ads σ) h) h h') F → Ψ F) : St C h₀ M L m σ (fun F => Ψ F ∧ Φ F) h' :=
  (S.keep k).add fun F l => f F ((ext_fz k S.lt (by simp) fun a q => q).trans l)
/-- a new object of the ledger -/
theorem St.new {a : Addr} {P : Obj → Prop} {o : Obj} (S : St C h₀ M L m σ Φ h) (k : Kb [] h h') (ha : h.objs.size ≤ a) (e : h'.get? a = some o) (hp : P o) : St C h₀ M L m ((a, P) :: σ) Φ h' := by
  have S' := S.keep k
  have na : a ∉ L :: ads σ := fun q => absurd (S.lt a q) (Nat.not_lt.mpr ha)
  refine ⟨S'.g0, S'.ns, S'.kb, fun q hq => (List.mem_cons.mp hq).elim (fun z => z ▸ ⟨o, e, hp⟩) (S'.own q), ?_, fun q hq => (List.mem_cons.mp hq).elim (fun z => z ▸ .inr (Nat.le_trans S.size ha)) (S.hi q), S.l0, S.s5, S.mm,
    fun F l => S.φ F ((fz_kb k (by simp) fun b q => ?_).trans l)⟩
  · refine List.nodup_cons.mpr ⟨fun q => ?_, List.nodup_cons.mpr ⟨fun q => na (.tail _ q), S.ndσ⟩⟩
    rcases List.mem_cons.mp q with q | q
    · exact na (by rw [show a = L from q.symm]; exact .head _)
    · exact (List.nodup_cons.mp S.nd).1 q
  · rcases List.mem_cons.mp q with q | q
    · exact .inl (q ▸ .head _)
    · rcases List.mem_cons.mp q with q | q
      · exact .inr (q ▸ ha)
      · exact .inl (.tail _ q)
theorem kb_push {M : List Addr} (h : Heap) (o : Obj) : Kb M h (h.push o) := fun _ _ e _ => Heap.get?_push_of_some _ e
theorem St.push {P : Obj → Prop} (S : St C h₀ M L m σ Φ h) (o : Obj) (hp : P o) (hf : o.isFreed = false := by rfl) : St C h₀ M L m ((h.objs.size, P) :: σ) Φ (h.push o) := S.new (kb_push h o) (Nat.le_refl _) (Heap.get?_push_size _ hf) hp
/-- a new object that is frozen at once -/
theorem St.pushF (S : St C h₀ M L m σ Φ h) (o : Obj) (f : ∀ F : Fz, F h.objs.size = some o → Ψ F) (hf : o.isFreed = false := by rfl) : St C h₀ M L m σ (fun F => Ψ F ∧ Φ F) (h.push o) :=
  S.keepx (kb_push h o) fun F l => f F (l _ _ (ext_new (Nat.le_refl _) (Heap.get?_push_size _ hf)))
/-- the locals are turned -/
theorem St.loc (S : St C h₀ M L m σ Φ h) (n : h'.Ns L (look m')) (k : Kb [L] h h') : St C h₀ M L m' σ Φ h' := by
  refine ⟨S.g0, n, fun b o e nb => k b o (S.kb b o e nb) ?_, fun q hq => let ⟨o, ho, z⟩ := S.own q hq; ⟨o, k _ _ ho (by simpa using S.Lσ q hq), z⟩, S.nd, S.hi, S.l0, S.s5, S.mm,
    fun F l => S.φ F ((fz_kb k (by simp) fun a q => .inl q).trans l)⟩
  simp only [List.mem_singleton]
  rintro rfl
  exact absurd (Heap.lt_size e) (Nat.not_lt.mpr S.l0)
/-- the ledger's objects are turned; all else stays -/
theorem St.turn {D : List Addr} (S : St C h₀ M L m σ Φ h) (k : Kb D h h') (hd : ∀ a ∈ D, a ∈ ads σ) (hads : ads σ' = ads σ) (own : ∀ q ∈ σ', ∃ o, h'.get? q.1 = some o ∧ q.2 o) : St C h₀ M L m σ' Φ h' := by
  have hLD : L ∉ D := fun q => (List.nodup_cons.mp S.nd).1 (hd L q)
  refine ⟨S.g0, Ns_kb S.ns k hLD, fun b o e nb => k b o (S.kb b o e nb) fun q => ?_, own, by rw [hads]; exact S.nd, fun q hq => ?_, S.l0, S.s5, S.mm, fun F l => S.φ F ((fz_kb k (fun a q => .tail _ (hd a q)) fun a q => .inl (by rw [← hads]; exact q)).trans l)⟩
  · obtain ⟨p, hp, rfl⟩ := List.mem_map.mp (hd b q)
    rcases S.hi p hp with z | z
    · exact nb z
    · exact absurd (Heap.lt_size e) (Nat.not_lt.mpr z)
  · have : q.1 ∈ ads σ := by rw [← hads]; exact List.mem_map_of_mem hq
    obtain ⟨p, hp, e⟩ := List.mem_map.mp this
    rw [← e]; exact S.hi p hp
theorem St.turnL {D : List Addr} (S : St C h₀ M L m σ Φ h) (n : h'.Ns L (look m')) (k : Kb (L :: D) h h') (hd : ∀ a ∈ D, a ∈ ads σ) (hads : ads σ' = ads σ) (own : ∀ q ∈ σ', ∃ o, h'.get? q.1 = some o ∧ q.2 o) : St C h₀ M L m' σ' Φ h' := by
  refine ⟨S.g0, n, fun b o e nb => k b o (S.kb b o e nb) fun q => ?_, own, by rw [hads]; exact S.nd, fun q hq => ?_, S.l0, S.s5, S.mm, fun F l => S.φ F ((fz_kb k (fun a q => (List.mem_cons.mp q).elim (fun q => q ▸ .head _) fun q => .tail _ (hd a q)) fun a q => .inl (by rw [← hads]; exact q)).trans l)⟩
  · rcases List.mem_cons.mp q with rfl | q
    · exact absurd (Heap.lt_size e) (Nat.not_lt.mpr S.l0)
    · obtain ⟨p, hp, rfl⟩ := List.mem_map.mp (hd b q)
      rcases S.hi p hp with z | z
      · exact nb z
      · exact absurd (Heap.lt_size e) (Nat.not_lt.mpr z)
  · have : q.1 ∈ ads σ := by rw [← hads]; exact List.mem_map_of_mem hq
    obtain ⟨p, hp, e⟩ := List.mem_map.mp this
    rw [← e]; exact S.hi p hp
theorem St.put {a : Addr} {P P' : Obj → Prop} {o : Obj} {pre post : Led} (S : St C h₀ M L m (pre ++ (a, P) :: post) Φ h) (k : Kb [a] h h') (e : h'.get? a = some o) (hp : P' o) : St C h₀ M L m (pre ++ (a, P') :: post) Φ h' := by
  have nd := S.ndσ
  have ha : a ∉ ads pre ∧ a ∉ ads post := by
    simp only [ads, List.map_append, List.map_cons] at nd
    have h1 := List.nodup_append.mp nd
    exact ⟨fun q => h1.2.2 a q a (.head _) rfl, (List.nodup_cons.mp h1.2.1).1⟩
  refine S.turn k (by simp) (by simp) fun q hq => ?_
  have other : ∀ q : Addr × (Obj → Prop), q ∈ pre ++ (a, P) :: post → q.1 ≠ a → ∃ o, h'.get? q.1 = some o ∧ q.2 o := fun q hq hn => by
    obtain ⟨o, ho, z⟩ := S.own q hq
    exact ⟨o, k _ _ ho (by simpa using hn), z⟩
  rcases List.mem_append.mp hq with q1 | q1
  · exact other q (List.mem_append.mpr (.inl q1)) fun z => ha.1 (by rw [← z]; exact List.mem_map_of_mem q1)
  · rcases List.mem_cons.mp q1 with rfl | q1
    · exact ⟨o, e, hp⟩
    · exact other q (List.mem_append.mpr (.inr (.tail _ q1))) fun z => ha.2 (by rw [← z]; exact List.mem_map_of_mem q1)
theorem St.put0 {a : Addr} {P P' : Obj → Prop} {post : Led} (S : St C h₀ M L m ((a, P) :: post) Φ h) (k : Kb [a] h h') (e : ∃ o, h'.get? a = some o ∧ P' o) : St C h₀ M L m ((a, P') :: post) Φ h' := let ⟨_, e, p⟩ := e; S.put (pre := []) k e p
theorem St.at0 {a : Addr} {P : Obj → Prop} {post : Led} (S : St C h₀ M L m ((a, P) :: post) Φ h) : ∃ o, h.get? a = some o ∧ P o := S.own _ (.head _)
theorem St.put1 {a : Addr} {x0 : Addr × (Obj → Prop)} {P P' : Obj → Prop} {post : Led} (S : St C h₀ M L m (x0 :: (a, P) :: post) Φ h) (k : Kb [a] h h') (e : ∃ o, h'.get? a = some o ∧ P' o) : St C h₀ M L m (x0 :: (a, P') :: post) Φ h' := let ⟨_, e, p⟩ := e; S.put (pre := [x0]) k e p
theorem St.at1 {a : Addr} {x0 : Addr × (Obj → Prop)} {P : Obj → Prop} {post : Led} (S : St C h₀ M L m (x0 :: (a, P) :: post) Φ h) : ∃ o, h.get? a = some o ∧ P o := S.own _ (.tail _ (.head _))
theorem St.put2 {a : Addr} {x0 x1 : Addr × (Obj → Prop)} {P P' : Obj → Prop} {post : Led} (S : St C h₀ M L m (x0 :: x1 :: (a, P) :: post) Φ h) (k : Kb [a] h h') (e : ∃ o, h'.get? a = some o ∧ P' o) : St C h₀ M L m (x0 :: x1 :: (a, P') :: post) Φ h' := let ⟨_, e, p⟩ := e; S.put (pre := [x0, x1]) k e p
theorem St.at2 {a : Addr} {x0 x1 : Addr × (Obj → Prop)} {P : Obj → Prop} {post : Led} (S : St C h₀ M L m (x0 :: x1 :: (a, P) :: post) Φ h) : ∃ o, h.get? a = some o ∧ P o := S.own _ (.tail _ (.tail _ (.head _)))
theorem St.put3 {a : Addr} {x0 x1 x2 : Addr × (Obj → Prop)} {P P' : Obj → Prop} {post : Led} (S : St C h₀ M L m (x0 :: x1 :: x2 :: (a, P) :: post) Φ h) (k : Kb [a] h h') (e : ∃ o, h'.get? a = some o ∧ P' o) : St C h₀ M L m (x0 :: x1 :: x2 :: (a, P') :: post) Φ h' := let ⟨_, e, p⟩ := e; S.put (pre := [x0, x1, x2]) k e p
theorem St.at3 {a : Addr} {x0 x1 x2 : Addr × (Obj → Prop)} {P : Obj → Prop} {post : Led} (S : St C h₀ M L m (x0 :: x1 :: x2 :: (a, P) :: post) Φ h) : ∃ o, h.get? a = some o ∧ P o := S.own _ (.tail _ (.tail _ (.tail _ (.head _))))
theorem St.put4 {a : Addr} {x0 x1 x2 x3 : Addr × (Obj → Prop)} {P P' : Obj → Prop} {post : Led} (S : St C h₀ M L m (x0 :: x1 :: x2 :: x3 :: (a, P) :: post) Φ h) (k : Kb [a] h h') (e : ∃ o, h'.get? a = some o ∧ P' o) : St C h₀ M L m (x0 :: x1 :: x2 :: x3 :: (a, P') :: post) Φ h' := let ⟨_, e, p⟩ := e; S.put (pre := [x0, x1, x2, x3]) k e p
theorem St.at4 {a : Addr} {x0 x1 x2 x3 : Addr × (Obj → Prop)} {P : Obj → Prop} {post : Led} (S : St C h₀ M L m (x0 :: x1 :: x2 :: x3 :: (a, P) :: post) Φ h) : ∃ o, h.get? a = some o ∧ P o := S.own _ (.tail _ (.tail _ (.tail _ (.tail _ (.head _)))))
theorem St.put5 {a : Addr} {x0 x1 x2 x3 x4 : Addr × (Obj → Prop)} {P P' : Obj → Prop} {post : Led} (S : St C h₀ M L m (x0 :: x1 :: x2 :: x3 :: x4 :: (a, P) :: post) Φ h) (k : Kb [a] h h') (e : ∃ o, h'.get? a = some o ∧ P' o) : St C h₀ M L m (x0 :: x1 :: x2 :: x3 :: x4 :: (a, P') :: post) Φ h' := let ⟨_, e, p⟩ := e; S.put (pre := [x0, x1, x2, x3, x4]) k e p
theorem St.at5 {a : Addr} {x0 x1 x2 x3 x4 : Addr × (Obj → Prop)} {P : Obj → Prop} {post : Led} (S : St C h₀ M L m (x0 :: x1 :: x2 :: x3 :: x4 :: (a, P) :: post) Φ h) : ∃ o, h.get? a = some o ∧ P o := S.own _ (.tail _ (.tail _ (.tail _ (.tail _ (.tail _ (.head _))))))
theorem St.drop1 {a : Addr} {x0 : Addr × (Obj → Prop)} {P : Obj → Prop} (S : St C h₀ M L m (x0 :: (a, P) :: σ) Φ h) (k : Kb [a] h h') : St C h₀ M L m (x0 :: σ) Φ h' := by
  have nd := S.nd
  have hne : x0.1 ≠ a := fun e => (List.nodup_cons.mp (List.nodup_cons.mp nd).2).1 (by rw [show (fun x : Addr × (Obj → Prop) => x.1) x0 = a from e]; exact .head _)
  have hnσ : a ∉ ads σ := (List.nodup_cons.mp (List.nodup_cons.mp (List.nodup_cons.mp nd).2).2).1
  have hL : L ≠ a := fun e => (List.nodup_cons.mp nd).1 (by rw [e]; exact .tail _ (.head _))
  have sub : ∀ q ∈ (x0 :: σ : Led), q ∈ (x0 :: (a, P) :: σ : Led) := fun q hq => (List.mem_cons.mp hq).elim (fun e => e ▸ .head _) fun hq => .tail _ (.tail _ hq)
  refine ⟨S.g0, Ns_kb S.ns k (by simpa using hL), fun b o e nb => k b o (S.kb b o e nb) ?_, fun q hq => ?_, ?_, fun q hq => S.hi q (sub q hq), S.l0, S.s5, S.mm, fun F l => S.φ F (Le.trans (fz_kb k (fun b q => ?_) fun b q => .inl ?_) l)⟩
  · simp only [List.mem_singleton]
    rintro rfl
    rcases S.hi (b, P) (.tail _ (.head _)) with z | z
    · exact nb z
    · exact absurd (Heap.lt_size e) (Nat.not_lt.mpr z)
  · obtain ⟨o, ho, z⟩ := S.own q (sub q hq)
    refine ⟨o, k _ _ ho ?_, z⟩
    simp only [List.mem_singleton]
    rcases List.mem_cons.mp hq with rfl | hq
    · exact hne
    · exact fun e => hnσ (e ▸ List.mem_map_of_mem (f := (·.1)) hq)
  · have h1 := List.nodup_cons.mp nd
    have h2 := List.nodup_cons.mp h1.2
    have h3 := List.nodup_cons.mp h2.2
    refine List.nodup_cons.mpr ⟨fun q => h1.1 ?_, List.nodup_cons.mpr ⟨fun q => h2.1 (.tail _ q), h3.2⟩⟩
    rcases List.mem_cons.mp q with q | q
    · exact q ▸ .head _
    · exact .tail _ (.tail _ q)
  · rw [List.mem_singleton.mp q]; exact .tail _ (.tail _ (.head _))
  · simp only [ads, List.map_cons, List.mem_cons] at q ⊢
    rcases q with q | q | q <;> simp [q]
theorem St.drop0 {a : Addr} {P : Obj → Prop} (S : St C h₀ M L m ((a, P) :: σ) Φ h) (k : Kb [a] h h') : St C h₀ M L m σ Φ h' := by
  have nd := S.nd
  have hL : L ≠ a := fun e => (List.nodup_cons.mp nd).1 (by rw [e]; exact .head _)
  have h1 := List.nodup_cons.mp nd
  have h2 := List.nodup_cons.mp h1.2
  refine ⟨S.g0, Ns_kb S.ns k (by simpa using hL), fun b o e nb => k b o (S.kb b o e nb) ?_, fun q hq => ?_, List.nodup_cons.mpr ⟨fun q => h1.1 (.tail _ q), h2.2⟩, fun q hq => S.hi q (.tail _ hq), S.l0, S.s5, S.mm, fun F l => S.φ F (Le.trans (fz_kb k (fun b q => ?_) fun b q => .inl ?_) l)⟩
  · simp only [List.mem_singleton]
    rintro rfl
    rcases S.hi (b, P) (.head _) with z | z
    · exact nb z
    · exact absurd (Heap.lt_size e) (Nat.not_lt.mpr z)
  · obtain ⟨o, ho, z⟩ := S.own q (.tail _ hq)
    refine ⟨o, k _ _ ho ?_, z⟩
    simp only [List.mem_singleton]
    exact fun e => h2.1 (e ▸ List.mem_map_of_mem (f := (·.1)) hq)
  · rw [List.mem_singleton.mp q]; exact .tail _ (.head _)
  · rcases List.mem_cons.mp q with rfl | q
    · exact .head _
    · exact .tail _ (.tail _ q)
/-- another order of the ledger -/
theorem St.perm (S : St C h₀ M L m σ Φ h) (p : σ'.Perm σ) : St C h₀ M L m σ' Φ h :=
  ⟨S.g0, S.ns, S.kb, fun q hq => S.own q (p.mem_iff.mp hq), ((p.map (·.1)).cons L).nodup_iff.mpr S.nd, fun q hq => S.hi q (p.mem_iff.mp hq), S.l0, S.s5, S.mm,
    fun F l => S.φ F (Le.trans (fun a o e => by obtain ⟨n, e⟩ := fz_some e; exact fz_of (fun q => n (((p.map (·.1)).cons L).mem_iff.mp q)) e) l)⟩
/-- the ledger's first object is frozen -/
theorem St.freeze {a : Addr} {P : Obj → Prop} (S : St C h₀ M L m ((a, P) :: σ) Φ h) (f : ∀ (F : Fz) o, P o → Le (fz (L :: a :: ads σ) h) F → F a = some o → Φ F → Ψ F) : St C h₀ M L m σ Ψ h := by
  obtain ⟨o, ho, hp⟩ := S.own _ (.head _)
  have nd := S.nd
  have na : a ∉ L :: ads σ := fun q => by
    rcases List.mem_cons.mp q with rfl | q
    · exact (List.nodup_cons.mp nd).1 (.head _)
    · exact (List.nodup_cons.mp (List.nodup_cons.mp nd).2).1 q
  have l1 : Le (fz (L :: a :: ads σ) h) (fz (L :: ads σ) h) := fun b x e => by
    obtain ⟨n, e⟩ := fz_some e
    exact fz_of (fun q => n ((List.mem_cons.mp q).elim (fun q => q ▸ .head _) fun q => .tail _ (.tail _ q))) e
  exact ⟨S.g0, S.ns, S.kb, fun q hq => S.own q (.tail _ hq), List.nodup_cons.mpr ⟨fun q => (List.nodup_cons.mp nd).1 (.tail _ q), (List.nodup_cons.mp (List.nodup_cons.mp nd).2).2⟩, fun q hq => S.hi q (.tail _ hq), S.l0, S.s5, S.mm,
    fun F l => f F o hp (l1.trans l) (l _ _ (fz_of na ho)) (S.φ F (l1.trans l))⟩
end
end
section
noncomputable def Ret (R : Value → Heap → Prop) : Flow → Heap → Prop
  | .ret v, h => R v h
  | _, h => R .none h
noncomputable def Seq (K : Heap → Prop) (Q : Flow → Heap → Prop) : Flow → Heap → Prop
  | .next, h => K h
  | f, h => Q f h
/-- a loop's turn: on to the next, or out by a return -/
noncomputable def Turn (K : Heap → Prop) (Q : Flow → Heap → Prop) : Flow → Heap → Prop
  | .next, h => K h
  | .cont, h => K h
  | .brk, _ => False
  | .ret v, h => Q (.ret v) h
section
variable {α : Type} {C : Cx} {A : Around} {env : Env} {h : Heap} {Q : Flow → Heap → Prop} {P : Value → Heap → Prop} {rest : List Stmt}

theorem X_nil (x : Q .next h) : W C A (execs [] env) h Q := W.mk fun s tk => wpAny_execs_nil ⟨h, tk, rfl, x⟩
theorem X_nilS {K : Heap → Prop} (x : K h) : W C A (execs [] env) h (Seq K Q) := X_nil x
theorem X_nilT {K : Heap → Prop} (x : K h) : W C A (execs [] env) h (Turn K Q) := X_nil x
theorem X_nilR (x : P .none h) : W C A (execs [] env) h (Ret P) := X_nil x
theorem X_cons {s : Stmt} (x : W C A (exec s env) h (Seq (fun h' => W C A (execs rest env) h' Q) Q)) : W C A (execs (s :: rest) env) h Q := W.mk fun s tk =>
  wpAny_execs_cons (x.run fun f h' tk' y => by cases f <;> first | exact y.1 s tk' | exact ⟨h', tk', rfl, y⟩)
theorem X_expr {e : Expr} {pos : Pos} (x : W C A (eval e env) h (fun _ h' => W C A (execs rest env) h' Q))
    (hi : interactive env = false := by with_unfolding_all rfl) (hs : swapsWith e none pos.line env = pure false := by with_unfolding_all rfl) : W C A (execs (.Expr e pos :: rest) env) h Q :=
  X_cons <| W.mk fun s tk => wpAny_Expr_any (x.run fun _ h' tk' y => ⟨h', tk', rfl, y⟩) hi hs
theorem X_ret {e : Expr} {pos : Pos} (x : W C A (eval e env) h (fun v h' => Q (.ret v) h')) : W C A (execs (.Return (some e) pos :: rest) env) h Q :=
  X_cons <| W.mk fun s tk => wpAny_Return_some (x.run fun v h' tk' y => ⟨h', tk', rfl, y⟩)
theorem X_assign {e : Expr} {x : Str} {px pos : Pos} (y : W C A (eval e env) h (fun v h' => W C A (storeName env x v) h' (fun _ h'' => W C A (execs rest env) h'' Q)))
    (hs : swapsWith e (some (.Name x px)) pos.line env = pure false := by with_unfolding_all rfl) : W C A (execs (.Assign [.Name x px] e pos :: rest) env) h Q :=
  X_cons <| W.mk fun s tk => wpAny_Assign_Name (y.run fun v h' tk' z => z.run fun _ h'' tk'' u => ⟨h'', tk'', rfl, u⟩) hs
theorem X_setitem {e o i : Expr} {p' pos : Pos} (y : W C A (eval e env) h (fun v h1 => W C A (eval o env) h1 (fun ov h2 => W C A (eval i env) h2 (fun iv h3 => W C A (setItem ov iv v) h3 (fun _ h4 => W C A (execs rest env) h4 Q)))))
    (hs : swapsWith e (some (.Subscript o i p')) pos.line env = pure false := by with_unfolding_all rfl) : W C A (execs (.Assign [.Subscript o i p'] e pos :: rest) env) h Q :=
  X_cons <| W.mk fun s tk => wpAny_Assign_Subscript (y.run fun v h1 t1 y1 => y1.run fun ov h2 t2 y2 => y2.run fun iv h3 t3 y3 => y3.run fun _ h4 t4 y4 => ⟨h4, t4, rfl, y4⟩) hs
theorem X_setattr {e o : Expr} {a : Str} {p' pos : Pos} (y : W C A (eval e env) h (fun v h1 => W C A (eval o env) h1 (fun ov h2 => W C A (setAttr ov a v) h2 (fun _ h4 => W C A (execs rest env) h4 Q))))
    (hs : swapsWith e (some (.Attribute o a p')) pos.line env = pure false := by with_unfolding_all rfl) : W C A (execs (.Assign [.Attribute o a p'] e pos :: rest) env) h Q :=
  X_cons <| W.mk fun s tk => plainObj_wpAny_Assign_Attribute (y.run fun v h1 t1 y1 => y1.run fun ov h2 t2 y2 => y2.run fun _ h4 t4 y4 => ⟨h4, t4, rfl, y4⟩) hs
theorem X_unpack {e : Expr} {elts : List Expr} {k : Nat} {tp pos : Pos} (y : W C A (eval e env) h (fun v h1 => W C A (assign (.Tuple elts k tp) env v) h1 (fun _ h4 => W C A (execs rest env) h4 Q)))
    (hs : swapsWithSole [.Tuple elts k tp] e pos.line env = pure false := by with_unfolding_all rfl) (hw : swappedStores [.Tuple elts k tp] e env = pure none := by with_unfolding_all rfl) : W C A (execs (.Assign [.Tuple elts k tp] e pos :: rest) env) h Q :=
  X_cons <| W.mk fun s tk => Assign_Tuple (y.run fun v h1 t1 y1 => y1.run fun _ h4 t4 y4 => ⟨h4, t4, rfl, y4⟩) hs hw
theorem X_if {test : Expr} {body orelse : List Stmt} {pos : Pos} (x : W C A (isTrue test env (eval test env)) h (fun b h' =>
      (b = true → W C A (execs body env) h' (Seq (fun h'' => W C A (execs rest env) h'' Q) Q)) ∧ (b = false → W C A (execs orelse env) h' (Seq (fun h'' => W C A (execs rest env) h'' Q) Q)))) :
    W C A (execs (.If test body orelse pos :: rest) env) h Q :=
  X_cons <| W.mk fun s tk => wpAny_If (x.run fun b h' tk' y => by
    cases b with
    | true => exact (y.1 rfl).run fun f h2 t2 z => ⟨h2, t2, rfl, z⟩
    | false => exact (y.2 rfl).run fun f h2 t2 z => ⟨h2, t2, rfl, z⟩)

-- tests
theorem T_plain {e : Expr} {whole : Sem Value} {R : Bool → Heap → Prop} (x : W C A whole h (fun v h1 => W C A (truthy v) h1 R))
    (he : isTrue e env whole = (do let v ← whole; standAt e.pos; holding [v] (truthy v)) := by with_unfolding_all rfl) : W C A (isTrue e env whole) h R := W.mk fun s tk =>
  isTrue_plain (x.run fun v h1 t1 y => y.1 s t1) he
theorem T_not {e : Expr} {pos : Pos} {whole : Sem Value} {R : Bool → Heap → Prop} (x : W C A (isTrue e env (eval e env)) h (fun c h1 => R (!c) h1)) : W C A (isTrue (.UnaryOp .Not e pos) env whole) h R := W.mk fun s tk =>
  isTrue_not (x.run fun c h1 t1 y => ⟨h1, t1, rfl, y⟩)
theorem T_and_nil {pos : Pos} {whole : Sem Value} {R : Bool → Heap → Prop} (x : R true h) : W C A (isTrue (.BoolOp .And [] pos) env whole) h R := W.mk fun s tk => isTrue_and_nil ⟨h, tk, rfl, x⟩
theorem T_or_nil {pos : Pos} {whole : Sem Value} {R : Bool → Heap → Prop} (x : R false h) : W C A (isTrue (.BoolOp .Or [] pos) env whole) h R := W.mk fun s tk => isTrue_or_nil ⟨h, tk, rfl, x⟩
theorem T_and {e : Expr} {es : List Expr} {pos : Pos} {whole : Sem Value} {R : Bool → Heap → Prop} (x : W C A (isTrue e env (eval e env)) h (fun c h1 => (c = true → W C A (isTrue (.BoolOp .And es pos) env whole) h1 R) ∧ (c = false → R false h1))) :
    W C A (isTrue (.BoolOp .And (e :: es) pos) env whole) h R := W.mk fun s tk => isTrue_and (x.run fun c h1 t1 y => by
  cases c with
  | true => exact (y.1 rfl).1 s t1
  | false => exact ⟨h1, t1, rfl, y.2 rfl⟩)
theorem T_or {e : Expr} {es : List Expr} {pos : Pos} {whole : Sem Value} {R : Bool → Heap → Prop} (x : W C A (isTrue e env (eval e env)) h (fun c h1 => (c = true → R true h1) ∧ (c = false → W C A (isTrue (.BoolOp .Or es pos) env whole) h1 R))) :
    W C A (isTrue (.BoolOp .Or (e :: es) pos) env whole) h R := W.mk fun s tk => isTrue_or (x.run fun c h1 t1 y => by
  cases c with
  | true => exact ⟨h1, t1, rfl, y.1 rfl⟩
  | false => exact (y.2 rfl).1 s t1)
theorem T_cmp {l r : Expr} {op : CmpOp} {pos : Pos} {whole : Sem Value} {R : Bool → Heap → Prop}
    (x : W C A (eval l env) h (fun a h1 => W C A (eval r env) h1 (fun b h2 => W C A (compareOp op a b) h2 (fun c h3 => W C A (truthy c) h3 R)))) (hm : behindInMarks op r = false := by with_unfolding_all rfl) :
    W C A (isTrue (.Compare l [op] [r] pos) env whole) h R := W.mk fun s tk => wpAny_isTrue_Compare1 (x.run fun a h1 t1 y => y.run fun b h2 t2 z => z.run fun c h3 t3 u => u.1 s t3) hm
theorem tr_bool {b : Bool} {R : Bool → Heap → Prop} (x : R b h) : W C A (truthy (.bool b)) h R := W.mk fun s tk => wpAny_truthy_bool ⟨h, tk, rfl, x⟩

-- expressions
theorem E_int {i : Int} {k : Nat} {pos : Pos} (x : ∀ t, P (.int i t) h) : W C A (eval (.Constant (.int i) k pos) env) h P := W.mk fun s tk => wpAny_Constant_int ⟨h, tk + 1, rfl, x _⟩
theorem E_str {u : Str} {k : Nat} {pos : Pos} (x : ∀ t, P (.str u t) h) : W C A (eval (.Constant (.str u) k pos) env) h P := W.mk fun s tk => wpAny_Constant_str ⟨h, tk + 1, rfl, x _⟩
theorem E_bool {b : Bool} {k : Nat} {pos : Pos} (x : P (.bool b) h) : W C A (eval (.Constant (.bool b) k pos) env) h P := W.mk fun s tk => Constant_bool ⟨h, tk, rfl, x⟩
theorem E_none {k : Nat} {pos : Pos} (x : P .none h) : W C A (eval (.Constant .none k pos) env) h P := W.mk fun s tk => Constant_none ⟨h, tk, rfl, x⟩
theorem E_bin {l r : Expr} {op : Operator} {pos : Pos} (x : W C A (eval l env) h (fun a h1 => W C A (eval r env) h1 (fun b h2 => W C A (binaryOp op a b) h2 P))) : W C A (eval (.BinOp l op r pos) env) h P := W.mk fun s tk =>
  wpAny_BinOp (x.run fun a h1 t1 y => y.run fun b h2 t2 z => z.1 s t2)
theorem E_cmp {l r : Expr} {op : CmpOp} {pos : Pos} (x : W C A (eval l env) h (fun a h1 => W C A (eval r env) h1 (fun b h2 => W C A (compareOp op a b) h2 P))) (hm : behindInMarks op r = false := by with_unfolding_all rfl) :
    W C A (eval (.Compare l [op] [r] pos) env) h P := W.mk fun s tk => wpAny_Compare1 (x.run fun a h1 t1 y => y.run fun b h2 t2 z => z.1 s t2) hm
theorem E_sub {v i : Expr} {pos : Pos} (x : W C A (eval v env) h (fun a h1 => W C A (eval i env) h1 (fun b h2 => W C A (subscriptTail v i a b) h2 P))) : W C A (eval (.Subscript v i pos) env) h P := W.mk fun s tk =>
  Subscript_ (x.run fun a h1 t1 y => y.run fun b h2 t2 z => z.1 s t2)
theorem E_attr {v : Expr} {a : Str} {pos : Pos} (x : W C A (eval v env) h (fun o h1 => W C A (getAttr o a true) h1 P))
    (he : eval (.Attribute v a pos) env = (do
      let o ← eval v env
      standAt pos.atName
      let r ← holding [o] (getAttr o a true)
      letTemporaryGo v o r
      pure r) := by with_unfolding_all rfl) : W C A (eval (.Attribute v a pos) env) h P := W.mk fun s tk =>
  Attribute_any_ (x.run fun a h1 t1 y => y.1 s t1) he
theorem E_if {t b o : Expr} {pos : Pos} (x : W C A (isTrue t env (eval t env)) h (fun c h1 => (c = true → W C A (eval b env) h1 P) ∧ (c = false → W C A (eval o env) h1 P))) : W C A (eval (.IfExp t b o pos) env) h P := W.mk fun s tk =>
  IfExp_ (x.run fun c h1 t1 y => by
    cases c with
    | true => exact (y.1 rfl).1 s t1
    | false => exact (y.2 rfl).1 s t1)
theorem E_one {op : BoolOp} {e : Expr} {pos : Pos} (x : W C A (eval e env) h P) : W C A (eval (.BoolOp op [e] pos) env) h P := W.mk fun s tk => BoolOp_one (x.1 s tk)
theorem E_and {e₁ e₂ : Expr} {es : List Expr} {pos : Pos} (x : W C A (eval e₁ env) h (fun v h1 => W C A (truthy v) h1 (fun c h2 => (c = true → W C A (eval (.BoolOp .And (e₂ :: es) pos) env) h2 P) ∧ (c = false → P v h2)))) :
    W C A (eval (.BoolOp .And (e₁ :: e₂ :: es) pos) env) h P := W.mk fun s tk => BoolOp_and (x.run fun v h1 t1 y => y.run fun c h2 t2 z => by
  cases c with
  | true => exact (z.1 rfl).1 s t2
  | false => exact ⟨h2, t2, rfl, z.2 rfl⟩)
theorem E_or {e₁ e₂ : Expr} {es : List Expr} {pos : Pos} (x : W C A (eval e₁ env) h (fun v h1 => W C A (truthy v) h1 (fun c h2 => (c = true → P v h2) ∧ (c = false → W C A (eval (.BoolOp .Or (e₂ :: es) pos) env) h2 P)))) :
    W C A (eval (.BoolOp .Or (e₁ :: e₂ :: es) pos) env) h P := W.mk fun s tk => BoolOp_or (x.run fun v h1 t1 y => y.run fun c h2 t2 z => by
  cases c with
  | true => exact ⟨h2, t2, rfl, z.1 rfl⟩
  | false => exact (z.2 rfl).1 s t2)
theorem E_not {e : Expr} {pos : Pos} (x : W C A (eval e env) h (fun v h1 => W C A (truthy v) h1 (fun c h2 => P (.bool (!c)) h2))) : W C A (eval (.UnaryOp .Not e pos) env) h P := W.mk fun s tk =>
  UnaryOp_ (x.run fun v h1 t1 y => not_of (y.run fun c h2 t2 z => ⟨h2, t2, rfl, z⟩))
theorem E_call {f : Expr} {args : List Expr} {pos : Pos} (x : W C A (eval f env) h (fun fv h1 => W C A (callWith pos fv [] (backTo pos (starEach args env)) []) h1 P))
    (he : eval (.Call f args [] pos) env = (do callWith pos (← eval f env) [] (backTo pos (starEach args env)) (backToKw pos (keywordEach [] env))) := by with_unfolding_all rfl) : W C A (eval (.Call f args [] pos) env) h P := W.mk fun s tk =>
  Call_ (x.run fun fv h1 t1 y => y.1 s t1) he
theorem E_meth {o : Expr} {name : Str} {ap pos : Pos} {args : List Expr} {pl : Sem Bool} (x : W C A (eval o env) h (fun ov h1 => W C A (getMethod ov name pl) h1 (fun fx h2 => W C A (callWith pos fx.1 fx.2 (backTo pos (starEach args env)) []) h2 P)))
    (he : eval (.Call (.Attribute o name ap) args [] pos) env = (do
      let ov ← eval o env
      standAt ap.atName
      let (f, first) ← holding [ov] (getMethod ov name pl)
      callWith pos f first (backTo pos (starEach args env)) []) := by with_unfolding_all rfl) : W C A (eval (.Call (.Attribute o name ap) args [] pos) env) h P := W.mk fun s tk =>
  MethodCall_ (x.run fun ov h1 t1 y => y.run fun fx h2 t2 z => z.1 s t2) he
theorem sp_nil {pos : Pos} {R : List Value → Heap → Prop} (x : R [] h) : W C A (spliced (backTo pos (starEach [] env))) h R := W.mk fun s tk => spliced_none ⟨h, tk, rfl, x⟩
theorem sp_cons {e : Expr} {es : List Expr} {pos : Pos} {R : List Value → Heap → Prop} (x : W C A (eval e env) h (fun v h1 => W C A (spliced (backTo pos (starEach es env))) h1 (fun vs h2 => R (v :: vs) h2)))
    (he : starEach (e :: es) env = (false, eval e env) :: starEach es env := by with_unfolding_all rfl) : W C A (spliced (backTo pos (starEach (e :: es) env))) h R := W.mk fun s tk =>
  spliced_more (x.run fun v h1 t1 y => y.run fun vs h2 t2 z => ⟨h2, t2, rfl, z⟩) he
theorem E_tuple {es : List Expr} {k : Nat} {pos : Pos} (x : W C A (spliced (backTo pos (starEach es env))) h (fun vs h1 => W C A (newTuple vs) h1 P)) : W C A (eval (.Tuple es k pos) env) h P := W.mk fun s tk =>
  Tuple_ (x.run fun vs h1 t1 y => y.1 s t1)
theorem E_list {es : List Expr} {pos : Pos} (x : W C A (spliced (backTo pos (starEach es env))) h (fun vs h1 => W C A (newList vs) h1 P)) : W C A (eval (.List es pos) env) h P := W.mk fun s tk =>
  List_ (x.run fun vs h1 t1 y => y.1 s t1)
end

-- names
noncomputable def oCell (v : Option Value) : Obj → Prop := fun o => o.data = .cell v
section
variable {C : Cx} {A : Around} {env : Env} {h h₀ : Heap} {M : List Addr} {L : Addr} {m : Loc} {σ : Led} {Φ : Fz → Prop} {P : Value → Heap → Prop} {x : Str} {pos : Pos} {v : Value}
theorem N_loc (S : St C h₀ M env.locals m σ Φ h) (hk : env.scope.kind = .function) (hl : env.kindOf x = some .local) (hv : look m x = some v) (hd : (x == ("__debug__" : Str)) = false) (y : P v h) : W C A (eval (.Name x pos) env) h P := W.mk fun s tk =>
  wpAny_Name (wpAny_loadName_local hk hl (s := st s h tk) S.ns hv ⟨h, tk, rfl, y⟩) hd
theorem N_cell {c : Addr} (S : St C h₀ M L m σ Φ h) (hk : env.scope.kind = .function) (hl : env.kindOf x = some .cell) (hc : env.cells.lookup x = some c) (hm : (c, oCell (some v)) ∈ σ) (hd : (x == ("__debug__" : Str)) = false) (y : P v h) :
    W C A (eval (.Name x pos) env) h P := W.mk fun s tk => wpAny_Name (wpAny_loadName_cell hk hl hc (s := st s h tk) (let ⟨o, ho, z⟩ := S.own _ hm; ⟨o, ho, z⟩) ⟨h, tk, rfl, y⟩) hd
theorem N_free {c : Addr} (S : St C h₀ M L m σ Φ h) (hk : env.scope.kind = .function) (hl : env.kindOf x = some .free) (hc : env.cells.lookup x = some c) (hm : (c, oCell (some v)) ∈ σ) (hd : (x == ("__debug__" : Str)) = false) (hn : (x == ("__classdict__" : Str)) = false) (y : P v h) :
    W C A (eval (.Name x pos) env) h P := W.mk fun s tk => wpAny_Name (wpAny_loadName_free hk hl hc (s := st s h tk) (let ⟨o, ho, z⟩ := S.own _ hm; ⟨o, ho, z⟩) ⟨h, tk, rfl, y⟩ hn) hd
theorem N_glob (G : GF C h) (hk : env.scope.kind = .function) (hl : env.kindOf x = some .globalImplicit) (hg : env.globals = mainGlobals) (e : nsIn (KX C.w.params) mainGlobals x = some (some v)) (hd : (x == ("__debug__" : Str)) = false) (y : P v h) :
    W C A (eval (.Name x pos) env) h P := W.mk fun s tk => Name_function_global hk hl (loadGlobal_global (s := st s h tk) (by rw [hg]; exact G.t.g) (mg_of G.x G.t.g e) ⟨h, tk, rfl, y⟩) hd
theorem N_blt (G : GF C h) (hk : env.scope.kind = .function) (hl : env.kindOf x = some .globalImplicit) (hg : env.globals = mainGlobals) (hb : env.builtins = builtinsNs) (e : nsIn (KX C.w.params) mainGlobals x = some none) (hv : bootBuiltins x = some v) (hn : x ≠ "__name__")
    (hd : (x == ("__debug__" : Str)) = false) (y : P v h) :
    W C A (eval (.Name x pos) env) h P := W.mk fun s tk => Name_function_global hk hl (loadGlobal_builtin (s := st s h tk) (by rw [hg]; exact G.t.g) (mg_none_of G.x G.t.g e) (by rw [hb]; exact G.t.b) ((G.t.builtins x hn).trans hv) ⟨h, tk, rfl, y⟩) hd
theorem N_store {R : Unit → Heap → Prop} (S : St C h₀ M env.locals m σ Φ h) (hk : env.scope.kind = .function) (hl : env.kindOf x = some .local) (y : ∀ h', St C h₀ M env.locals (upd m x v) σ Φ h' → R () h') : W C A (storeName env x v) h R := W.mk fun s tk =>
  wpAny_storeName_local (s := st s h tk) hl S.ns (fun h' hn hs => ⟨h', tk + 1, rfl, y h' (S.loc (by rw [← look_upd]; exact hn) fun b o e n => (hs.2 b (by simpa using n)).trans e)⟩) (by rw [hk]; rfl)
theorem N_storeCell {R : Unit → Heap → Prop} {c : Addr} {v₀ : Option Value} {pre post : Led} (S : St C h₀ M L m (pre ++ (c, oCell v₀) :: post) Φ h) (hk : env.scope.kind = .function) (hl : env.kindOf x = some .cell) (hc : env.cells.lookup x = some c)
    (y : ∀ h', St C h₀ M L m (pre ++ (c, oCell (some v)) :: post) Φ h' → R () h') : W C A (storeName env x v) h R := W.mk fun s tk => by
  obtain ⟨o, ho, z⟩ := S.own (c, oCell v₀) (List.mem_append.mpr (.inr (.head _)))
  exact wpAny_storeName_cell (s := st s h tk) hk hl hc ⟨o, ho, z⟩ fun h' ⟨o', ho', hd'⟩ hs =>
    ⟨h', tk, rfl, y h' (S.put (fun b x e n => (hs.2 b (fun q => n (by simp [q]))).trans e) ho' hd')⟩
theorem A_name {R : Unit → Heap → Prop} {px : Pos} (y : W C A (storeName env x v) h R) : W C A (assign (.Name x px) env v) h R := W.mk fun s tk => wpAny_assign_Name (y.1 s tk)
end

-- loops
section
variable {C : Cx} {A : Around} {env : Env} {h : Heap} {Q : Flow → Heap → Prop} {rest : List Stmt}
theorem X_while {test : Expr} {body : List Stmt} {pos : Pos} (J : Nat → Heap → Prop) (n : Nat) (h0 : J n h)
    (turn : ∀ k h, J k h → W C A (isTrue test env (eval test env)) h (fun b h1 => (b = true → W C A (execs body env) h1 (Turn (fun h2 => ∃ j, j < k ∧ J j h2) Q)) ∧ (b = false → W C A (execs rest env) h1 Q))) :
    W C A (execs (.While test body [] pos :: rest) env) h Q := by
  refine X_cons <| W.mk fun s tk => ?_
  refine wpAny_While (codeAny_whileLoop (fun k s' => ∃ h' tk', s' = st s h' tk' ∧ J k h') (fun k s' => ?_) n ⟨h, tk, rfl, h0⟩)
  rintro ⟨h', tk', rfl, hJ⟩
  refine (turn k h' hJ).run fun b h1 t1 y => ?_
  cases b with
  | true =>
    refine (y.1 rfl).run fun f h2 t2 z => ?_
    cases f with
    | next => obtain ⟨j, hj, q⟩ := z; exact ⟨j, hj, h2, t2, rfl, q⟩
    | cont => obtain ⟨j, hj, q⟩ := z; exact ⟨j, hj, h2, t2, rfl, q⟩
    | brk => exact z.elim
    | ret v => exact ⟨h2, t2, rfl, z⟩
  | false =>
    refine wpAny_execs_nil ?_
    exact ⟨h1, t1, rfl, y.2 rfl⟩

theorem X_for {target iter : Expr} {body : List Stmt} {pos : Pos}
    (x : W C A (eval iter env) h (fun xv h1 => W C A (pyIter xv) h1 (fun it h2 => ∃ (n : Nat) (J : Nat → Heap → Prop), J 0 h2 ∧
      (∀ i h, i < n → J i h → W C A (pyNext it) h (fun r h1 => ∃ v, r = some v ∧ W C A (letOwnedTupleGo target it v) h1 (fun _ h2 => W C A (assign target env v) h2 (fun _ h3 => W C A (execs body env) h3 (Turn (J (i + 1)) Q))))) ∧
      (∀ h, J n h → W C A (pyNext it) h (fun r h1 => r = none ∧ W C A (execs rest env) h1 Q)))))
    (hs : ∀ x, foldedSetIterable iter env x = pure x := by intro _; with_unfolding_all rfl) : W C A (execs (.For target iter body [] pos :: rest) env) h Q := by
  refine X_cons <| W.mk fun s tk => wpAny_For (x.run fun xv h1 t1 y => y.run fun it h2 t2 z => ?_) hs
  obtain ⟨n, J, h0, turn, done⟩ := z
  refine codeAny_forLoop_any (fun k s' => ∃ i h' tk', s' = st s h' tk' ∧ k = n + 1 - i ∧ i ≤ n ∧ J i h') (fun k s' => ?_) (n + 1) ⟨0, h2, t2, rfl, rfl, Nat.zero_le _, h0⟩
  rintro ⟨i, h', tk', rfl, rfl, hi, hJ⟩
  by_cases hlt : i < n
  · refine (turn i h' hlt hJ).run fun r h3 t3 z => ?_
    obtain ⟨v, rfl, z⟩ := z
    refine z.run fun _ h4 t4 z => z.run fun _ h5 t5 z => z.run fun f h6 t6 z => ?_
    cases f with
    | next => exact ⟨n + 1 - (i + 1), by exact om4 hlt, i + 1, h6, t6, rfl, rfl, hlt, z⟩
    | cont => exact ⟨n + 1 - (i + 1), by exact om4 hlt, i + 1, h6, t6, rfl, rfl, hlt, z⟩
    | brk => exact z.elim
    | ret v => exact ⟨h6, t6, rfl, z⟩
  · obtain rfl : i = n := by exact om5 hi hlt
    refine (done h' hJ).run fun r h3 t3 z => ?_
    obtain ⟨rfl, z⟩ := z
    exact wpAny_execs_nil ⟨h3, t3, rfl, z⟩
end
end
section
noncomputable def nameOf : Stmt → Str | .FunctionDef n _ _ _ _ _ _ _ _ _ => n | _ => default
noncomputable def parsOf : Stmt → Arguments | .FunctionDef _ p _ _ _ _ _ _ _ _ => p | _ => default
noncomputable def bodyOf : Stmt → List Stmt | .FunctionDef _ _ b _ _ _ _ _ _ _ => b | _ => []
noncomputable def scopeOf : Stmt → Scope | .FunctionDef _ _ _ _ _ _ s _ _ _ => s | _ => default
noncomputable def isDef : Stmt → Bool | .FunctionDef _ _ _ _ _ _ _ _ _ _ => true | _ => false
theorem fnS_eq {st : Stmt} (q : Str) (dV kV doc pm cdv ct : Value) (hs : isDef st = true) : fnS st q dV kV doc pm cdv ct = fnOf (nameOf st) q (parsOf st) (bodyOf st) (scopeOf st) dV kV doc pm none cdv ct := by
  cases st <;> first | rfl | cases hs
section
variable {C : Cx} {A : Around} {h : Heap} {P : Value → Heap → Prop} {f : Addr} {oc : Value} {od : Option Addr} {osl : Array (Option Value)} {qual : Str} {sd : Stmt} {dV kV doc pm cdv ct : Value} {args : List Value} {binds : List (Str × Value)} {m : Loc} {σ₀ : Led} {Φ : Fz → Prop} {k : Nat}

/-- the same of a call as code -/
noncomputable def WC (C : Cx) (A : Around) (f : Value) (args : List Value) (h : Heap) (P : Value → Heap → Prop) : Prop :=
  ∀ (s : Shared) (tk : Nat), codeAny (model PR C.w) A (.call f ⟨args, []⟩) (fun r s' => match r with | .ok (.ret v) => ∃ h' tk', s' = st s h' tk' ∧ P v h' | .ok _ => False | .error _ => False) (st s h tk)
theorem W.call {f : Value} (x : WC C A f args h P) : W C A (PySem.call f args) h P := W.mk fun s tk => wpAny_call (x s tk)

/-- what a caller hands to a def: the top's facts, the ledger of what the def may turn, what is frozen -/
structure In (C : Cx) (h : Heap) (σ₀ : Led) (Φ : Fz → Prop) : Prop where
  G : GF C h
  own : ∀ q ∈ σ₀, ∃ o, h.get? q.1 = some o ∧ q.2 o
  nd : (ads σ₀).Nodup
  m5 : ∀ q ∈ σ₀, 503 ≤ q.1
  φ : ∀ F, Le (fz (ads σ₀) h) F → Φ F
theorem In.nil (G : GF C h) (φ : ∀ F, Le (fz [] h) F → Φ F) : In C h [] Φ := ⟨G, fun q hq => (nomatch hq), List.nodup_nil, fun q hq => (nomatch hq), φ⟩
theorem In.one {a : Addr} {R : Obj → Prop} {o : Obj} (G : GF C h) (e : h.get? a = some o) (r : R o) (h5 : 503 ≤ a) (φ : ∀ F, Le (fz [a] h) F → Φ F) : In C h [(a, R)] Φ :=
  ⟨G, fun q hq => by rw [List.mem_singleton.mp hq]; exact ⟨o, e, r⟩, by simp, fun q hq => by rw [List.mem_singleton.mp hq]; exact h5, φ⟩

theorem In.st {L : Addr} {h₁ : Heap} {m : Loc} (I : In C h σ₀ Φ) (hns : h₁.Ns L (look m)) (hL : h.objs.size ≤ L) (hk : Kb [] h h₁) : St C h (ads σ₀) L m σ₀ Φ h₁ := by
  have lt : ∀ a ∈ ads σ₀, a < h.objs.size := fun a ha => by
    obtain ⟨q, hq, rfl⟩ := List.mem_map.mp ha
    obtain ⟨o, ho, -⟩ := I.own q hq
    exact Heap.lt_size ho
  have hk' : ∀ b o, h.get? b = some o → h₁.get? b = some o := fun b o e => hk b o e (by simp)
  refine ⟨I.G, hns, fun b o e _ => hk' b o e, fun q hq => let ⟨o, ho, z⟩ := I.own q hq; ⟨o, hk' _ _ ho, z⟩, List.nodup_cons.mpr ⟨fun q => absurd (lt L q) (Nat.not_lt.mpr hL), I.nd⟩, fun q hq => .inl (List.mem_map_of_mem hq), hL, I.G.size, fun a ha => ?_,
    fun F l => I.φ F (Le.trans (fz_kb hk (by simp) fun a q => ?_) l)⟩
  · obtain ⟨p, hp, rfl⟩ := List.mem_map.mp ha
    exact I.m5 p hp
  · rcases List.mem_cons.mp q with rfl | q
    · exact .inr hL
    · exact .inl q

theorem goC (I : In C h σ₀ Φ) (R : Rm A (k + 1))
    (ho : (KX C.w.params).lookup f = some ⟨oc, od, .func (fnS sd qual dV kV doc pm cdv ct), osl⟩) (hs : isDef sd = true) (hcd : codeIn (KX C.w.params) cdv qual = true)
    (hbind : ∀ s : Shared, s.heap = h → BindsTo s (fnOf (nameOf sd) qual (parsOf sd) (bodyOf sd) (scopeOf sd) dV kV doc pm none cdv ct) ⟨args, []⟩ binds) (hbs : binds.reverse = m) (hloc : (binds.all fun y => (scopeOf sd).names.lookup y.1 == some .local) = true)
    (hcell : ((scopeOf sd).names.all fun x => x.2 != .cell) = true) (hco : (scopeOf sd).isCoroutine = false) (hgen : (scopeOf sd).isGenerator = false) (hk : (scopeOf sd).kind = .function)
    (x : ∀ A' L h1, Rm A' k → St C h (ads σ₀) L m σ₀ Φ h1 → W C A' (execs (bodyOf sd) (envX qual (scopeOf sd) L f cdv [])) h1 (Ret P)) :
    WC C A (.ref f) args h P := by
  subst hbs
  rw [fnS_eq _ _ _ _ _ _ _ hs] at ho
  intro s tk
  refine (codeAny_call_def (s := st s h tk) (body := bodyOf sd) (binds := binds) (by have := R.dp; exact om6 this) (I.G.x _ _ ho) rfl I.G.t.nolimit (codeRec_of I.G.x hcd) rfl (hbind _ rfl) (fun y hy => by simpa using List.all_eq_true.mp hcell y hy) (fun y hy => by simpa using List.all_eq_true.mp hloc y hy) (fun h₁ hns hk₁ => ?_) hco hgen hk)
  refine (x _ h.objs.size h₁ (R.deeper _) (I.st hns (Nat.le_refl _) fun b o e _ => hk₁ b o e)).run fun fl h2 t2 y => ?_
  refine ⟨h2, t2, rfl, ?_⟩
  cases fl <;> exact y
theorem go (I : In C h σ₀ Φ) (R : Rm A (k + 1))
    (ho : (KX C.w.params).lookup f = some ⟨oc, od, .func (fnS sd qual dV kV doc pm cdv ct), osl⟩) (hs : isDef sd = true) (hcd : codeIn (KX C.w.params) cdv qual = true)
    (hbind : ∀ s : Shared, s.heap = h → BindsTo s (fnOf (nameOf sd) qual (parsOf sd) (bodyOf sd) (scopeOf sd) dV kV doc pm none cdv ct) ⟨args, []⟩ binds) (hbs : binds.reverse = m) (hloc : (binds.all fun y => (scopeOf sd).names.lookup y.1 == some .local) = true)
    (hcell : ((scopeOf sd).names.all fun x => x.2 != .cell) = true) (hco : (scopeOf sd).isCoroutine = false) (hgen : (scopeOf sd).isGenerator = false) (hk : (scopeOf sd).kind = .function)
    (x : ∀ A' L h1, Rm A' k → St C h (ads σ₀) L m σ₀ Φ h1 → W C A' (execs (bodyOf sd) (envX qual (scopeOf sd) L f cdv [])) h1 (Ret P)) :
    W C A (call (.ref f) args) h P := W.call (goC I R ho hs hcd hbind hbs hloc hcell hco hgen hk x)

/-- a def one of whose names is a cell -/
theorem go1 {x1 : Str} {v1 : Option Value} (I : In C h σ₀ Φ) (R : Rm A (k + 1))
    (ho : (KX C.w.params).lookup f = some ⟨oc, od, .func (fnS sd qual dV kV doc pm cdv ct), osl⟩) (hs : isDef sd = true) (hcd : codeIn (KX C.w.params) cdv qual = true)
    (hbind : ∀ s : Shared, s.heap = h → BindsTo s (fnOf (nameOf sd) qual (parsOf sd) (bodyOf sd) (scopeOf sd) dV kV doc pm none cdv ct) ⟨args, []⟩ binds)
    (hkind : (binds.all fun y => (scopeOf sd).names.lookup y.1 == some .local || (scopeOf sd).names.lookup y.1 == some .cell) = true) (hc : ∀ n, cellsFrom n (scopeOf sd).names [] = [(x1, n)])
    (hm : ∀ L, bindL (envX qual (scopeOf sd) L f cdv [(x1, L + 1)]).kindOf binds (fun _ => none) = look m) (hv : ∀ L, bindC (envX qual (scopeOf sd) L f cdv [(x1, L + 1)]).kindOf binds (fun _ => none) x1 = v1)
    (hco : (scopeOf sd).isCoroutine = false) (hgen : (scopeOf sd).isGenerator = false) (hk : (scopeOf sd).kind = .function)
    (x : ∀ A' L h1 c, Rm A' k → St C h (ads σ₀) L m ((c, oCell v1) :: σ₀) Φ h1 → W C A' (execs (bodyOf sd) (envX qual (scopeOf sd) L f cdv [(x1, c)])) h1 (Ret P)) :
    W C A (call (.ref f) args) h P := by
  rw [fnS_eq _ _ _ _ _ _ _ hs] at ho
  refine W.mk fun s tk => ?_
  refine wpAny_call (codeAny_call_function (s := st s h tk) (by have := R.dp; exact om6 this) (I.G.x _ _ ho) rfl hco hgen rfl (codeRec_of I.G.x hcd) (hbind _ rfl _ _ _ _ ?_))
  refine wpAny_newFunctionEnv_cells hk (kindsX hkind _) fun env' he s' y => ?_
  subst he
  refine ⟨I.G.t.nolimit.keeps y.toInCall.keep, codeAny_func ?_⟩
  obtain ⟨h₁, tk', rfl, hk₁⟩ := y.done
  have hk₁ : ∀ b o, h.get? b = some o → h₁.get? b = some o := hk₁
  have hns : h₁.Ns h.objs.size (look m) := by rw [← hm h.objs.size]; have := y.toInCall.ns; simp only [newEnv, st_heap, hc] at this ⊢; exact this
  obtain ⟨o, hoc, hod⟩ := y.cell x1 (h.objs.size + 1) (by simp [newEnv, hc])
  have hod : o.data = .cell v1 := by rw [hod, ← hv h.objs.size]; simp [newEnv, hc]
  have hoc : h₁.get? (h.objs.size + 1) = some o := hoc
  have S0 := I.st hns (Nat.le_refl _) fun b o e _ => hk₁ b o e
  have S : St C h (ads σ₀) h.objs.size m ((h.objs.size + 1, oCell v1) :: σ₀) Φ h₁ := by
    have lt : ∀ a ∈ ads σ₀, a < h.objs.size := fun a ha => by
      obtain ⟨q, hq, rfl⟩ := List.mem_map.mp ha
      obtain ⟨o, ho, -⟩ := I.own q hq
      exact Heap.lt_size ho
    refine { S0 with own := fun q hq => (List.mem_cons.mp hq).elim (fun e => e ▸ ⟨o, hoc, hod⟩) (S0.own q), nd := ?_, hi := fun q hq => (List.mem_cons.mp hq).elim (fun e => e ▸ .inr (Nat.le_succ _)) (S0.hi q), φ := fun F l => I.φ F (Le.trans (fz_kb (M := []) (fun b o e _ => hk₁ b o e) (by simp) fun a q => ?_) l) }
    · refine List.nodup_cons.mpr ⟨fun q => ?_, List.nodup_cons.mpr ⟨fun q => absurd (lt _ q) (Nat.not_lt.mpr (by first | exact Nat.le_succ _ | exact Nat.le_refl _)), I.nd⟩⟩
      rcases List.mem_cons.mp q with q | q
      · exact absurd q (Nat.ne_of_lt (Nat.lt_succ_self _))
      · exact absurd (lt _ q) (Nat.lt_irrefl _)
    · rcases List.mem_cons.mp q with rfl | q
      · exact .inr (Nat.le_refl _)
      · rcases List.mem_cons.mp q with rfl | q
        · exact .inr (Nat.le_succ _)
        · exact .inl q
  have e1 : newEnv (scopeOf sd) h.objs.size mainGlobals (cellsFrom (h.objs.size + 1) (scopeOf sd).names []) (qual ++ ".<locals>.") (some f) cdv none builtinsNs = envX qual (scopeOf sd) h.objs.size f cdv [(x1, h.objs.size + 1)] := by
    simp [newEnv, hc, envX]
  have z := x (A.deeper (envX qual (scopeOf sd) h.objs.size f cdv [(x1, h.objs.size + 1)])) h.objs.size h₁ (h.objs.size + 1) (R.deeper _) S
  rw [← e1] at z
  refine z.run fun fl h2 t2 y => ?_
  refine ⟨h2, t2, rfl, ?_⟩
  cases fl <;> exact y

/-- a def two of whose names are cells -/
theorem go2 {x1 x2 : Str} {v1 v2 : Option Value} (I : In C h σ₀ Φ) (R : Rm A (k + 1))
    (ho : (KX C.w.params).lookup f = some ⟨oc, od, .func (fnS sd qual dV kV doc pm cdv ct), osl⟩) (hs : isDef sd = true) (hcd : codeIn (KX C.w.params) cdv qual = true)
    (hbind : ∀ s : Shared, s.heap = h → BindsTo s (fnOf (nameOf sd) qual (parsOf sd) (bodyOf sd) (scopeOf sd) dV kV doc pm none cdv ct) ⟨args, []⟩ binds)
    (hkind : (binds.all fun y => (scopeOf sd).names.lookup y.1 == some .local || (scopeOf sd).names.lookup y.1 == some .cell) = true) (hc : ∀ n, cellsFrom n (scopeOf sd).names [] = [(x2, n + 1), (x1, n)]) (hne : (x1 == x2) = false)
    (hm : ∀ L, bindL (envX qual (scopeOf sd) L f cdv [(x2, L + 1 + 1), (x1, L + 1)]).kindOf binds (fun _ => none) = look m) (hv : ∀ L, bindC (envX qual (scopeOf sd) L f cdv [(x2, L + 1 + 1), (x1, L + 1)]).kindOf binds (fun _ => none) x1 = v1)
    (hv2 : ∀ L, bindC (envX qual (scopeOf sd) L f cdv [(x2, L + 1 + 1), (x1, L + 1)]).kindOf binds (fun _ => none) x2 = v2)
    (hco : (scopeOf sd).isCoroutine = false) (hgen : (scopeOf sd).isGenerator = false) (hk : (scopeOf sd).kind = .function)
    (x : ∀ A' L h1 c d, Rm A' k → St C h (ads σ₀) L m ((d, oCell v2) :: (c, oCell v1) :: σ₀) Φ h1 → W C A' (execs (bodyOf sd) (envX qual (scopeOf sd) L f cdv [(x2, d), (x1, c)])) h1 (Ret P)) :
    W C A (call (.ref f) args) h P := by
  rw [fnS_eq _ _ _ _ _ _ _ hs] at ho
  refine W.mk fun s tk => ?_
  refine wpAny_call (codeAny_call_function (s := st s h tk) (by have := R.dp; exact om6 this) (I.G.x _ _ ho) rfl hco hgen rfl (codeRec_of I.G.x hcd) (hbind _ rfl _ _ _ _ ?_))
  refine wpAny_newFunctionEnv_cells hk (kindsX hkind _) fun env' he s' y => ?_
  subst he
  refine ⟨I.G.t.nolimit.keeps y.toInCall.keep, codeAny_func ?_⟩
  obtain ⟨h₁, tk', rfl, hk₁⟩ := y.done
  have hk₁ : ∀ b o, h.get? b = some o → h₁.get? b = some o := hk₁
  have hns : h₁.Ns h.objs.size (look m) := by rw [← hm h.objs.size]; have := y.toInCall.ns; simp only [newEnv, st_heap, hc] at this ⊢; exact this
  obtain ⟨o, hoc, hod⟩ := y.cell x1 (h.objs.size + 1) (by simp [newEnv, hc, List.lookup, hne])
  obtain ⟨o2, hoc2, hod2⟩ := y.cell x2 (h.objs.size + 1 + 1) (by simp [newEnv, hc])
  have hod : o.data = .cell v1 := by rw [hod, ← hv h.objs.size]; simp [newEnv, hc]
  have hod2 : o2.data = .cell v2 := by rw [hod2, ← hv2 h.objs.size]; simp [newEnv, hc]
  have hoc : h₁.get? (h.objs.size + 1) = some o := hoc
  have hoc2 : h₁.get? (h.objs.size + 1 + 1) = some o2 := hoc2
  have S0 := I.st hns (Nat.le_refl _) fun b o e _ => hk₁ b o e
  have S : St C h (ads σ₀) h.objs.size m ((h.objs.size + 1 + 1, oCell v2) :: (h.objs.size + 1, oCell v1) :: σ₀) Φ h₁ := by
    have lt : ∀ a ∈ ads σ₀, a < h.objs.size := fun a ha => by
      obtain ⟨q, hq, rfl⟩ := List.mem_map.mp ha
      obtain ⟨o, ho, -⟩ := I.own q hq
      exact Heap.lt_size ho
    have own' : ∀ q ∈ ((h.objs.size + 1 + 1, oCell v2) :: (h.objs.size + 1, oCell v1) :: σ₀ : Led), ∃ o, h₁.get? q.1 = some o ∧ q.2 o := fun q hq => by
      rcases List.mem_cons.mp hq with rfl | hq
      · exact ⟨o2, hoc2, hod2⟩
      · rcases List.mem_cons.mp hq with rfl | hq
        · exact ⟨o, hoc, hod⟩
        · exact S0.own q hq
    have hi' : ∀ q ∈ ((h.objs.size + 1 + 1, oCell v2) :: (h.objs.size + 1, oCell v1) :: σ₀ : Led), q.1 ∈ ads σ₀ ∨ h.objs.size ≤ q.1 := fun q hq => by
      rcases List.mem_cons.mp hq with rfl | hq
      · exact .inr (Nat.le_trans (Nat.le_succ _) (Nat.le_succ _))
      · rcases List.mem_cons.mp hq with rfl | hq
        · exact .inr (Nat.le_succ _)
        · exact S0.hi q hq
    refine { S0 with own := own', hi := hi', nd := ?_, φ := fun F l => I.φ F (Le.trans (fz_kb (M := []) (fun b o e _ => hk₁ b o e) (by simp) fun a q => ?_) l) }
    · refine List.nodup_cons.mpr ⟨fun q => ?_, List.nodup_cons.mpr ⟨fun q => ?_, List.nodup_cons.mpr ⟨fun q => absurd (lt _ q) (Nat.not_lt.mpr (by first | exact Nat.le_succ _ | exact Nat.le_refl _)), I.nd⟩⟩⟩
      · rcases List.mem_cons.mp q with q | q
        · exact absurd q (Nat.ne_of_lt (Nat.lt_succ_of_lt (Nat.lt_succ_self _)))
        · rcases List.mem_cons.mp q with q | q
          · exact absurd q (Nat.ne_of_lt (Nat.lt_succ_self _))
          · exact absurd (lt _ q) (Nat.lt_irrefl _)
      · rcases List.mem_cons.mp q with q | q
        · exact absurd q (Nat.ne_of_gt (Nat.lt_succ_self _))
        · exact absurd (lt _ q) (Nat.not_lt.mpr (Nat.le_trans (Nat.le_succ _) (Nat.le_succ _)))
    · rcases List.mem_cons.mp q with rfl | q
      · exact .inr (Nat.le_refl _)
      · rcases List.mem_cons.mp q with rfl | q
        · exact .inr (Nat.le_trans (Nat.le_succ _) (Nat.le_succ _))
        · rcases List.mem_cons.mp q with rfl | q
          · exact .inr (Nat.le_succ _)
          · exact .inl q
  have e1 : newEnv (scopeOf sd) h.objs.size mainGlobals (cellsFrom (h.objs.size + 1) (scopeOf sd).names []) (qual ++ ".<locals>.") (some f) cdv none builtinsNs = envX qual (scopeOf sd) h.objs.size f cdv [(x2, h.objs.size + 1 + 1), (x1, h.objs.size + 1)] := by
    simp [newEnv, hc, envX]
  have z := x (A.deeper (envX qual (scopeOf sd) h.objs.size f cdv [(x2, h.objs.size + 1 + 1), (x1, h.objs.size + 1)])) h.objs.size h₁ (h.objs.size + 1) (h.objs.size + 1 + 1) (R.deeper _) S
  rw [← e1] at z
  refine z.run fun fl h2 t2 y => ?_
  refine ⟨h2, t2, rfl, ?_⟩
  cases fl <;> exact y
/-- the top's names that the defs speak of -/
noncomputable def GL : List (Str × Value) := [(Str.ofString "_law_draw", .ref 480), (Str.ofString "_law_value", .ref 485), (Str.ofString "Reference", .ref 242), (Str.ofString "kind_of", .ref 253), (Str.ofString "is_there", .ref 385), (Str.ofString "references_in", .ref 282), (Str.ofString "parts_of", .ref 275),
  (Str.ofString "told_objects", .ref 265), (Str.ofString "told_plain", .ref 260), (Str.ofString "told", .ref 265), (Str.ofString "copied", .ref 270), (Str.ofString "Stream", .ref 214), (Str.ofString "Name", .ref 171), (Str.ofString "String", .ref 193), (Str.ofString "Decimal", .ref 143), (Str.ofString "Shelf", .ref 368), (Str.ofString "Lookup", .ref 314),
  (Str.ofString "shelf_copied", .ref 377), (Str.ofString "PLACES_OF_FILES", .ref 378), (Str.ofString "plain_trailer", .ref 390), (Str.ofString "walk", .ref 395), (Str.ofString "reached", .ref 400), (Str.ofString "unreached", .ref 405), (Str.ofString "seen_as", .ref 412), (Str.ofString "solid_keys", .ref 417), (Str.ofString "Twin", .ref 455), (Str.ofString "alike", .ref 466),
  (Str.ofString "_law_pen", .ref 473), (Str.ofString "_law_shelf", .ref 492), (Str.ofString "_law_rounds", .ref 497), (Str.ofString "law", .ref 502)]
theorem GL_ok (P : Params) : GL.all (fun q => nsIn (KX P) mainGlobals q.1 == some (some q.2)) = true := by kernel_rfl
theorem N_gl {C : Cx} {A : Around} {env : Env} {h : Heap} {P : Value → Heap → Prop} {x : Str} {pos : Pos} {v : Value} (G : GF C h) (hk : env.scope.kind = .function) (hl : env.kindOf x = some .globalImplicit) (hg : env.globals = mainGlobals) (e : GL.lookup x = some v) (hd : (x == ("__debug__" : Str)) = false) (y : P v h) :
    W C A (eval (.Name x pos) env) h P := by
  refine N_glob G hk hl hg ?_ hd y
  have mem : ∀ (l : List (Str × Value)), l.lookup x = some v → (x, v) ∈ l := by
    intro l
    induction l with
    | nil => intro e; cases e
    | cons q r ih =>
      intro e
      obtain ⟨a, b⟩ := q
      simp only [List.lookup] at e
      split at e
      · rename_i h1; rw [beq_iff_eq] at h1; cases e; rw [h1]; exact .head _
      · exact .tail _ (ih e)
  exact beq_iff_eq.mp (List.all_eq_true.mp (GL_ok C.w.params) (x, v) (mem GL e))
theorem body {t t' : List Stmt} {s : Stmt} {env : Env} {Q : Flow → Heap → Prop} (e : t = s :: t') (x : W C A (execs (s :: t') env) h Q) : W C A (execs t env) h Q := e ▸ x
end
end
section
noncomputable def At (F : Fz) (a : Addr) (P : Obj → Prop) : Prop := ∃ o, F a = some o ∧ P o
theorem At.mono {F F' : Fz} {a : Addr} {P : Obj → Prop} (x : At F a P) (l : Le F F') : At F' a P := let ⟨o, e, p⟩ := x; ⟨o, l a o e, p⟩
theorem At.lt {h : Heap} {a : Addr} {P : Obj → Prop} (x : At h.get? a P) : a < h.objs.size := let ⟨o, e, p⟩ := x; Heap.lt_size e
noncomputable abbrev tupOf (vs : List Value) : Obj := { cls := .type "tuple", data := .seq vs.toArray }
noncomputable abbrev lstOf (vs : List Value) (n : Nat) : Obj := listOf vs.toArray n
/-- a list of exactly these items -/
noncomputable def oL (vs : List Value) : Obj → Prop := fun o => ∃ n, o = lstOf vs n
/-- a list, whatever else it bears -/
noncomputable def oLw (vs : List Value) : Obj → Prop := fun o => o.cls = .type "list" ∧ ∃ n, o.data = .seq vs.toArray n
noncomputable def oT (vs : List Value) : Obj → Prop := fun o => o = tupOf vs
theorem oL.w {vs : List Value} {o : Obj} (x : oL vs o) : oLw vs o := let ⟨n, e⟩ := x; by subst e; exact ⟨rfl, n, rfl⟩
theorem At.list {h : Heap} {l : Addr} {vs : List Value} (x : At h.get? l (oL vs)) : h.IsList l vs.toArray := let ⟨o, e, p⟩ := x; ⟨o, e, p.w.1, p.w.2⟩
theorem At.listw {h : Heap} {l : Addr} {vs : List Value} (x : At h.get? l (oLw vs)) : h.IsList l vs.toArray := let ⟨o, e, p⟩ := x; ⟨o, e, p.1, p.2⟩
theorem At.tup {h : Heap} {l : Addr} {vs : List Value} (x : At h.get? l (oT vs)) : h.IsTuple l vs.toArray := let ⟨o, e, p⟩ := x; ⟨o, e, by rw [p], 0, by rw [p]⟩
theorem At.istup {h : Heap} {l : Addr} {vs : List Value} (x : At h.get? l (oT vs)) : IsTup h l vs.toArray := let ⟨o, e, p⟩ := x; by rw [p] at e; exact ⟨_, e, rfl, 0, rfl⟩
theorem kb_same {l : Addr} {h h' : Heap} (s : Heap.SameBut l h h') : Kb [l] h h' := fun b o e n => (s.2 b (fun q => n (by simp [q]))).trans e
theorem upd_kb {l : Addr} {f : Obj → Obj} {h : Heap} : Kb [l] h (h.update l f) := kb_same (Heap.SameBut.update ..)
theorem upd_at {l : Addr} {h : Heap} {vs vs' : List Value} {n : Nat} {f : Array Value → Array Value} (e : h.get? l = some (lstOf vs n)) (hf : f vs.toArray = vs'.toArray) : At (h.update l (Obj.mapSeq f)).get? l (oL vs') := by
  refine ⟨_, (Heap.get?_update_self _ e rfl), if vs'.toArray.size == vs.toArray.size then n else n + 1, ?_⟩
  show Obj.mapSeq f (lstOf vs n) = _
  simp [Obj.mapSeq, hf]
section
variable {C : Cx} {A : Around} {env : Env} {h : Heap} {P : Value → Heap → Prop} {a b : Int} {t u : Tok}
-- whole numbers
theorem O_add (x : ∀ t, P (.int (a + b) t) h) : W C A (binaryOp .Add (.int a t) (.int b u)) h P := W.mk fun s tk => AutoIntOps.add_0 ⟨h, tk + 1, rfl, x _⟩
theorem O_sub (x : ∀ t, P (.int (a - b) t) h) : W C A (binaryOp .Sub (.int a t) (.int b u)) h P := W.mk fun s tk => AutoIntOps.sub_0 ⟨h, tk + 1, rfl, x _⟩
theorem O_mul (hm : IntMulOk a b) (x : ∀ t, P (.int (a * b) t) h) : W C A (binaryOp .Mult (.int a t) (.int b u)) h P := W.mk fun s tk => AutoIntOps.mul_0 (⟨h, tk + 1, rfl, x _⟩) hm
theorem O_mod (hb : (b == 0) = false) (x : ∀ t, P (.int (a.fmod b) t) h) : W C A (binaryOp .Mod (.int a t) (.int b u)) h P := W.mk fun s tk => AutoIntOps.mod_1 (by rw [hb]; exact Bool.false_ne_true) ⟨h, tk + 1, rfl, x _⟩
theorem O_div (hb : (b == 0) = false) (hp : Builtin.divisionGoesByPylong a b = false) (x : ∀ t, P (.int (a.fdiv b) t) h) : W C A (binaryOp .FloorDiv (.int a t) (.int b u)) h P := W.mk fun s tk => AutoIntOps.floordiv_1 (by rw [hb]; exact Bool.false_ne_true) (by rw [hp]; exact Bool.false_ne_true) ⟨h, tk + 1, rfl, x _⟩
theorem O_lt (x : P (.bool (decide (a < b))) h) : W C A (compareOp .Lt (.int a t) (.int b u)) h P := W.mk fun s tk => PyProof.Rows.lt_int ⟨h, tk, rfl, x⟩
theorem O_gt (x : P (.bool (decide (b < a))) h) : W C A (compareOp .Gt (.int a t) (.int b u)) h P := W.mk fun s tk => PyProof.Rows.gt_int ⟨h, tk, rfl, x⟩
theorem O_eq (x : P (.bool (a == b)) h) : W C A (compareOp .Eq (.int a t) (.int b u)) h P := W.mk fun s tk => PyProof.Rows.eq_int ⟨h, tk, rfl, x⟩
theorem O_eqs {a b : Str} (x : P (.bool (a == b)) h) : W C A (compareOp .Eq (.str a t) (.str b u)) h P := W.mk fun s tk => PyProof.Rows.eq_str ⟨h, tk, rfl, x⟩
theorem O_nes {a b : Str} (x : P (.bool (a != b)) h) : W C A (compareOp .NotEq (.str a t) (.str b u)) h P := W.mk fun s tk => SeqAt.RcNeAt.str_str a t b u _ _ _ _ ⟨h, tk, rfl, x⟩
theorem O_eqb {a b : Array UInt8} (x : P (.bool (a.toList == b.toList)) h) : W C A (compareOp .Eq (.bytes a t) (.bytes b u)) h P := W.mk fun s tk => PySem.W.eq_bytes ⟨h, tk, rfl, x⟩
theorem O_is {v : Value} (x : P (.bool (v == .none)) h) : W C A (compareOp .Is v .none) h P := W.mk fun s tk => is_none_gen ⟨h, tk, rfl, x⟩
theorem O_isnot {v : Value} (x : P (.bool (!(v == .none))) h) : W C A (compareOp .IsNot v .none) h P := W.mk fun s tk => isnot_none_gen ⟨h, tk, rfl, x⟩
theorem O_abs (x : ∀ t, P (.int (if a < 0 then -a else a) t) h) : W C A (call (.builtin "abs") [.int a t]) h P := W.mk fun s tk => call_abs_int fun u tk' => ⟨h, tk', rfl, x u⟩

-- calls
variable {pos : Pos} {f : Addr} {first : List Value} {es : List Expr} {e : Expr}
theorem C_fn (hk : keepIn (KX C.w.params) (.ref f) = true) (x : W C A (spliced (backTo pos (starEach (e :: es) env))) h (fun vs h1 => GF C h1 ∧ W C A (call (.ref f) (first ++ vs)) h1 P))
    (he : starEach (e :: es) env = (false, eval e env) :: starEach es env := by with_unfolding_all rfl) (hplain : (backTo pos (starEach es env)).any (·.1) = false := by with_unfolding_all rfl) :
    W C A (callWith pos (.ref f) first (backTo pos (starEach (e :: es) env)) []) h P := W.mk fun s tk => by
  have y := x.1 s tk
  rw [he] at y ⊢
  exact callWith_of (by show ((false || (backTo pos (starEach es env)).any (·.1)) || false) = false; rw [hplain]; rfl) (keeps_K hk)
    (evalArgs_plain (wpAny_mono y (fun vs s1 ⟨h1, tk1, e1, G, z⟩ => by subst e1; exact ⟨G.x, z.1 s tk1⟩) fun _ _ q => q))
theorem C_fn0 (hk : keepIn (KX C.w.params) (.ref f) = true) (G : GF C h) (x : W C A (call (.ref f) first) h P) : W C A (callWith pos (.ref f) first (backTo pos (starEach [] env)) []) h P := W.mk fun s tk =>
  callWith_of rfl (keeps_K hk) (evalArgs_nil3 ⟨G.x, by simpa using x.1 s tk⟩)
theorem C_blt {id : String} (x : W C A (spliced (backTo pos (starEach (e :: es) env))) h (fun vs h1 => W C A (call (.builtin id) (first ++ vs)) h1 P))
    (he : starEach (e :: es) env = (false, eval e env) :: starEach es env := by with_unfolding_all rfl) (hplain : (backTo pos (starEach es env)).any (·.1) = false := by with_unfolding_all rfl) :
    W C A (callWith pos (.builtin id) first (backTo pos (starEach (e :: es) env)) []) h P := W.mk fun s tk =>
  callWith_method1 (x.run fun vs h1 t1 y => y.1 s t1) he hplain
theorem C_blt0 {id : String} (x : W C A (call (.builtin id) first) h P) : W C A (callWith pos (.builtin id) first (backTo pos (starEach [] env)) []) h P := W.mk fun s tk => callWith_method0 (x.1 s tk)
theorem C_fnN (hk : keepIn (KX C.w.params) (.ref f) = true) (x : W C A (spliced (backTo pos (starEach (e :: es) env))) h (fun vs h1 => GF C h1 ∧ W C A (call (.ref f) vs) h1 P))
    (he : starEach (e :: es) env = (false, eval e env) :: starEach es env := by with_unfolding_all rfl) (hplain : (backTo pos (starEach es env)).any (·.1) = false := by with_unfolding_all rfl) :
    W C A (callWith pos (.ref f) [] (backTo pos (starEach (e :: es) env)) []) h P := C_fn hk x he hplain
theorem C_fnM {ov : Value} (hk : keepIn (KX C.w.params) (.ref f) = true) (x : W C A (spliced (backTo pos (starEach (e :: es) env))) h (fun vs h1 => GF C h1 ∧ W C A (call (.ref f) (ov :: vs)) h1 P))
    (he : starEach (e :: es) env = (false, eval e env) :: starEach es env := by with_unfolding_all rfl) (hplain : (backTo pos (starEach es env)).any (·.1) = false := by with_unfolding_all rfl) :
    W C A (callWith pos (.ref f) [ov] (backTo pos (starEach (e :: es) env)) []) h P := C_fn hk x he hplain
theorem C_bltN {id : String} (x : W C A (spliced (backTo pos (starEach (e :: es) env))) h (fun vs h1 => W C A (call (.builtin id) vs) h1 P))
    (he : starEach (e :: es) env = (false, eval e env) :: starEach es env := by with_unfolding_all rfl) (hplain : (backTo pos (starEach es env)).any (·.1) = false := by with_unfolding_all rfl) :
    W C A (callWith pos (.builtin id) [] (backTo pos (starEach (e :: es) env)) []) h P := C_blt x he hplain
theorem C_bltM {id : String} {ov : Value} (x : W C A (spliced (backTo pos (starEach (e :: es) env))) h (fun vs h1 => W C A (call (.builtin id) (ov :: vs)) h1 P))
    (he : starEach (e :: es) env = (false, eval e env) :: starEach es env := by with_unfolding_all rfl) (hplain : (backTo pos (starEach es env)).any (·.1) = false := by with_unfolding_all rfl) :
    W C A (callWith pos (.builtin id) [ov] (backTo pos (starEach (e :: es) env)) []) h P := C_blt x he hplain
theorem C_type {T : String} (x : W C A (spliced (backTo pos (starEach (e :: es) env))) h (fun vs h1 => W C A (call (.type T) vs) h1 P))
    (he : starEach (e :: es) env = (false, eval e env) :: starEach es env := by with_unfolding_all rfl) (hplain : (backTo pos (starEach es env)).any (·.1) = false := by with_unfolding_all rfl) :
    W C A (callWith pos (.type T) [] (backTo pos (starEach (e :: es) env)) []) h P := W.mk fun s tk => PyProof.Rows.callWith_type1 (x.run fun vs h1 t1 y => y.1 s t1) he hplain

-- tuples, lists
theorem O_tuple {vs : List Value} (hz : vs.length ≤ sizeLine) (x : P (.ref h.objs.size) (h.push (tupOf vs))) : W C A (newTuple vs) h P := W.mk fun s tk =>
  wpAny_newObj_type ⟨_, tk, rfl, x⟩ (by show vs.toArray.size ≤ sizeLine; rw [List.size_toArray]; exact hz)
theorem O_list {vs : List Value} (hz : vs.length ≤ sizeLine) (x : P (.ref h.objs.size) (h.push (lstOf vs 0))) : W C A (newList vs) h P := W.mk fun s tk =>
  wpAny_newObj_type ⟨_, tk, rfl, x⟩ (by show vs.toArray.size ≤ sizeLine; rw [List.size_toArray]; exact hz)
variable {l : Addr} {vs : List Value} {k : Int} {v : Value} {ve ie : Expr}
theorem O_subL (e : h.IsList l vs.toArray) (h0 : 0 ≤ k) (hf : k ≤ 1000000000) (hx : vs[k.toNat]? = some v) (x : P v h)
    (hs : subscripted ie false (.ref l) (.int k t) = operate [.ref l, .int k t] (getItem (.ref l) (.int k t)) := by with_unfolding_all rfl) : W C A (subscriptTail ve ie (.ref l) (.int k t)) h P := W.mk fun s tk =>
  tail_any (s := st s h tk) (Heap.IsList.typeIs (s := st s h tk) e) slot_list_getitem.lookup (wpAny_getItem_list e h0 (Int.lt_of_le_of_lt hf (by decide)) (by rw [List.getElem?_toArray]; exact hx) ⟨h, tk, rfl, x⟩) hs
theorem O_subT (e : At h.get? l (oT vs)) (h0 : 0 ≤ k) (hf : k ≤ 1000000000) (hx : vs[k.toNat]? = some v) (x : P v h)
    (hs : subscripted ie false (.ref l) (.int k t) = operate [.ref l, .int k t] (getItem (.ref l) (.int k t)) := by with_unfolding_all rfl) : W C A (subscriptTail ve ie (.ref l) (.int k t)) h P := W.mk fun s tk =>
  tail_any (s := st s h tk) (Heap.IsTuple.typeIs (s := st s h tk) e.tup) PySem.F.slot_tuple_getitem.lookup (PyProof.Rows.getItem_tuple (j := k.toNat) e.istup (by omega) (Int.lt_of_le_of_lt hf (by decide)) (seqIndex_at h0 (by
      have := (List.getElem?_eq_some_iff.mp hx).1; simp; exact om7 h0 hf this)) (by rw [List.getElem?_toArray]; exact hx) ⟨h, tk, rfl, x⟩) hs
theorem O_setL {R : Unit → Heap → Prop} (e : At h.get? l (oLw vs)) (h0 : 0 ≤ k) (hf : k ≤ 1000000000) (hn : k < vs.length) (x : ∀ h', Kb [l] h h' → At h'.get? l (oLw (vs.set k.toNat v)) → R () h') : W C A (setItem (.ref l) (.int k t) v) h R := W.mk fun s tk =>
  wpAny_setItem_list e.listw h0 (Int.lt_of_le_of_lt hf (by decide)) (by simpa using hn) fun h' hl hs => ⟨h', tk, rfl, x h' (kb_same hs) (by
    obtain ⟨o, ho, hc, n, hd⟩ := hl
    refine ⟨o, ho, hc, n, hd.trans ?_⟩
    simp)⟩
theorem M_list {name : Str} {id : String} {pl : Sem Bool} {R : Value × List Value → Heap → Prop} (e : At h.get? l (oL vs)) (slot : Slot "list" name id) (hty : typeOf (.builtin id) = pure (.type "method_descriptor")) (x : R (.builtin id, [.ref l]) h) :
    W C A (getMethod (.ref l) name pl) h R := W.mk fun s tk => by
  obtain ⟨o, ho, n, rfl⟩ := e
  exact getMethod_builtin (s := st s h tk) ⟨_, ho, rfl⟩ PySem.F.plainAttrs_list slot hty (fun a q => by cases q; exact ⟨_, ho, rfl⟩) ⟨h, tk, rfl, x⟩
theorem O_append (e : At h.get? l (oL vs)) (hz : vs.length ≤ sizeLine) (x : ∀ h', Kb [l] h h' → At h'.get? l (oL (vs ++ [v])) → P .none h') : W C A (call (.builtin "list.append") [.ref l, v]) h P := W.mk fun s tk => by
  obtain ⟨o, ho, n, rfl⟩ := e
  exact wpAny_list_append_plain (s := st s h tk) ⟨n, ho⟩ (fun h' ⟨n', hl⟩ hs => ⟨h', tk, rfl, x h' (kb_same hs) ⟨_, hl, n', by simp⟩⟩) (by simpa using hz)
theorem O_pop {w : Value} (e : At h.get? l (oL (vs ++ [w]))) (hz : vs.length < sizeLine) (x : ∀ h', Kb [l] h h' → At h'.get? l (oL vs) → P w h') : W C A (call (.builtin "list.pop") [.ref l]) h P := W.mk fun s tk => by
  obtain ⟨o, ho, n, rfl⟩ := e
  have hk : (vs ++ [w]).toArray.size - 1 = vs.length := by simp
  refine call_meets (s := st s h tk) PySem.F.slot_list_pop ⟨_, ho, rfl⟩ PySem.F.entry_list_pop (PySem.F.args_list_pop_1 _) (PySem.MeetsSeq.list_pop_last l _ n w (by rw [hk]; simp) (by simp; exact om8 hz hk)) ⟨ho, ?_⟩
  refine ⟨_, tk, rfl, x _ upd_kb (upd_at ho ?_)⟩
  rw [hk]
  simpa using kl_erase vs [] w
theorem O_extendL {b : Addr} {ws : List Value} (e : At h.get? l (oL vs)) (e2 : At h.get? b (oL ws)) (hz : vs.length + ws.length ≤ 1000000) (x : ∀ h', Kb [l] h h' → At h'.get? l (oL (vs ++ ws)) → P .none h') : W C A (call (.builtin "list.extend") [.ref l, .ref b]) h P := W.mk fun s tk => by
  obtain ⟨o, ho, n, rfl⟩ := e
  obtain ⟨o2, ho2, n2, rfl⟩ := e2
  have hs : 1000000 < sizeLine := by decide
  have hlong : Builtin.List.listTooLong (vs.length + ws.length) = false := by
    unfold Builtin.List.listTooLong
    simp
    exact om9 hz hs
  refine call_meets (s := st s h tk) PySem.F.slot_list_extend ⟨_, ho, rfl⟩ PySem.F.entry_list_extend (PySem.F.args_list_extend_2 _ _) (PySem.AutoSeq1.list_extend_list_list_0 l vs.toArray n b ws.toArray n2 (by simp [hlong]) (by simp; exact om10 hz hs) (by simp; exact om11 hz hs)) ⟨ho, ho2, ?_⟩
  exact ⟨_, tk, rfl, x _ upd_kb (upd_at ho (by simp))⟩
theorem O_len (e : h.IsList l vs.toArray) (hz : vs.length ≤ 1000000000) (x : ∀ t, P (.int vs.length t) h) : W C A (call (.builtin "len") [.ref l]) h P := W.mk fun s tk =>
  call_len_list (s := st s h tk) e (by simp; exact om12 hz) ⟨h, _, rfl, by simpa using x _⟩
theorem tr_list {R : Bool → Heap → Prop} (e : h.IsList l vs.toArray) (hz : vs.length ≤ 1000000000) (x : R (!vs.isEmpty) h) : W C A (truthy (.ref l)) h R := W.mk fun s tk =>
  wpAny_truthy_list (s := st s h tk) e (by simp; exact om12 hz) ⟨h, _, rfl, by simpa using x⟩
end
end
section
/-- an object's own dict -/
noncomputable def oI (es : List DictEntry) : Obj → Prop := fun o => ∃ n, o = dictOf es n
section
variable {C : Cx} {A : Around} {env : Env} {h h₀ : Heap} {P : Value → Heap → Prop} {k : Nat} {c0 fI x dx : Addr} {es : List DictEntry} {n : Nat} {name : Str} {v : Value} {M : List Addr} {L : Addr} {m : Loc} {σ : Led} {Φ : Fz → Prop}
theorem Rm.make {A : Around} {c0 : Addr} {rest : List Value} (R : Rm A (k + 1)) : Rm (A.under (.builtin "type.__call__" ⟨.ref c0 :: rest, []⟩)) k :=
  ⟨R.hd, by show A.depth + 1 + k < _; have := R.dp; exact om2 this, by show A.units + 1 + 8 * k + 200 < _; have := R.un; exact om13 this⟩
theorem make {rest : List Value} (G : GF C h) (R : Rm A (k + 1)) (hm : makesIn (KX C.w.params) c0 = true) (hi : findIn (KX C.w.params) (.ref c0) "__init__" = some (some (.ref fI))) (hf : typeIn (KX C.w.params) (.ref fI) = some (.type "function"))
    (x : ∀ A', Rm A' k → WC C A' (.ref fI) (.ref (h.objs.size + 1) :: rest) ((h.push emptyDict).push (instObj c0 h.objs.size)) (fun v h' => v = .none ∧ P (.ref (h.objs.size + 1)) h')) :
    W C A (call (.ref c0) rest) h P := W.call fun s tk => by
  obtain ⟨hh, g, d, t, os⟩ := s
  refine make_core (makes_of G.x hm) (looks_findIn G.x hi) (fun self => bind_fn G.x self hf) (.inl rfl) ?_
  refine codeAny_mono (x _ R.make _ tk) fun r s' z => ?_
  rcases r with e | (v | _ | _ | _) <;> first | exact z | skip
  obtain ⟨h', tk', rfl, rfl, z⟩ := z
  exact ⟨rfl, h', tk', rfl, z⟩
theorem made_in {Φ : Fz → Prop} (G : GF C h) (φ : ∀ F, Le h.get? F → Φ F) : In C ((h.push emptyDict).push (instObj c0 h.objs.size)) [(h.objs.size, oI [])] (fun F => F (h.objs.size + 1) = some (instObj c0 h.objs.size) ∧ Φ F) := by
  have k0 : Kb [] h ((h.push emptyDict).push (instObj c0 h.objs.size)) := (kb_push h _).trans (kb_push _ _)
  have e1 : ((h.push emptyDict).push (instObj c0 h.objs.size)).get? (h.objs.size + 1) = some (instObj c0 h.objs.size) := by
    have : ((h.push emptyDict).push (instObj c0 h.objs.size)).get? (h.push emptyDict).objs.size = some (instObj c0 h.objs.size) := Heap.get?_push_size _ rfl
    rwa [Heap.size_push] at this
  refine In.one (o := emptyDict) (G.kb k0 (by simp)) (Heap.get?_push_of_some _ (Heap.get?_push_size _ rfl)) ⟨0, rfl⟩ G.size fun F l => ⟨l _ _ (fz_of (by simp) e1), φ F fun a o e => l a o (fz_of ?_ (k0 a o e (by simp)))⟩
  simp only [List.mem_singleton]
  exact Nat.ne_of_lt (Heap.lt_size e)

theorem inst_at (hx : h.get? x = some (instObj c0 dx)) (hd : h.get? dx = some (dictOf es n)) : InstAt h x (instObj c0 dx) c0 (some (dictOf es n)) := ⟨hx, rfl, rfl, hd⟩
theorem A_get {expr : Bool} {attr : Option Value} (G : GF C h) (hx : h.get? x = some (instObj c0 dx)) (hd : At h.get? dx (oI es)) (hl : getL name es = some (some v)) (hv : handedIn v = true) (hg : plainGet (KX C.w.params) c0 name = true) (hh : hasDictIn (KX C.w.params) c0 = true)
    (ha : findIn (KX C.w.params) (.ref c0) name = some attr) (hn : noGet (KX C.w.params) attr = true) (y : P v h) : W C A (getAttr (.ref x) name expr) h P := W.mk fun s tk => by
  obtain ⟨_, hd, n, rfl⟩ := hd
  exact get_value (s := st s h tk) G.x (inst_at hx hd) (plainGet_of hg).1 (findObj_own hh ha hn hl) hv ⟨h, tk + 1, rfl, y⟩
theorem M_inst {pl : Sem Bool} {R : Value × List Value → Heap → Prop} {f : Addr} (G : GF C h) (hx : h.get? x = some (instObj c0 dx)) (hd : At h.get? dx (oI es)) (hl : getL name es = some none) (hg : plainGet (KX C.w.params) c0 name = true)
    (ha : findIn (KX C.w.params) (.ref c0) name = some (some (.ref f))) (ht : typeIn (KX C.w.params) (.ref f) = some (.type "function")) (y : R (.ref f, [.ref x]) h) : W C A (getMethod (.ref x) name pl) h R := W.mk fun s tk => by
  obtain ⟨_, hd, n, rfl⟩ := hd
  exact method_fn (s := st s h tk) G.x (inst_at hx hd) (plainGet_of hg).1 (plainGet_of hg).2 ha ht (by show (lookIn name (dictOf es n)).map _ = _; rw [lookIn_dict, hl]; rfl) ⟨h, tk, rfl, y⟩

/-- all that stands, as a list, but for some addresses -/
noncomputable def allBut (D : List Addr) (h : Heap) : List (Addr × Obj) := (List.range h.objs.size).filterMap fun a => if a ∈ D then none else (h.get? a).map (a, ·)
theorem mem_allBut {D : List Addr} {h : Heap} {q : Addr × Obj} : q ∈ allBut D h ↔ q.1 ∉ D ∧ h.get? q.1 = some q.2 := by
  obtain ⟨a, o⟩ := q
  unfold allBut
  rw [List.mem_filterMap]
  constructor
  · rintro ⟨b, hb, e⟩
    split at e
    · cases e
    · rename_i nb
      obtain ⟨o', e1, e2⟩ := Option.map_eq_some_iff.mp e
      cases e2
      exact ⟨nb, e1⟩
  · rintro ⟨n, e⟩
    exact ⟨a, List.mem_range.mpr (Heap.lt_size e), by rw [if_neg n, e]; rfl⟩
/-- an attribute is set -/
theorem A_set {R : Unit → Heap → Prop} (S : St C h₀ M L m ((dx, oI es) :: σ) Φ h) (hx : h.get? x = some (instObj c0 dx))
    (hs : findIn (KX C.w.params) (.ref c0) "__setattr__" = some (some (.builtin "object.__setattr__"))) (hp : plainOver (KX C.w.params) c0 = true) (ht : takerIn (KX C.w.params) c0 name = some none) (hh : hasDictIn (KX C.w.params) c0 = true) (hl : (getL name es).isSome = true)
    (hz : es.length < 1000)
    (y : ∀ h' t, St C h₀ M L m ((dx, oI (putL name (PyData.keyHash C.w.params name) (.str name t) v es)) :: σ) Φ h' → R () h') : W C A (setAttr (.ref x) name v) h R := W.mk fun s tk => by
  obtain ⟨_, hd, n, rfl⟩ := S.at0
  have nL : dx ≠ L := S.Lσ _ (.head _)
  have hlen : ∀ (hsh : Int) (key : Value) (l : List DictEntry), (putL name hsh key v l).length ≤ l.length + 1 := fun hsh key l => by
    induction l with
    | nil => exact Nat.le_refl _
    | cons e r ih =>
      unfold putL
      split
      · exact Nat.le_succ _
      · exact Nat.succ_le_succ ih
  have F : Fr ({} : Heap) L h (look m) := ⟨S.ns, fun b o e => by simp [Heap.get?] at e, Nat.zero_le _⟩
  have N : News ({} : Heap) L h ([] ++ (dx, dictOf es n) :: allBut [dx, L] h) := fun q hq => by
    refine ⟨?_, ?_, by simp [Heap.get?]⟩
    · rcases List.mem_cons.mp hq with rfl | hq
      · exact hd
      · exact (mem_allBut.mp hq).2
    · rcases List.mem_cons.mp hq with rfl | hq
      · exact nL
      · exact fun e => (mem_allBut.mp hq).1 (by rw [e]; simp)
  refine set_plain (s := st s h tk) S.g.x (inst_at hx hd) hs (osa_dict (s := { st s h tk with toks := tk + 1 }) (od' := dictOf (putL name (PyData.keyHash C.w.params name) (.str name (tk + 1)) v es) (putN name es n)) F N S.g.x (inst_at hx hd) rfl hp ht hh hl
    (fun p hp => nomatch hp) (fun p hp e => (mem_allBut.mp hp).1 (by rw [e]; simp)) (putName_dict ..) rfl (Nat.le_trans (hlen ..) hz) fun h' F' N' => ?_)
  refine ⟨h', tk + 2, rfl, y h' (tk + 1) ?_⟩
  refine S.turnL (D := [dx]) F'.ns (fun a o e hn => (N' (a, o) (.tail _ (mem_allBut.mpr ⟨fun q => hn ?_, e⟩))).1) (by simp) rfl fun q hq => ?_
  · simp only [List.mem_cons, List.not_mem_nil, or_false] at q ⊢; exact q.symm
  · rcases List.mem_cons.mp hq with rfl | hq
    · exact ⟨_, (N' _ (.head _)).1, _, rfl⟩
    · obtain ⟨o, ho, z⟩ := S.own q (.tail _ hq)
      refine ⟨o, (N' (q.1, o) (.tail _ (mem_allBut.mpr ⟨fun e => ?_, ho⟩))).1, z⟩
      simp only [List.mem_cons, List.not_mem_nil, or_false] at e
      rcases e with e | e
      · exact (List.nodup_cons.mp S.ndσ).1 (e ▸ List.mem_map_of_mem (f := (·.1)) hq)
      · exact S.Lσ q (.tail _ hq) e
end
end
section
/-- a kind of iterator: what its object is at the i-th turn, what it leans on, the items -/
structure Itr (C : Cx) (I : Addr) (n : Nat) (Pv : Nat → Value → Prop) (oit : Nat → Obj → Prop) (Fact : Fz → Prop) : Prop where
  next : ∀ (A : Around) (h : Heap) (i : Nat) (Q : Option Value → Heap → Prop), A.handled = none → i < n → Fact h.get? → At h.get? I (oit i) →
    (∀ v h', Pv i v → Kb [I] h h' → At h'.get? I (oit (i + 1)) → Q (some v) h') → W C A (pyNext (.ref I)) h Q
  done : ∀ (A : Around) (h : Heap) (Q : Option Value → Heap → Prop), A.handled = none → Fact h.get? → At h.get? I (oit n) →
    (∀ h', Kb [I] h h' → Q none h') → W C A (pyNext (.ref I)) h Q
  self : ∀ (A : Around) (h : Heap) (Q : Value → Heap → Prop), A.handled = none → Fact h.get? → At h.get? I (oit 0) → Q (.ref I) h → W C A (pyIter (.ref I)) h Q
  own : ∀ (A : Around) (h : Heap) (i : Nat) (t : Expr) (v : Value) (Q : Unit → Heap → Prop), At h.get? I (oit i) → Q () h → W C A (letOwnedTupleGo t (.ref I) v) h Q

noncomputable def oNs (m : Loc) : Obj → Prop := fun o => ∃ es ep, o.data = .dict es ep ∧ StrKeys es ∧ ∀ name, nsFind es name = look m name
theorem at_ns {h : Heap} {L : Addr} {m : Loc} (n : h.Ns L (look m)) : ∃ o, h.get? L = some o ∧ oNs m o := let ⟨o, es, ep, a, b, c, d⟩ := n; ⟨o, a, es, ep, b, c, d⟩
theorem ns_at {h : Heap} {L : Addr} {m : Loc} (n : ∃ o, h.get? L = some o ∧ oNs m o) : h.Ns L (look m) := let ⟨o, a, es, ep, b, c, d⟩ := n; ⟨o, es, ep, a, b, c, d⟩

section
variable {C : Cx} {A : Around} {env : Env} {h h₀ : Heap} {M : List Addr} {L : Addr} {m : Loc} {σ σ' : Led} {Φ Φ' : Fz → Prop} {Q : Flow → Heap → Prop} {P : Value → Heap → Prop} {rest : List Stmt} {I : Addr} {n : Nat} {Pv : Nat → Value → Prop} {oit : Nat → Obj → Prop} {Fact : Fz → Prop}

/-- an end that is held by a letter: what the next step asks -/
structure Nx (R : Flow → Heap → Prop) (K : Heap → Prop) : Prop where
  go : ∀ {h : Heap}, K h → R .next h
theorem X_nilK {R : Flow → Heap → Prop} {K : Heap → Prop} (k : Nx R K) (x : K h) : W C A (execs [] env) h R := X_nil (k.go x)
inductive TurnI (C : Cx) (A : Around) (h₀ : Heap) (M : List Addr) (L : Addr) (target : Expr) (env : Env) (body : List Stmt) (I : Addr) (i : Nat) (Pv : Nat → Value → Prop) (oit : Nat → Obj → Prop) (Fact : Fz → Prop) (K : Heap → Prop) (h : Heap) : Prop
  | mk (m : Loc) (σ : Led) (Φ : Fz → Prop) (S : St C h₀ M L m ((I, oit i) :: σ) Φ h) (f : Fact h.get?)
    (y : ∀ R, Nx R K → ∀ v h', Pv i v → St C h₀ M L m ((I, oit (i + 1)) :: σ) Φ h' → W C A (assign target env v) h' (fun _ h3 => W C A (execs body env) h3 R))
inductive DoneI (C : Cx) (A : Around) (h₀ : Heap) (M : List Addr) (L : Addr) (env : Env) (rest : List Stmt) (Q : Flow → Heap → Prop) (I : Addr) (n : Nat) (oit : Nat → Obj → Prop) (Fact : Fz → Prop) (h : Heap) : Prop
  | mk (m : Loc) (σ : Led) (Φ : Fz → Prop) (S : St C h₀ M L m ((I, oit n) :: σ) Φ h) (f : Fact h.get?) (y : ∀ h', St C h₀ M L m σ Φ h' → W C A (execs rest env) h' Q)
inductive ForI (C : Cx) (A : Around) (h₀ : Heap) (M : List Addr) (L : Addr) (target : Expr) (env : Env) (body rest : List Stmt) (Q : Flow → Heap → Prop) (it : Value) (h2 : Heap) : Prop
  | mk (I : Addr) (n : Nat) (Pv : Nat → Value → Prop) (oit : Nat → Obj → Prop) (Fact : Fz → Prop) (J : Nat → Heap → Prop) (e : it = .ref I) (T : Itr C I n Pv oit Fact) (hh : A.handled = none) (h0 : J 0 h2)
    (turn : ∀ i h, i < n → J i h → TurnI C A h₀ M L target env body I i Pv oit Fact (J (i + 1)) h) (done : ∀ h, J n h → DoneI C A h₀ M L env rest Q I n oit Fact h)
/-- a for over an iterator of a known kind -/
theorem X_forI {target iter : Expr} {body : List Stmt} {pos : Pos} (x : W C A (eval iter env) h (fun xv h1 => W C A (pyIter xv) h1 (ForI C A h₀ M L target env body rest Q)))
    (hs : ∀ x, foldedSetIterable iter env x = pure x := by intro _; with_unfolding_all rfl) : W C A (execs (.For target iter body [] pos :: rest) env) h Q := by
  refine X_for ?_ hs
  refine x.mono fun xv h1 y => y.mono fun it h2 z => ?_
  obtain ⟨I, n, Pv, oit, Fact, J, rfl, T, hh, h0, turn, done⟩ := z
  refine ⟨n, J, h0, fun i h hi hJ => ?_, fun h hJ => ?_⟩
  · obtain ⟨m, σ, Φ, S, f, z⟩ := turn i h hi hJ
    refine T.next A h i _ hh hi f S.at0 fun v h' pv k e => ⟨v, rfl, T.own _ _ _ _ _ _ e ?_⟩
    exact z _ ⟨fun x => x⟩ v h' pv (S.put0 k e)
  · obtain ⟨m, σ, Φ, S, f, z⟩ := done h hJ
    exact T.done A h _ hh f S.at0 fun h' k => ⟨rfl, z h' (S.drop0 k)⟩

/-- into a comprehension's own frame -/
theorem St.inside {h3 : Heap} {D Cc : Addr} (S : St C h₀ M L m ((I, oit 0) :: σ) Φ h) (hD : h.objs.size ≤ D) (hC : h.objs.size ≤ Cc) (hDC : D ≠ Cc) (k : Kb [] h h3) (hd : At h3.get? D (oL [])) (hn : h3.Ns Cc (look [])) :
    St C h (L :: I :: ads σ) Cc [] ((D, oL []) :: (I, oit 0) :: (L, oNs m) :: σ) Φ h3 := by
  have lt := S.lt
  have nd := S.nd
  have k' : ∀ b o, h.get? b = some o → h3.get? b = some o := fun b o e => k b o e (by simp)
  have own' : ∀ q ∈ ((D, oL []) :: (I, oit 0) :: (L, oNs m) :: σ : Led), ∃ o, h3.get? q.1 = some o ∧ q.2 o := fun q hq => by
    rcases List.mem_cons.mp hq with rfl | hq
    · exact hd
    rcases List.mem_cons.mp hq with rfl | hq
    · obtain ⟨o, a, b⟩ := S.at0; exact ⟨o, k' _ _ a, b⟩
    rcases List.mem_cons.mp hq with rfl | hq
    · obtain ⟨o, a, b⟩ := at_ns S.ns; exact ⟨o, k' _ _ a, b⟩
    · obtain ⟨o, a, b⟩ := S.own q (.tail _ hq); exact ⟨o, k' _ _ a, b⟩
  have mem : ∀ a, a ∈ I :: L :: ads σ ↔ a ∈ L :: I :: ads σ := fun a => by simp only [List.mem_cons]; constructor <;> (rintro (q | q | q) <;> simp [q])
  refine ⟨S.g, hn, fun b o e _ => k' b o e, own', ?_, fun q hq => ?_, hC, S.g.size, fun a ha => ?_, fun F l => S.φ F (Le.trans (fz_kb k (by simp) fun a q => ?_) l)⟩
  · have h1 : Cc ∉ L :: I :: ads σ := fun q => absurd (lt Cc q) (Nat.not_lt.mpr hC)
    have h2 : D ∉ L :: I :: ads σ := fun q => absurd (lt D q) (Nat.not_lt.mpr hD)
    refine List.nodup_cons.mpr ⟨fun q => ?_, List.nodup_cons.mpr ⟨fun q => h2 ((mem D).mp q), ?_⟩⟩
    · rcases List.mem_cons.mp q with q | q
      · exact hDC q.symm
      · exact h1 ((mem Cc).mp q)
    · have h3 := List.nodup_cons.mp nd
      have h4 := List.nodup_cons.mp h3.2
      refine List.nodup_cons.mpr ⟨fun q => ?_, List.nodup_cons.mpr ⟨fun q => h3.1 (.tail _ q), h4.2⟩⟩
      rcases List.mem_cons.mp q with q | q
      · exact h3.1 (by rw [show L = I from q.symm]; exact .head _)
      · exact h4.1 q
  · rcases List.mem_cons.mp hq with rfl | hq
    · exact .inr hD
    · exact .inl ((mem _).mp (List.mem_map_of_mem (f := (·.1)) hq))
  · rcases List.mem_cons.mp ha with rfl | ha
    · exact S.L5
    · obtain ⟨p, hp, rfl⟩ := List.mem_map.mp (show a ∈ ads ((I, oit 0) :: σ) from ha)
      exact S.q5 p hp
  · rcases List.mem_cons.mp q with rfl | q
    · exact .inr hC
    rcases List.mem_cons.mp q with rfl | q
    · exact .inr hD
    · exact .inl ((mem a).mp q)
/-- .. and out again -/
theorem St.outside {h' : Heap} {D Cc : Addr} {m' : Loc} {P0 : Obj → Prop} (S : St C h₀ M L m ((I, oit 0) :: σ) Φ h) (hD : h.objs.size ≤ D) (S' : St C h (L :: I :: ads σ) Cc m' ((D, P0) :: (L, oNs m) :: σ') Φ' h') (e : ads σ' = ads σ) :
    St C h₀ M L m ((D, P0) :: σ') Φ' h' := by
  have hsz := S.size
  have own' : ∀ q ∈ ((D, P0) :: σ' : Led), ∃ o, h'.get? q.1 = some o ∧ q.2 o := fun q hq => by
    rcases List.mem_cons.mp hq with rfl | hq
    · exact S'.own _ (.head _)
    · exact S'.own q (.tail _ (.tail _ hq))
  refine ⟨S.g0, ns_at (S'.own (L, oNs m) (.tail _ (.head _))), fun b o eb nb => S'.kb b o (S.kb b o eb nb) fun q => ?_, own', ?_, fun q hq => ?_, S.l0, S.s5, S.mm, fun F l => S'.φ F (Le.trans (fun a o ea => ?_) l)⟩
  · have hb := Heap.lt_size eb
    rcases List.mem_cons.mp q with rfl | q
    · exact absurd hb (Nat.not_lt.mpr S.l0)
    · obtain ⟨p, hp, rfl⟩ := List.mem_map.mp (show b ∈ ads ((I, oit 0) :: σ) from q)
      rcases S.hi p hp with z | z
      · exact nb z
      · exact absurd hb (Nat.not_lt.mpr z)
  · have h2 : D ∉ L :: I :: ads σ := fun q => absurd (S.lt D q) (Nat.not_lt.mpr hD)
    have nd := S.nd
    show (L :: D :: ads σ').Nodup
    rw [e]
    have h3 := List.nodup_cons.mp nd
    refine List.nodup_cons.mpr ⟨fun q => ?_, List.nodup_cons.mpr ⟨fun q => h2 (.tail _ (.tail _ q)), (List.nodup_cons.mp h3.2).2⟩⟩
    rcases List.mem_cons.mp q with q | q
    · exact h2 (by rw [show D = L from q.symm]; exact .head _)
    · exact h3.1 (.tail _ q)
  · rcases List.mem_cons.mp hq with rfl | hq
    · exact .inr (Nat.le_trans hsz hD)
    · have : q.1 ∈ ads ((I, oit 0) :: σ) := .tail _ (show q.1 ∈ ads σ from e ▸ List.mem_map_of_mem (f := (·.1)) hq)
      obtain ⟨p, hp, e1⟩ := List.mem_map.mp this
      rw [← e1]; exact S.hi p hp
  · obtain ⟨n, ea⟩ := fz_some ea
    refine fz_of (fun q => n ?_) ea
    simp only [ads, List.map_cons, List.mem_cons] at q ⊢
    rcases q with q | q | q <;> simp [q]

noncomputable def tests (ifs : List Expr) (env : Env) : Sem Bool := forIn ifs true fun c r => if r = true then do let ok ← isTrue c env (eval c env); pure (ForInStep.yield ok) else pure (ForInStep.yield r)
theorem ts_nil {R : Bool → Heap → Prop} (x : R true h) : W C A (tests [] env) h R := W.mk fun s tk => wpAny_tests_nil ⟨h, tk, rfl, x⟩
theorem ts_one {c : Expr} {R : Bool → Heap → Prop} (x : W C A (isTrue c env (eval c env)) h R) : W C A (tests [c] env) h R := W.mk fun s tk => wpAny_tests_one (x.1 s tk)

/-- what an item of a comprehension leaves -/
inductive CompI (C : Cx) (h : Heap) (ls : List Addr) (Cc D : Addr) (acc : List Value) (I : Addr) (o' : Obj → Prop) (K : List Value → Heap → Prop) (y : Value) (h4 : Heap) : Prop
  | mk (m' : Loc) (σ' : Led) (Φ' : Fz → Prop) (S : St C h ls Cc m' ((D, oL acc) :: (I, o') :: σ') Φ' h4) (hz : acc.length ≤ 1000000) (z : ∀ h5, St C h ls Cc m' ((D, oL (acc ++ [y])) :: (I, o') :: σ') Φ' h5 → K (acc ++ [y]) h5)
inductive CompT (C : Cx) (A : Around) (h : Heap) (ls : List Addr) (Cc D : Addr) (acc : List Value) (I : Addr) (i : Nat) (Pv : Nat → Value → Prop) (oit : Nat → Obj → Prop) (Fact : Fz → Prop) (target elt : Expr) (ifs : List Expr) (env : Env) (K : List Value → Heap → Prop) (h' : Heap) : Prop
  | mk (m' : Loc) (σ' : Led) (Φ' : Fz → Prop) (S : St C h ls Cc m' ((D, oL acc) :: (I, oit i) :: σ') Φ' h') (f : Fact h'.get?)
    (y : ∀ v h1, Pv i v → St C h ls Cc m' ((D, oL acc) :: (I, oit (i + 1)) :: σ') Φ' h1 → W C A (assign target env v) h1 (fun _ h2 => W C A (tests ifs env) h2 (fun b h3 =>
      (b = false → K acc h3) ∧ (b = true → W C A (eval elt env) h3 (CompI C h ls Cc D acc I (oit (i + 1)) K)))))
/-- what a comprehension's turns keep -/
structure Comp (C : Cx) (A : Around) (h : Heap) (ls : List Addr) (I : Addr) (n : Nat) (Pv : Nat → Value → Prop) (oit : Nat → Obj → Prop) (Fact : Fz → Prop) (target elt : Expr) (ifs : List Expr) (cenv : Addr → Env) (J : Addr → Addr → Nat → List Value → Heap → Prop) (D Cc : Addr) : Prop where
  turn : ∀ i acc h', i < n → J D Cc i acc h' → CompT C A h ls Cc D acc I i Pv oit Fact target elt ifs (cenv Cc) (J D Cc (i + 1)) h'
inductive CompD (C : Cx) (h2 : Heap) (L I : Addr) (σ : Led) (n : Nat) (oit : Nat → Obj → Prop) (m : Loc) (Fact : Fz → Prop) (Cc D : Addr) (acc : List Value) (Fin : Led → (Fz → Prop) → Prop) (h1 : Heap) : Prop
  | mk (m' : Loc) (σ' : Led) (Φ' : Fz → Prop) (e : ads σ' = ads σ) (S : St C h2 (L :: I :: ads σ) Cc m' ((D, oL acc) :: (I, oit n) :: (L, oNs m) :: σ') Φ' h1) (f : Fact h1.get?) (z : Fin σ' Φ')
inductive CompE (C : Cx) (A : Around) (h₀ : Heap) (M : List Addr) (L : Addr) (target elt : Expr) (ifs : List Expr) (cenv : Addr → Env) (Fin : Loc → Addr → List Value → Led → (Fz → Prop) → Prop) (it : Value) (h2 : Heap) : Prop
  | mk (I : Addr) (n : Nat) (Pv : Nat → Value → Prop) (oit : Nat → Obj → Prop) (Fact : Fz → Prop) (m : Loc) (σ : Led) (Φ : Fz → Prop) (J : Addr → Addr → Nat → List Value → Heap → Prop) (e : it = .ref I) (T : Itr C I n Pv oit Fact) (hh : A.handled = none)
    (hF : ∀ h' : Heap, (∀ q ∈ σ, At h'.get? q.1 q.2) → Φ h'.get? → Fact h'.get?) (S : St C h₀ M L m ((I, oit 0) :: σ) Φ h2)
    (h0 : ∀ D Cc h3, h2.objs.size ≤ D → St C h2 (L :: I :: ads σ) Cc [] ((D, oL []) :: (I, oit 0) :: (L, oNs m) :: σ) Φ h3 → J D Cc 0 [] h3)
    (B : ∀ D Cc, h2.objs.size ≤ D → Comp C A h2 (L :: I :: ads σ) I n Pv oit Fact target elt ifs cenv J D Cc)
    (done : ∀ D Cc acc h1, h2.objs.size ≤ D → J D Cc n acc h1 → CompD C h2 L I σ n oit m Fact Cc D acc (Fin m D acc) h1)

theorem comp_loop {elt target iter : Expr} {ifs : List Expr} {scope : Scope} {pos : Pos} {cl : List (Str × Addr)} {D Cc : Addr} {J : Addr → Addr → Nat → List Value → Heap → Prop} {h' : Heap} {R : Result → Shared → Prop}
    (T : Itr C I n Pv oit Fact) (hh : A.handled = none) (B : Comp C A h (L :: I :: ads σ) I n Pv oit Fact target elt ifs (fun Cc => compEnvC scope cl Cc env) J D Cc) (h0 : J D Cc 0 [] h') (s : Shared) (tk : Nat)
    (done : ∀ acc h1, J D Cc n acc h1 → ∃ m' σ' Φ', St C h (L :: I :: ads σ) Cc m' ((D, oL acc) :: (I, oit n) :: σ') Φ' h1 ∧ Fact h1.get? ∧ ∀ h2 tk2, St C h (L :: I :: ads σ) Cc m' ((D, oL acc) :: σ') Φ' h2 → R (.ok .next) (st s h2 tk2))
    (ht : ∀ v, letOwnedTupleGo target (.ref I) v = pure ()) :
    codeAny (model PR C.w) A (.compLoop (.ListComp elt [⟨target, iter, ifs, 0⟩] scope pos) 0 (.ref I) (.ref D) (compEnvC scope cl Cc env)) R (st s h' tk) := by
  refine codeAny_compLoop_tests (fun k s' => ∃ i acc h1 tk1, s' = st s h1 tk1 ∧ k = n + 1 - i ∧ i ≤ n ∧ J D Cc i acc h1) (fun k s' => ?_) (n + 1) ⟨0, [], h', tk, rfl, rfl, Nat.zero_le _, h0⟩ ht
  rintro ⟨i, acc, h1, tk1, rfl, rfl, hi, hJ⟩
  by_cases hlt : i < n
  · obtain ⟨m', σ', Φ', S, f, z⟩ := B.turn i acc h1 hlt hJ
    refine (T.next A h1 i (fun r h2 => ∃ v, r = some v ∧ Pv i v ∧ Kb [I] h1 h2 ∧ At h2.get? I (oit (i + 1))) hh hlt f S.at1 fun v h2 pv k e => ⟨v, rfl, pv, k, e⟩).run fun r h2 t2 y => ?_
    obtain ⟨v, rfl, pv, k, e⟩ := y
    refine (z v h2 pv (S.put1 k e)).run fun _ h3 t3 y => y.run fun b h4 t4 y => ?_
    cases b with
    | false =>
      rw [if_neg Bool.false_ne_true]
      exact ⟨n + 1 - (i + 1), by exact om4 hlt, i + 1, acc, h4, t4, rfl, rfl, hlt, y.1 rfl⟩
    | true =>
      rw [if_pos rfl]
      refine (y.2 rfl).run fun yv h5 t5 y => ?_
      obtain ⟨m2, σ2, Φ2, S2, hz, y⟩ := y
      refine (O_append (P := fun _ h6 => J D Cc (i + 1) (acc ++ [yv]) h6) S2.at0 (Nat.le_trans hz (by decide)) fun h6 k6 e6 => y h6 (S2.put0 k6 e6)).run fun _ h6 t6 y => ?_
      exact ⟨n + 1 - (i + 1), by exact om4 hlt, i + 1, _, h6, t6, rfl, rfl, hlt, y⟩
  · obtain rfl : i = n := by exact om5 hi hlt
    obtain ⟨m', σ', Φ', S, f, z⟩ := done acc h1 hJ
    refine (T.done A h1 (fun r h2 => r = none ∧ St C h (L :: I :: ads σ) Cc m' ((D, oL acc) :: σ') Φ' h2) hh f S.at1 fun h2 k => ⟨rfl, S.drop1 k⟩).run fun r h2 t2 y => ?_
    obtain ⟨rfl, S2⟩ := y
    exact z h2 t2 S2

/-- an object that is nobody's is turned -/
theorem St.off {Cc : Addr} {h' : Heap} (S : St C h₀ M L m σ Φ h) (n5 : Cc ∉ L :: ads σ) (hC : h₀.objs.size ≤ Cc) (hs : Heap.SameBut Cc h h') (φ : ∀ F, Le (fz (Cc :: L :: ads σ) h) F → Φ F) : St C h₀ M L m σ Φ h' := by
  have k6 : Kb [Cc] h h' := kb_same hs
  refine ⟨S.g0, Ns_kb S.ns k6 (by simp only [List.mem_singleton]; exact fun q => n5 (q ▸ .head _)), fun b o eb nb => k6 b o (S.kb b o eb nb) ?_, fun q hq => ?_, S.nd, S.hi, S.l0, S.s5, S.mm, fun F l => φ F (Le.trans (fun a o ea => ?_) l)⟩
  · simp only [List.mem_singleton]
    intro q
    exact absurd (Heap.lt_size eb) (by rw [q]; exact Nat.not_lt.mpr hC)
  · obtain ⟨o, ho, hp⟩ := S.own q hq
    refine ⟨o, k6 _ _ ho ?_, hp⟩
    simp only [List.mem_singleton]
    exact fun e => n5 (.tail _ (e ▸ List.mem_map_of_mem (f := (·.1)) hq))
  · obtain ⟨na, ea⟩ := fz_some ea
    exact fz_of (fun q => na (.tail _ q)) ((hs.2 a fun q => na (q ▸ .head _)).trans ea)
theorem comp_core {elt iter : Expr} {tx : Str} {tp : Pos} {ifs : List Expr} {scope : Scope} {pos pos' : Pos} {cl : List (Str × Addr)} {use : Option (Value → Sem Unit)} {Qf : Value → Shared → Prop} {Fin : Loc → Addr → List Value → Led → (Fz → Prop) → Prop}
    (x : W C A (eval iter env) h (fun xv h1 => W C A (pyIter xv) h1 (CompE C A h₀ M L (.Name tx tp) elt ifs (fun Cc => compEnvC scope cl Cc env) Fin)))
    (hclos : closureFor scope env = pure cl) (hcell : (scope.names.all fun y => y.2 != .cell) = true) (hkind : scope.kind = .function) (hnames : (scope.names.all fun y => y.2 != .local || scope.names.lookup y.1 == some .local) = true)
    (hs : ∀ x, foldedSetIterable iter env x = pure x) (s : Shared) (tk : Nat)
    (fin : ∀ (m : Loc) (σ' : Led) (Φ' : Fz → Prop) (D Cc : Addr) (acc : List Value) (m' : Loc) (h5 : Heap) (tk5 : Nat), Fin m D acc σ' Φ' → St C h₀ M L m ((D, oL acc) :: σ') Φ' h5 → Cc ∉ L :: ads ((D, oL acc) :: σ') → h₀.objs.size ≤ Cc → h5.Ns Cc (look m') →
      (∀ F, Le (fz (Cc :: L :: ads ((D, oL acc) :: σ')) h5) F → Φ' F) → compPost (model PR C.w) A (fun _ _ => False) use Qf (.ref D) Cc (.ok .next) (st s h5 tk5)) :
    wpAny (model PR C.w) A (comprehension (.ListComp elt [⟨.Name tx tp, iter, ifs, 0⟩] scope pos) scope env pos' (newList []) false (eval iter env) use) Qf (fun _ _ => False) (st s h tk) := by
  refine wpAny_comprehension_free (use := use) rfl hs hclos hkind (fun y hy e => by
    have := List.all_eq_true.mp hnames y hy
    simpa [e] using this) (x.run fun xv h1 t1 y => y.run fun it h2 t2 z => ?_)
  obtain ⟨I, n, Pv, oit, Fact, m, σ, Φ, J, rfl, T, hh, hF, S, h0, B, done⟩ := z
  have hC' : ∀ y ∈ scope.names, y.2 ≠ .cell := fun y hy => by simpa using List.all_eq_true.mp hcell y hy
  refine wpAny_newObj_type (wpAny_newFunctionEnv hC' (by intro y hy; simp at hy) (fun h₁ hns₁ hsb₁ => ?_) hkind)
  dsimp only [st_heap, st_toks] at hns₁ hsb₁ ⊢
  generalize hH2 : h2.push { cls := .type "list", dict := none, data := .seq ([] : List Value).toArray } = H2 at hns₁ hsb₁ ⊢
  have hC : H2.objs.size = h2.objs.size + 1 := by rw [← hH2, Heap.size_push]
  have k3 : Kb [] h2 h₁ := fun b o e _ => hsb₁.extBut b o (by rw [hC]; exact Nat.ne_of_lt (Nat.lt_succ_of_lt (Heap.lt_size e))) (Heap.get?_push_of_some _ (hH2 ▸ Heap.get?_push_of_some _ e))
  have eD : At h₁.get? h2.objs.size (oL []) := ⟨_, hsb₁.extBut _ _ (by rw [hC]; exact Nat.ne_of_lt (Nat.lt_succ_self _)) (Heap.get?_push_of_some _ (hH2 ▸ Heap.get?_push_size _ rfl)), 0, rfl⟩
  have S3 := S.inside (D := h2.objs.size) (Cc := H2.objs.size) (Nat.le_refl _) (by rw [hC]; exact Nat.le_succ _) (by rw [hC]; exact Nat.ne_of_lt (Nat.lt_succ_self _)) k3 eD hns₁
  have loop : ∀ (s₃ : Shared) (t3 : Nat), s₃ = st s h₁ t3 →
      codeAny (model PR C.w) A (.compLoop (.ListComp elt [⟨.Name tx tp, iter, ifs, 0⟩] scope pos) 0 (.ref I) (.ref h2.objs.size) (compEnvC scope cl H2.objs.size env))
        (compPost (model PR C.w) A (fun _ _ => False) use Qf (.ref h2.objs.size) H2.objs.size) s₃ := by
    rintro s₃ t3 rfl
    refine comp_loop T hh (B _ _ (Nat.le_refl _)) (h0 _ _ _ (Nat.le_refl _) S3) s _ (fun acc h1 hJ => ?_) (fun v => rfl)
    obtain ⟨m', σ', Φ', e, S4, f, z⟩ := done _ _ acc h1 (Nat.le_refl _) hJ
    refine ⟨m', _, Φ', S4, f, fun h5 tk5 S5 => ?_⟩
    have n5 : H2.objs.size ∉ L :: ads ((h2.objs.size, oL acc) :: σ') := fun q => by
      refine (List.nodup_cons.mp S5.nd).1 ?_
      simp only [ads, List.map_cons, List.mem_cons] at q ⊢
      rcases q with q | q | q <;> simp [q]
    exact fin m σ' Φ' _ _ acc m' h5 tk5 z (S.outside (Nat.le_refl _) S5 e) n5 (Nat.le_trans S.size (by rw [hC]; exact Nat.le_succ _)) S5.ns fun F l => S5.φ F (Le.trans (fun a o ea => by
      obtain ⟨na, ea⟩ := fz_some ea
      refine fz_of (fun q => na ?_) ea
      simp only [ads, List.map_cons, List.mem_cons] at q ⊢
      rcases q with q | q | q | q <;> simp [q]) l)
  refine codeAny_compStart_list (loop _ _ rfl) ?_
  refine ((T.self A h₁ (fun v h' => v = .ref I ∧ h' = h₁) hh (hF _ (fun q hq => S3.own q (.tail _ (.tail _ (.tail _ hq)))) S3.now) S3.at1 ⟨rfl, rfl⟩).1 s (t2 + ([] : List (Str × Value)).length) |> fun y => wpAny_mono y (fun v s' hv => ?_) fun _ _ f => f.elim)
  obtain ⟨h', tk', rfl, rfl, rfl⟩ := hv
  exact loop _ _ rfl
theorem E_comp {elt iter : Expr} {tx : Str} {tp : Pos} {ifs : List Expr} {scope : Scope} {pos : Pos} {cl : List (Str × Addr)}
    (x : W C A (eval iter env) h (fun xv h1 => W C A (pyIter xv) h1 (CompE C A h₀ M L (.Name tx tp) elt ifs (fun Cc => compEnvC scope cl Cc env) (fun m D acc σ' Φ' => ∀ h', St C h₀ M L m ((D, oL acc) :: σ') Φ' h' → P (.ref D) h'))))
    (hclos : closureFor scope env = pure cl) (hcell : (scope.names.all fun y => y.2 != .cell) = true) (hkind : scope.kind = .function) (hnames : (scope.names.all fun y => y.2 != .local || scope.names.lookup y.1 == some .local) = true)
    (hs : ∀ x, foldedSetIterable iter env x = pure x := by intro _; with_unfolding_all rfl) :
    W C A (eval (.ListComp elt [⟨.Name tx tp, iter, ifs, 0⟩] scope pos) env) h P := W.mk fun s tk => by
  rw [eval_ListComp]
  exact comp_core (use := none) (Qf := fun a s' => ∃ h' tk', s' = st s h' tk' ∧ P a h') x hclos hcell hkind hnames hs s tk fun m σ' Φ' D Cc acc m' h5 tk5 z S6 n5 hC ns φ => ⟨look m', ns, fun h6 hs6 => ⟨h6, tk5, rfl, z h6 (S6.off n5 hC hs6 φ)⟩⟩
theorem X_assignC {elt iter : Expr} {tx y : Str} {tp py spos : Pos} {ifs : List Expr} {scope : Scope} {pos : Pos} {cl : List (Str × Addr)}
    (x : W C A (eval iter env) h (fun xv h1 => W C A (pyIter xv) h1 (CompE C A h₀ M env.locals (.Name tx tp) elt ifs (fun Cc => compEnvC scope cl Cc env) (fun m D acc σ' Φ' => ∀ h', St C h₀ M env.locals (upd m y (.ref D)) ((D, oL acc) :: σ') Φ' h' → W C A (execs rest env) h' Q))))
    (hsw : swapsWith (.ListComp elt [⟨.Name tx tp, iter, ifs, 0⟩] scope pos) (some (.Name y py)) spos.line env = pure true) (hy : env.kindOf y = some .local) (hkf : env.scope.kind = .function)
    (hclos : closureFor scope env = pure cl) (hcell : (scope.names.all fun y => y.2 != .cell) = true) (hkind : scope.kind = .function) (hnames : (scope.names.all fun y => y.2 != .local || scope.names.lookup y.1 == some .local) = true)
    (hs : ∀ x, foldedSetIterable iter env x = pure x := by intro _; with_unfolding_all rfl) :
    W C A (execs (.Assign [.Name y py] (.ListComp elt [⟨.Name tx tp, iter, ifs, 0⟩] scope pos) spos :: rest) env) h Q := X_cons <| W.mk fun s tk => by
  rw [exec_Assign_Name_used _ _ _ _ hsw]
  refine wpAny_bind (wpAny_standAt (wpAny_bind ?_))
  show wpAny _ A (do let _ ← comprehension (.ListComp elt [⟨.Name tx tp, iter, ifs, 0⟩] scope pos) scope env _ (newList []) false (eval iter env) (some (assign (.Name y py) env))) _ _ _
  refine wpAny_bind (wpAny_mono (comp_core (use := some (assign (.Name y py) env)) (Qf := fun _ s' => ∃ h' tk', s' = st s h' tk' ∧ W C A (execs rest env) h' Q) x hclos hcell hkind hnames hs s tk fun m σ' Φ' D Cc acc m' h5 tk5 z S6 n5 hC ns φ => ?_) (fun _ s' hq => wpAny_pure (wpAny_pure hq)) fun _ _ e => e)
  show wpAny _ A (assign (.Name y py) env (.ref D)) _ _ _
  refine wpAny_assign_Name (wpAny_storeName_local hy (s := st s h5 tk5) S6.ns (fun h7 hn7 hs7 => ?_) (by rw [hkf]; rfl))
  have k7 : Kb [env.locals] h5 h7 := kb_same hs7
  have S7 := S6.loc (by rw [← look_upd]; exact hn7) k7
  refine ⟨look m', Ns_kb ns k7 (by simp only [List.mem_singleton]; exact fun q => n5 (q ▸ .head _)), fun h8 hs8 => ⟨h8, tk5 + 1, rfl, z h8 ?_⟩⟩
  refine S7.off n5 hC hs8 fun F l => φ F (Le.trans (fun a o ea => ?_) l)
  obtain ⟨na, ea⟩ := fz_some ea
  refine fz_of na (k7 a o ea ?_)
  simp only [List.mem_singleton]
  exact fun q => na (by rw [q]; simp [ads])
end
end
section
section
variable {C : Cx} {A : Around} {env : Env} {h h₀ : Heap} {I : Addr}
theorem own_plain {T : String} {vs : Array Value} {o : Obj} {t : Expr} {v : Value} {Q : Unit → Heap → Prop} (ho : h.get? I = some o) (hc : o.cls = .type T) (hd : o.data = .fields vs)
    (hn : ["enumerate", "zip", "dict_itemiterator", "dict_reverseitemiterator", "odict_iterator", "itertools.zip_longest", "itertools.pairwise"].contains T = false) (q : Q () h) : W C A (letOwnedTupleGo t (.ref I) v) h Q := by
  have go : ∀ a, W C A (do
      let o ← load I
      match o.cls, o.data with
      | .type n, .fields vs =>
        if ["enumerate", "zip", "dict_itemiterator", "dict_reverseitemiterator", "odict_iterator", "itertools.zip_longest", "itertools.pairwise"].contains n && vs[0]? == some (rawInt a) then
          rule "for.unpacks-the-owned-tuple"
          updateField I 0 .none
      | _, _ => pure ()) h Q := fun a => W.mk fun s tk => by
    refine wpAny_bind (wpAny_load (s := st s h tk) ho ?_)
    rw [hc, hd]
    dsimp only
    rw [hn]
    exact wpAny_pure ⟨h, tk, rfl, q⟩
  have stop : W C A (pure () : Sem Unit) h Q := W.pure q
  unfold letOwnedTupleGo
  cases t <;> first | exact stop | (cases v <;> first | exact stop | exact go _)

theorem Itr.ofWalks {fp : List Addr} {n : Nat} {Pv : Nat → Value → Prop} {oit : Nat → Obj → Prop} {Fact : Fz → Prop} {Sti : Nat → Heap → Prop} {T : String} {vs : Nat → Array Value}
    (X : ∀ A, A.handled = none → Walks PR C.w A I fp [I] n Pv Sti) (to : ∀ i h, Fact h.get? → At h.get? I (oit i) → Sti i h) (fr : ∀ i h, Sti i h → At h.get? I (oit i))
    (hc : ∀ i o, oit i o → o.cls = .type T) (hd : ∀ i o, oit i o → o.data = .fields (vs i))
    (hn : ["enumerate", "zip", "dict_itemiterator", "dict_reverseitemiterator", "odict_iterator", "itertools.zip_longest", "itertools.pairwise"].contains T = false) : Itr C I n Pv oit Fact where
  next := fun A h i Q hh hi f e y => W.mk fun s tk => (X A hh).item i (st s h tk) _ _ hi (to i h f e) fun v h' tk' pv hs k => ⟨h', tk', rfl, y v h' pv (fun b o e n => k b o n e) (fr _ _ hs)⟩
  done := fun A h Q hh f e y => W.mk fun s tk => (X A hh).done (st s h tk) _ _ (to n h f e) fun h' tk' k => ⟨h', tk', rfl, y h' fun b o e n => k b o n e⟩
  self := fun A h Q hh f e q => W.mk fun s tk => (X A hh).self 0 (st s h tk) _ _ (to 0 h f e) ⟨h, tk, rfl, q⟩
  own := fun A h i t v Q e q => let ⟨o, ho, p⟩ := e; own_plain ho (hc i o p) (hd i o p) hn q

noncomputable def oLI (l : Addr) (i : Nat) : Obj → Prop := fun o => o.cls = .type "list_iterator" ∧ o.data = .fields #[.ref l, .int i 0]
theorem Itr.list {l : Addr} {vs : List Value} (hne : l ≠ I) : Itr C I vs.length (fun i v => vs[i]? = some v) (oLI l) (fun F => At F l (oL vs)) := by
  have X : ∀ A, A.handled = none → Walks PR C.w A I [I, l] [I] vs.length (fun i v => vs[i]? = some v) (fun i h => h.IsListIter I l i ∧ h.IsList l vs.toArray) := fun A hh => by
    simpa using Walks.list (prog := PR) (w := C.w) (A := A) hh I l hne vs.toArray
  exact Itr.ofWalks (vs := fun i => #[.ref l, .int i 0]) X (fun i h f e => ⟨e, f.list⟩) (fun i h x => x.1) (fun i o x => x.1) (fun i o x => x.2) (by decide)
noncomputable def oTI (l : Addr) (i : Nat) : Obj → Prop := fun o => o.cls = .type "tuple_iterator" ∧ o.data = .fields #[.ref l, .int i 0]
theorem Itr.tuple {l : Addr} {vs : List Value} (hne : l ≠ I) : Itr C I vs.length (fun i v => vs[i]? = some v) (oTI l) (fun F => At F l (oT vs)) := by
  have X : ∀ A, A.handled = none → Walks PR C.w A I [I, l] [I] vs.length (fun i v => vs[i]? = some v) (fun i h => h.IsTupleIter I l i ∧ h.IsTuple l vs.toArray) := fun A hh => by
    simpa using Walks.tuple (prog := PR) (w := C.w) (A := A) hh I l hne vs.toArray
  exact Itr.ofWalks (vs := fun i => #[.ref l, .int i 0]) X (fun i h f e => ⟨e, f.tup⟩) (fun i h x => x.1) (fun i o x => x.1) (fun i o x => x.2) (by decide)
noncomputable def oRI (a : Int) (n i : Nat) : Obj → Prop := fun o => o = { cls := .type "range_iterator", dict := none, data := .fields #[rawInt (a + (i : Nat) * 1), rawInt ((n : Int) - (i : Nat)), rawInt 1], slots := #[] }
theorem Itr.range {a : Int} {n : Nat} : Itr C I n (fun i v => ∃ t, v = .int (a + (i : Nat) * 1) t) (oRI a n) (fun _ => True) :=
  Itr.ofWalks (vs := fun i => #[rawInt (a + (i : Nat) * 1), rawInt ((n : Int) - (i : Nat)), rawInt 1]) (fun A hh => Walks.range hh I a 1 n) (fun i h _ ⟨o, e, p⟩ => by rw [p] at e; exact e) (fun i h x => ⟨_, x, rfl⟩) (fun i o x => by rw [x]) (fun i o x => by rw [x]) (by decide)

section
variable {K : Type} [DecidableEq K] (knd : KeyKind PR C.w K)
/-- a dict whose keys are of a kind -/
noncomputable def oDa (kvs : List (K × Value)) (ep : Nat) : Obj → Prop := fun o => ∃ es, o.ExactDict ∧ o.data = .dict es ep ∧ KeysOf knd es ∧ Pairs knd es.toList kvs ∧ (kvs.map (·.1)).Nodup
noncomputable def oD (kvs : List (K × Value)) : Obj → Prop := fun o => ∃ ep, oDa knd kvs ep o
variable {knd}
theorem At.dict {d : Addr} {kvs : List (K × Value)} (x : At h.get? d (oD knd kvs)) : h.DictOf knd d kvs := let ⟨o, e, ep, es, r⟩ := x; ⟨o, es, ep, e, r⟩
theorem At.of_dict {d : Addr} {kvs : List (K × Value)} (x : h.DictOf knd d kvs) : At h.get? d (oD knd kvs) := let ⟨o, es, ep, e, r⟩ := x; ⟨o, e, ep, es, r⟩
theorem At.nodup {F : Fz} {d : Addr} {kvs : List (K × Value)} (x : At F d (oD knd kvs)) : (kvs.map (·.1)).Nodup := let ⟨o, e, ep, es, _, _, _, _, r⟩ := x; r
theorem At.da {F : Fz} {d : Addr} {kvs : List (K × Value)} (x : At F d (oD knd kvs)) : ∃ ep, At F d (oDa knd kvs ep) := let ⟨o, e, ep, r⟩ := x; ⟨ep, o, e, r⟩
theorem At.dict_at {d : Addr} {kvs : List (K × Value)} {ep : Nat} (x : At h.get? d (oDa knd kvs ep)) : h.DictAt knd d kvs ep := let ⟨o, e, es, r⟩ := x; ⟨o, es, e, r⟩
noncomputable def oKI (d : Addr) (n ep i : Nat) : Obj → Prop := fun o => o.cls = .type "dict_keyiterator" ∧ o.data = .fields #[.ref d, .int i 0, .int n 0, .int ep 0]
theorem Itr.keys {d : Addr} {kvs : List (K × Value)} {ep : Nat} (hne : d ≠ I) : Itr C I kvs.length (fun i v => ∃ k x, kvs[i]? = some (k, x) ∧ knd.is k v = true) (oKI d kvs.length ep) (fun F => At F d (oDa knd kvs ep)) :=
  Itr.ofWalks (vs := fun i => #[.ref d, .int i 0, .int kvs.length 0, .int ep 0]) (fun A hh => Walks.dictKeys hh I d hne kvs ep) (fun i h f e => ⟨e, f.dict_at⟩) (fun i h x => x.1) (fun i o x => x.1) (fun i o x => x.2) (by decide)
end

variable {M : List Addr} {L : Addr} {m : Loc} {σ : Led} {Φ : Fz → Prop} {Q : Value → Heap → Prop}
theorem I_list {l : Addr} {vs : List Value} (S : St C h₀ M L m σ Φ h) (e : At h.get? l (oL vs)) (y : ∀ I h', h.objs.size ≤ I → l ≠ I → St C h₀ M L m ((I, oLI l 0) :: σ) Φ h' → Q (.ref I) h') : W C A (pyIter (.ref l)) h Q := W.mk fun s tk =>
  wpAny_pyIter_list (s := st s h tk) e.list ⟨_, tk, rfl, y _ _ (Nat.le_refl _) (Nat.ne_of_lt e.lt) (S.push _ ⟨rfl, rfl⟩)⟩
theorem I_tuple {l : Addr} {vs : List Value} (S : St C h₀ M L m σ Φ h) (e : At h.get? l (oT vs)) (y : ∀ I h', h.objs.size ≤ I → l ≠ I → St C h₀ M L m ((I, oTI l 0) :: σ) Φ h' → Q (.ref I) h') : W C A (pyIter (.ref l)) h Q := W.mk fun s tk =>
  wpAny_pyIter_tuple (s := st s h tk) e.tup ⟨_, tk, rfl, y _ _ (Nat.le_refl _) (Nat.ne_of_lt e.lt) (S.push _ ⟨rfl, rfl⟩)⟩
theorem I_keys {K : Type} [DecidableEq K] {knd : KeyKind PR C.w K} {d : Addr} {kvs : List (K × Value)} {ep : Nat} (S : St C h₀ M L m σ Φ h) (e : At h.get? d (oDa knd kvs ep)) (h5 : 503 ≤ d) (y : ∀ I h', h.objs.size ≤ I → d ≠ I → St C h₀ M L m ((I, oKI d kvs.length ep 0) :: σ) Φ h' → Q (.ref I) h') : W C A (pyIter (.ref d)) h Q := W.mk fun s tk =>
  wpAny_pyIter_dict (s := st s h tk) (by
    have : sysModules < 503 := by decide
    exact beq_eq_false_iff_ne.mpr fun q => absurd h5 (by rw [q]; exact Nat.not_le.mpr this)) e.dict_at ⟨_, tk, rfl, y _ _ (Nat.le_refl _) (Nat.ne_of_lt e.lt) (S.push _ ⟨rfl, rfl⟩)⟩
/-- range(a, b), begun -/
theorem I_range {r : Addr} {a b : Int} {t u v : Tok} (S : St C h₀ M L m σ Φ h) (e : At h.get? r (fun o => o = { cls := .type "range", dict := none, data := .fields #[.int a t, .int b u, .int 1 v], slots := #[] })) (n : Nat) (hn : b = a + n) (ha : -1000000 ≤ a) (hb : b ≤ 1000000)
    (y : ∀ I h', h.objs.size ≤ I → St C h₀ M L m ((I, oRI a n 0) :: σ) Φ h' → Q (.ref I) h') : W C A (pyIter (.ref r)) h Q := W.mk fun s tk => by
  obtain ⟨o, e, rfl⟩ := e
  have hsz : Builtin.Range.rangeSize a b 1 = (n : Int) := by
    unfold Builtin.Range.rangeSize
    simp only [show (1 : Int) > 0 by decide, if_true, Int.ediv_one]
    split <;> omega
  have fit : ∀ i : Int, -3000000 ≤ i → i ≤ 3000000 → Builtin.Range.rangeFitsLong i = true := fun i h1 h2 => by
    unfold Builtin.Range.rangeFitsLong
    rw [Bool.and_eq_true, decide_eq_true_eq, decide_eq_true_eq]
    exact ⟨Int.le_trans (by decide) h1, Int.lt_of_le_of_lt h2 (by decide)⟩
  refine wpAny_pyIter_range (s := st s h tk) e ?_ ⟨_, tk, rfl, ?_⟩
  · unfold Builtin.Range.small
    rw [hsz, fit a (by exact om14 ha) (by exact om15 hn hb hsz), fit b (by exact om16 hn ha hsz) (by exact om17 hn hb hsz), fit 1 (by decide) (by decide), fit n (by exact om18 hsz) (by exact om19 hn ha hb hsz)]
    simp only [Bool.true_and, show (1 : Int) > 0 by decide, if_true, fit (b + (1 - 1)) (by exact om20 hn ha hsz) (by exact om21 hn hb hsz), Bool.or_true]
  · refine y _ _ (Nat.le_refl _) (S.push _ ?_)
    rw [hsz]
    simp [oRI]
theorem St.keepAt {h' : Heap} {a : Addr} {P : Obj → Prop} (S : St C h₀ M L m σ Φ h) (k : Kb [] h h') (ha : h.objs.size ≤ a) (e : At h'.get? a P) : St C h₀ M L m σ (fun F => At F a P ∧ Φ F) h' :=
  S.keepx k fun F l => let ⟨o, x, p⟩ := e; ⟨o, l _ _ (ext_new ha x), p⟩
theorem no_tt {b : Bool} {P : Prop} (e : b = false) : b = true → P := fun q => absurd (e.symm.trans q) Bool.false_ne_true
theorem no_ff {b : Bool} {P : Prop} (e : b = true) : b = false → P := fun q => absurd (q.symm.trans e) Bool.false_ne_true
noncomputable abbrev oRg (a b : Int) : Obj → Prop := fun o => ∃ t u v, o = { cls := .type "range", dict := none, data := .fields #[.int a t, .int b u, .int 1 v], slots := #[] }
theorem C_range1 {n : Int} {t : Tok} (S : St C h₀ M L m σ Φ h) (y : ∀ r h', St C h₀ M L m σ (fun F => At F r (oRg 0 n) ∧ Φ F) h' → Q (.ref r) h') : W C A (call (.type "range") [.int n t]) h Q := W.mk fun s tk =>
  call_range_1 (s := st s h tk) ⟨_, _, rfl, y _ _ (S.pushF _ fun F e => ⟨_, e, _, _, _, rfl⟩)⟩
theorem C_range2 {a b : Int} {t u : Tok} (S : St C h₀ M L m σ Φ h) (y : ∀ r h', St C h₀ M L m σ (fun F => At F r (oRg a b) ∧ Φ F) h' → Q (.ref r) h') : W C A (call (.type "range") [.int a t, .int b u]) h Q := W.mk fun s tk =>
  call_range_2 (s := st s h tk) ⟨_, _, rfl, y _ _ (S.pushF _ fun F e => ⟨_, e, _, _, _, rfl⟩)⟩
/-- range(a, b), begun -/
theorem S_range {r : Addr} {a b : Int} (S : St C h₀ M L m σ (fun F => At F r (oRg a b) ∧ Φ F) h) (n : Nat) (hn : b = a + n) (ha : -1000000 ≤ a) (hb : b ≤ 1000000)
    (y : ∀ I h', h.objs.size ≤ I → St C h₀ M L m ((I, oRI a n 0) :: σ) Φ h' → Q (.ref I) h') : W C A (pyIter (.ref r)) h Q := by
  obtain ⟨o, e, t, u, v, p⟩ := S.now.1
  exact I_range (S.imp fun F l x => x.2) ⟨o, e, p⟩ n hn ha hb y
theorem St.h5 (S : St C h₀ M L m σ Φ h) : 503 ≤ h.objs.size := Nat.le_trans S.s5 S.size
theorem S_listF {vs : List Value} (S : St C h₀ M L m σ Φ h) (y : ∀ a h', h.objs.size ≤ a → 503 ≤ a → St C h₀ M L m σ (fun F => At F a (oL vs) ∧ Φ F) h' → Q (.ref a) h') (hz : vs.length ≤ 1000 := by simp) : W C A (newList vs) h Q :=
  O_list (Nat.le_trans hz (by decide)) (y _ _ (Nat.le_refl _) S.h5 (S.pushF _ fun F e => ⟨_, e, 0, rfl⟩))
theorem C_bytes1 {l : Addr} {b : Int} {t : Tok} (hh : A.handled = none) (e : At h.get? l (oL [.int b t])) (h0 : 0 ≤ b) (h1 : b < 256) (x : ∀ h' u, Kb [] h h' → Q (.bytes (byteArr [b]) u) h') : W C A (call (.type "bytes") [.ref l]) h Q := W.mk fun s tk =>
  call_bytes_ints (s := st s h tk) (ns := [b]) e.list (.cons b t .nil) (fun n hn => by rw [List.mem_singleton.mp hn]; exact ⟨h0, h1⟩) (show 1 ≤ sizeLine by decide) hh fun h' u k hk => ⟨h', k, rfl, x h' u fun b o e _ => hk b o e⟩
theorem S_tuple {vs : List Value} (S : St C h₀ M L m σ Φ h) (y : ∀ a h', h.objs.size ≤ a → 503 ≤ a → St C h₀ M L m σ (fun F => At F a (oT vs) ∧ Φ F) h' → Q (.ref a) h') (hz : vs.length ≤ 1000 := by simp) : W C A (newTuple vs) h Q :=
  O_tuple (Nat.le_trans hz (by decide)) (y _ _ (Nat.le_refl _) S.h5 (S.pushF _ fun F e => ⟨_, e, rfl⟩))
theorem S_list {vs : List Value} (S : St C h₀ M L m σ Φ h) (y : ∀ a h', h.objs.size ≤ a → 503 ≤ a → St C h₀ M L m ((a, oL vs) :: σ) Φ h' → Q (.ref a) h') (hz : vs.length ≤ 1000 := by simp) : W C A (newList vs) h Q :=
  O_list (Nat.le_trans hz (by decide)) (y _ _ (Nat.le_refl _) S.h5 (S.push _ ⟨0, rfl⟩))
end
end
section
noncomputable abbrev sK (C : Cx) : PySem.KeyKind PR C.w Str := PySem.strKind PR C.w
noncomputable abbrev iK (C : Cx) : PySem.KeyKind PR C.w Int := PySem.intKind PR C.w
noncomputable abbrev tK (C : Cx) : HeapKind PR C.w (List Int) := tupleKind (iK C)
theorem notModules {d : Addr} (h5 : 503 ≤ d) : (d == sysModules) = false := by
  have : sysModules < 503 := by decide
  exact beq_eq_false_iff_ne.mpr fun q => absurd h5 (by rw [q]; exact Nat.not_le.mpr this)
section
variable {C : Cx} {A : Around} {env : Env} {h : Heap} {P : Value → Heap → Prop} {R : Unit → Heap → Prop} {d : Addr}
theorem O_notin {a b : Value} (x : W C A (compareOp .In a b) h (fun v h' => ∃ c, v = .bool c ∧ P (.bool (!c)) h')) : W C A (compareOp .NotIn a b) h P := W.mk fun s tk Γ p hΓ => by
  have y := x.1 s tk Γ p hΓ
  change Sem.wp _ Γ (contains b a >>= fun r => (pure (Value.bool r) : Sem Value)) _ _ p _ at y
  show Sem.wp _ Γ (contains b a >>= fun r => (pure (Value.bool (!r)) : Sem Value)) _ _ p _
  simp only [Sem.wp_bind', Sem.wp_pure'] at y ⊢
  refine Sem.wp_mono _ Γ _ (fun r _ s' z => ?_) (fun _ _ _ z => z) _ _ y
  obtain ⟨h', tk', rfl, c, e, z⟩ := z
  cases e
  exact ⟨h', tk', rfl, z⟩
section
variable {K : Type} [DecidableEq K] {knd : PySem.KeyKind PR C.w K} {kvs : List (K × Value)} {k : K} {key v : Value}
theorem D_in (hk : knd.is k key = true) (e : At h.get? d (oD knd kvs)) (h5 : 503 ≤ d) (x : P (.bool (valueAt kvs k).isSome) h) : W C A (compareOp .In key (.ref d)) h P := W.mk fun s tk =>
  wpAny_in_of (s := st s h tk) hk (notModules h5) e.dict.mapOf ⟨h, tk + 1, rfl, x⟩
theorem D_get (hk : knd.is k key = true) (e : At h.get? d (oD knd kvs)) (hv : valueAt kvs k = some v) (x : P v h) : W C A (getItem (.ref d) key) h P := W.mk fun s tk =>
  wpAny_getItem_of (s := st s h tk) hk e.dict.mapOf hv ⟨h, tk + 1, rfl, x⟩
theorem D_sub {ve ie : Expr} (hk : knd.is k key = true) (e : At h.get? d (oD knd kvs)) (hv : valueAt kvs k = some v) (x : P v h)
    (hs : subscripted ie false (.ref d) key = operate [.ref d, key] (getItem (.ref d) key) := by with_unfolding_all rfl) : W C A (subscriptTail ve ie (.ref d) key) h P := W.mk fun s tk =>
  tail_any (s := st s h tk) (Heap.DictOf.typeIs (s := st s h tk) e.dict) PySem.slot_dict_getitem.lookup ((D_get hk e hv x).1 s tk) hs
theorem D_set (hk : knd.is k key = true) (e : At h.get? d (oD knd kvs)) (hz : kvs.length ≤ 1000000) (x : ∀ h', Kb [d] h h' → At h'.get? d (oD knd (stored kvs k v)) → R () h') : W C A (setItem (.ref d) key v) h R := W.mk fun s tk =>
  wpAny_setItem_pairs (s := st s h tk) hk e.dict (fun h' hm hs => ⟨h', tk + 1, rfl, x h' (kb_same hs) (At.of_dict hm)⟩) (Nat.le_trans hz (by decide))
end
theorem D_new {pos : Pos} (x : P (.ref h.objs.size) (h.push emptyDict)) : W C A (eval (.Dict [] [] pos) env) h P := W.mk fun s tk =>
  wpAny_Dict_empty ⟨_, tk, rfl, x⟩
theorem oD_new {K : Type} [DecidableEq K] (knd : PySem.KeyKind PR C.w K) : oD knd [] emptyDict :=
  ⟨0, #[], ⟨rfl, rfl, rfl⟩, rfl, fun _ he => by simp at he, .nil, List.nodup_nil⟩

-- dicts whose keys are pairs of whole numbers
noncomputable abbrev Pr := Int × Int
theorem S_dict {h₀ : Heap} {M : List Addr} {L : Addr} {m : Loc} {σ : Led} {Φ : Fz → Prop} {pos : Pos} {O : Obj → Prop} (S : St C h₀ M L m σ Φ h) (ho : O emptyDict) (y : ∀ a h', h.objs.size ≤ a → 503 ≤ a → St C h₀ M L m ((a, O) :: σ) Φ h' → P (.ref a) h') : W C A (eval (.Dict [] [] pos) env) h P :=
  D_new (y _ _ (Nat.le_refl _) S.h5 (S.push _ ho))
/-- a pair, as a tuple that is frozen -/
noncomputable def Tp (F : Fz) (a : Addr) (p : Pr) : Prop := ∃ t u, At F a (oT [.int p.1 t, .int p.2 u])
theorem Tp.mono {F F' : Fz} {a : Addr} {p : Pr} (x : Tp F a p) (l : Le F F') : Tp F' a p := let ⟨t, u, e⟩ := x; ⟨t, u, e.mono l⟩
theorem Tp.key {a : Addr} {p : Pr} (x : Tp h.get? a p) : IsTupleKey (iK C) h [p.1, p.2] a := by
  obtain ⟨t, u, o, e, rfl⟩ := x
  exact ⟨_, _, 0, e, rfl, rfl, .cons (by simp [PySem.intKind, Value.isInt]) (.cons (by simp [PySem.intKind, Value.isInt]) .nil)⟩
/-- what is known of a dict whose keys are pairs: the entries, in order -/
noncomputable def oTD (C : Cx) (xs : List (Pr × Addr × Value)) : Obj → Prop := fun o => ∃ es ep, o.ExactDict ∧ o.data = .dict es ep ∧ es.toList = (xs.map fun x => ([x.1.1, x.1.2], x.2.1, x.2.2)).map (entryOfKey (tK C)) ∧ (xs.map (·.1)).Nodup
noncomputable def KeysAt (F : Fz) (xs : List (Pr × Addr × Value)) : Prop := ∀ x ∈ xs, Tp F x.2.1 x.1
theorem KeysAt.mono {F F' : Fz} {xs : List (Pr × Addr × Value)} (x : KeysAt F xs) (l : Le F F') : KeysAt F' xs := fun y hy => (x y hy).mono l
noncomputable def seenAt (xs : List (Pr × Addr × Value)) (p : Pr) : Option Value := (xs.find? fun x => decide (x.1 = p)).map (·.2.2)
theorem pair_inj {p q : Pr} : ([p.1, p.2] : List Int) = [q.1, q.2] ↔ p = q := by
  constructor
  · intro e; simp at e; exact Prod.ext e.1 e.2
  · rintro rfl; rfl
theorem seenAt_eq (xs : List (Pr × Addr × Value)) (p : Pr) : (atKey (xs.map fun x => (([x.1.1, x.1.2] : List Int), x.2.1, x.2.2)) [p.1, p.2]).map (·.2) = seenAt xs p := by
  unfold atKey seenAt
  induction xs with
  | nil => rfl
  | cons x r ih =>
    simp only [List.map_cons, List.find?_cons, pair_inj]
    cases h : decide (x.1 = p) with
    | true => simp
    | false => simpa using ih
theorem nodup_pairs {l : List Pr} (h : l.Nodup) : (l.map fun p => ([p.1, p.2] : List Int)).Nodup := by
  induction l with
  | nil => exact List.nodup_nil
  | cons p r ih =>
    obtain ⟨h1, h2⟩ := List.nodup_cons.mp h
    refine List.nodup_cons.mpr ⟨fun q => ?_, ih h2⟩
    obtain ⟨q', hq, e⟩ := List.mem_map.mp q
    exact h1 (pair_inj.mp e ▸ hq)
theorem At.dictH {xs : List (Pr × Addr × Value)} (x : At h.get? d (oTD C xs)) (k : KeysAt h.get? xs) : h.DictOfH (tK C) d (xs.map fun x => ([x.1.1, x.1.2], x.2.1, x.2.2)) := by
  obtain ⟨o, e, es, ep, a, b, c, n⟩ := x
  refine ⟨o, es, ep, e, a, b, c, fun y hy => ?_, ?_⟩
  · obtain ⟨z, hz, rfl⟩ := List.mem_map.mp hy
    exact (k z hz).key
  · rw [List.map_map]
    have := nodup_pairs n
    rwa [List.map_map] at this
theorem oTD_new : oTD C [] emptyDict := ⟨#[], 0, ⟨rfl, rfl, rfl⟩, rfl, rfl, List.nodup_nil⟩
variable {xs : List (Pr × Addr × Value)} {p : Pr} {a : Addr}
theorem TD_in (hu : A.units + 10 < cLine) (hk : Tp h.get? a p) (e : At h.get? d (oTD C xs)) (ks : KeysAt h.get? xs) (h5 : 503 ≤ d) (x : P (.bool (seenAt xs p).isSome) h) : W C A (compareOp .In (.ref a) (.ref d)) h P := W.mk fun s tk =>
  wpAny_in_heap (knd := tK C) (s := st s h tk) (show A.units + 1 < cLine by exact om22 hu) hk.key (notModules h5) (e.dictH ks) ⟨h, _, rfl, by rw [← seenAt_eq, Option.isSome_map] at x; exact x⟩
theorem TD_get (hu : A.units + 10 < cLine) (hk : Tp h.get? a p) (e : At h.get? d (oTD C xs)) (ks : KeysAt h.get? xs) (h5 : 503 ≤ d) (x : P ((seenAt xs p).getD .none) h) : W C A (call (.builtin "dict.get") [.ref d, .ref a]) h P := W.mk fun s tk =>
  call_meetsIn (s := st s h tk) PySem.F.slot_dict_get (Heap.DictOfH.typeIs (s := st s h tk) (e.dictH ks)) PySem.F.entry_dict_get (PySem.F.args_dict_get_2 _ _) (meetsH_dict_get (tK C) d a (notModules h5)) ⟨show A.units + 1 < cLine by exact om22 hu, _, _, hk.key, e.dictH ks, ⟨h, _, rfl, by rw [seenAt_eq]; exact x⟩⟩
theorem TD_set {v : Value} (hu : A.units + 10 < cLine) (hk : Tp h.get? a p) (e : At h.get? d (oTD C xs)) (ks : KeysAt h.get? xs) (hn : seenAt xs p = none) (hz : xs.length ≤ 1000000) (x : ∀ h', Kb [d] h h' → At h'.get? d (oTD C (xs ++ [(p, a, v)])) → R () h') : W C A (setItem (.ref d) (.ref a) v) h R := W.mk fun s tk => by
  have hnone : atKey (xs.map fun x => (([x.1.1, x.1.2] : List Int), x.2.1, x.2.2)) [p.1, p.2] = none := by
    have := seenAt_eq xs p
    rw [hn, Option.map_eq_none_iff] at this
    exact this
  refine wpAny_setItem_heap (knd := tK C) (s := st s h tk) (show A.units + 1 < cLine by exact om22 hu) hk.key (e.dictH ks) (fun h' hm hs => ⟨h', _, rfl, x h' (kb_same hs) ?_⟩) (by rw [List.length_map]; exact Nat.le_trans hz (by decide))
  obtain ⟨o, es, ep, a1, a2, a3, a4, a5, a6⟩ := hm
  refine ⟨o, a1, es, ep, a2, a3, ?_, ?_⟩
  · rw [a4, storedH_new hnone]; simp
  · obtain ⟨_, _, _, _, _, _, _, n⟩ := e
    rw [List.map_append, List.nodup_append]
    refine ⟨n, by simp, fun y hy z hz => ?_⟩
    simp only [List.map_cons, List.map_nil, List.mem_singleton] at hz
    subst hz
    rintro rfl
    obtain ⟨w, hw, rfl⟩ := List.mem_map.mp hy
    unfold seenAt at hn
    rw [Option.map_eq_none_iff, List.find?_eq_none] at hn
    exact hn w hw (by simp)
end
end
section
/-- a value of the format: what a tree says -/
inductive T where
  | ref (p : Pr)
  | int (k : Int)
  | name (s : Str)
  | array (xs : List T)
  | dict (ks : List Str) (xs : List T)
  | stream (ks : List Str) (xs : List T) (b : Array UInt8)

mutual
noncomputable def T.size : T → Nat
  | .ref _ => 1
  | .int _ => 1
  | .name _ => 1
  | .array xs => 1 + sizes xs
  | .dict _ xs => 1 + sizes xs
  | .stream _ xs _ => 1 + sizes xs
noncomputable def sizes : List T → Nat
  | [] => 0
  | x :: xs => x.size + sizes xs
end
theorem T.size_pos : ∀ t : T, 1 ≤ t.size
  | .ref _ => by simp [T.size]
  | .int _ => by simp [T.size]
  | .name _ => by simp [T.size]
  | .array _ => by simp [T.size]
  | .dict _ _ => by simp [T.size]
  | .stream _ _ _ => by simp [T.size]
theorem sizes_append : ∀ xs ys : List T, sizes (xs ++ ys) = sizes xs + sizes ys
  | [], ys => by simp [sizes]
  | x :: xs, ys => by simp [sizes, sizes_append xs ys, Nat.add_assoc]
theorem length_le_sizes : ∀ xs : List T, xs.length ≤ sizes xs
  | [] => Nat.le_refl _
  | x :: xs => by
    have := length_le_sizes xs
    have := x.size_pos
    simp only [List.length_cons, sizes]
    omega
theorem size_le_sizes : ∀ {xs : List T} {x : T}, x ∈ xs → x.size ≤ sizes xs
  | y :: ys, x, hx => by
    simp only [sizes]
    rcases List.mem_cons.mp hx with rfl | hx
    · exact om23
    · have := size_le_sizes hx; exact om24 this

/-- an entry under a written name -/
noncomputable abbrev en (C : Cx) (x : Str) (t : Tok) (v : Value) : DictEntry := ⟨PyData.keyHash C.w.params x, .str x t, v⟩
noncomputable def oRef (C : Cx) (p : Pr) : Obj → Prop := fun o => ∃ t1 t2 tn tg, oI [en C (Str.ofString "number") t1 (.int p.1 tn), en C (Str.ofString "generation") t2 (.int p.2 tg)] o
noncomputable def oName (C : Cx) (s : Str) : Obj → Prop := fun o => ∃ t1 ts, oI [en C (Str.ofString "text") t1 (.str s ts)] o
noncomputable def oStream (C : Cx) (d : Addr) (b : Array UInt8) : Obj → Prop := fun o => ∃ t1 t2 tb, oI [en C (Str.ofString "head") t1 (.ref d), en C (Str.ofString "octets") t2 (.bytes b tb)] o

mutual
/-- a value bears a tree, in what is frozen -/
inductive Rep (C : Cx) (F : Fz) : Value → T → Prop
  | ref {x dx : Addr} {p : Pr} : F x = some (instObj 242 dx) → At F dx (oRef C p) → 503 ≤ x → Rep C F (.ref x) (.ref p)
  | int (k : Int) (t : Tok) : Rep C F (.int k t) (.int k)
  | name {x dx : Addr} {s : Str} : F x = some (instObj 171 dx) → At F dx (oName C s) → 503 ≤ x → Rep C F (.ref x) (.name s)
  | array {l : Addr} {vs : List Value} {xs : List T} : At F l (oL vs) → Reps C F vs xs → 503 ≤ l → Rep C F (.ref l) (.array xs)
  | dict {d : Addr} {kvs : List (Str × Value)} {xs : List T} : At F d (oD (sK C) kvs) → Reps C F (kvs.map (·.2)) xs → 503 ≤ d → Rep C F (.ref d) (.dict (kvs.map (·.1)) xs)
  | stream {x dx d : Addr} {kvs : List (Str × Value)} {xs : List T} {b : Array UInt8} : F x = some (instObj 214 dx) → At F dx (oStream C d b) → At F d (oD (sK C) kvs) → Reps C F (kvs.map (·.2)) xs → 503 ≤ d → 503 ≤ x → Rep C F (.ref x) (.stream (kvs.map (·.1)) xs b)
inductive Reps (C : Cx) (F : Fz) : List Value → List T → Prop
  | nil : Reps C F [] []
  | cons {v : Value} {vs : List Value} {x : T} {xs : List T} : Rep C F v x → Reps C F vs xs → Reps C F (v :: vs) (x :: xs)
end
variable {C : Cx} {F F' : Fz}
theorem Reps.ind {P : List Value → List T → Prop} (n : P [] []) (c : ∀ {v : Value} {vs : List Value} {t : T} {ts : List T}, Rep C F v t → Reps C F vs ts → P vs ts → P (v :: vs) (t :: ts)) {vs : List Value} {ts : List T} (x : Reps C F vs ts) : P vs ts :=
  Reps.rec (motive_1 := fun _ _ _ => True) (motive_2 := fun vs ts _ => P vs ts) (fun _ _ _ => trivial) (fun _ _ => trivial) (fun _ _ _ => trivial) (fun _ _ _ _ => trivial) (fun _ _ _ _ => trivial) (fun _ _ _ _ _ _ _ => trivial) n (fun a b _ ih => c a b ih) x
mutual
theorem Rep.mono (l : Le F F') {v : Value} {t : T} (x : Rep C F v t) : Rep C F' v t :=
  Rep.rec (motive_1 := fun v t _ => Rep C F' v t) (motive_2 := fun vs ts _ => Reps C F' vs ts)
    (fun a b c => .ref (l _ _ a) (b.mono l) c) (fun k t => .int k t) (fun a b c => .name (l _ _ a) (b.mono l) c)
    (fun a _ c ih => .array (a.mono l) ih c) (fun a _ c ih => .dict (a.mono l) ih c) (fun a b c _ e f ih => .stream (l _ _ a) (b.mono l) (c.mono l) ih e f) .nil (fun _ _ a b => .cons a b) x
theorem Reps.mono (l : Le F F') {vs : List Value} {ts : List T} (x : Reps C F vs ts) : Reps C F' vs ts :=
  Reps.ind (P := fun vs ts => Reps C F' vs ts) .nil (fun a _ ih => .cons (a.mono l) ih) x
end
theorem Reps.length {vs : List Value} {ts : List T} (x : Reps C F vs ts) : vs.length = ts.length :=
  Reps.ind (P := fun vs ts => vs.length = ts.length) rfl (fun _ _ ih => congrArg (· + 1) ih) x
theorem Reps.append {vs ws : List Value} {ts us : List T} (x : Reps C F vs ts) (y : Reps C F ws us) : Reps C F (vs ++ ws) (ts ++ us) :=
  Reps.ind (P := fun vs ts => Reps C F (vs ++ ws) (ts ++ us)) y (fun a _ ih => .cons a ih) x
theorem Reps.snoc {vs : List Value} {ts : List T} {v : Value} {t : T} (x : Reps C F vs ts) (y : Rep C F v t) : Reps C F (vs ++ [v]) (ts ++ [t]) := x.append (.cons y .nil)
theorem Reps.get {vs : List Value} {ts : List T} {i : Nat} {v : Value} (x : Reps C F vs ts) (e : vs[i]? = some v) : ∃ t, ts[i]? = some t ∧ Rep C F v t :=
  Reps.ind (P := fun vs ts => ∀ (i : Nat) (v : Value), vs[i]? = some v → ∃ t, ts[i]? = some t ∧ Rep C F v t) (fun i v e => absurd e (by simp)) (fun a _ ih i v e => by
    cases i with
    | zero => exact ⟨_, rfl, Option.some.inj e ▸ a⟩
    | succ i => exact ih i v e) x i v e
/-- the part from an address on -/
noncomputable def ge (n : Nat) (F : Fz) : Fz := fun a => if n ≤ a then F a else none
theorem ge_of {n a : Nat} {F : Fz} {o : Obj} (h : n ≤ a) (e : F a = some o) : ge n F a = some o := by unfold ge; rw [if_pos h]; exact e
theorem ge_some {n a : Nat} {F : Fz} {o : Obj} (e : ge n F a = some o) : n ≤ a ∧ F a = some o := by
  unfold ge at e; split at e
  · exact ⟨‹_›, e⟩
  · cases e
theorem ge_le {n : Nat} {F : Fz} : Le (ge n F) F := fun a o e => (ge_some e).2
theorem ge_mono {n n' : Nat} {F F' : Fz} (l : Le F F') (h : n' ≤ n) : Le (ge n F) (ge n' F') := fun a o e => ge_of (Nat.le_trans h (ge_some e).1) (l a o (ge_some e).2)
/-- what is new in h' behind h -/
noncomputable abbrev nw (h h' : Heap) : Fz := ge h.objs.size h'.get?
theorem nw_ext {F : Fz} {h h' : Heap} : Le (nw h h') (ext F h h') := fun a o e => ext_new (ge_some e).1 (ge_some e).2
/-- what is new stays so, and is frozen, where the ledger is elder -/
theorem fresh_le {n n1 : Nat} {Mu : List Addr} {h2 : Heap} {F : Fz} (l : Le (fz Mu h2) F) (lt : ∀ a ∈ Mu, a < n1) (hn : n ≤ n1) : Le (ge n1 h2.get?) (ge n F) := fun a o e => by
  obtain ⟨h1, e⟩ := ge_some e
  exact ge_of (Nat.le_trans hn h1) (l a o (fz_of (fun q => absurd (lt a q) (Nat.not_lt.mpr h1)) e))
end
section
/-! a def's end, held by a letter -/
structure Rt (R : Flow → Heap → Prop) (P : Value → Heap → Prop) : Prop where
  go : ∀ {v : Value} {h : Heap}, P v h → R (.ret v) h
  nx : ∀ {h : Heap}, P .none h → R .next h
section
variable {C : Cx} {A : Around} {env : Env} {h : Heap} {Q R : Flow → Heap → Prop} {K : Heap → Prop} {P : Value → Heap → Prop} {rest : List Stmt}
theorem bodyK {t t' : List Stmt} {s : Stmt} (e : t = s :: t') (x : ∀ R, Rt R P → W C A (execs (s :: t') env) h R) : W C A (execs t env) h (Ret P) := e ▸ x _ ⟨fun x => x, fun x => x⟩
theorem X_nilE (k : Rt R P) (x : P .none h) : W C A (execs [] env) h R := X_nil (k.nx x)
theorem X_retS {e : Expr} {pos : Pos} (x : W C A (eval e env) h (fun v h' => R (.ret v) h')) : W C A (execs (.Return (some e) pos :: rest) env) h (Seq K R) := X_ret x
theorem X_retS2 {K' : Heap → Prop} {e : Expr} {pos : Pos} (x : W C A (eval e env) h (fun v h' => R (.ret v) h')) : W C A (execs (.Return (some e) pos :: rest) env) h (Seq K (Seq K' R)) := X_ret x
theorem X_whileK {test : Expr} {body : List Stmt} {pos : Pos} (J : Nat → Heap → Prop) (n : Nat) (h0 : J n h)
    (turn : ∀ k h, J k h → W C A (isTrue test env (eval test env)) h (fun b h1 => (b = true → ∀ R, Nx R (fun h2 => ∃ j, j < k ∧ J j h2) → W C A (execs body env) h1 R) ∧ (b = false → W C A (execs rest env) h1 Q))) :
    W C A (execs (.While test body [] pos :: rest) env) h Q :=
  X_while J n h0 fun k h hJ => (turn k h hJ).mono fun b h1 y => ⟨fun e => y.1 e _ ⟨fun x => x⟩, y.2⟩
end
end
local macro_rules | `(tactic| walk_at "g") => `(tactic| first | assumption | (apply St.g; assumption))
local macro_rules | `(tactic| walk_at "m") => `(tactic| first | exact List.Mem.head _ | exact List.Mem.tail _ (List.Mem.head _) | exact List.Mem.tail _ (List.Mem.tail _ (List.Mem.head _)) | exact List.Mem.tail _ (List.Mem.tail _ (List.Mem.tail _ (List.Mem.head _))) | exact List.Mem.tail _ (List.Mem.tail _ (List.Mem.tail _ (List.Mem.tail _ (List.Mem.head _)))) | exact List.Mem.tail _ (List.Mem.tail _ (List.Mem.tail _ (List.Mem.tail _ (List.Mem.tail _ (List.Mem.head _))))) | exact List.Mem.tail _ (List.Mem.tail _ (List.Mem.tail _ (List.Mem.tail _ (List.Mem.tail _ (List.Mem.tail _ (List.Mem.head _)))))))
local macro_rules | `(tactic| walk_at "u") => `(tactic| with_unfolding_all exact rfl)
local macro_rules | `(tactic| walk_at "n") => `(tactic| ((with_reducible show W _ _ (eval (PySem.Expr.Name _ _) _) _ _); first
  | refine N_loc (by assumption) (by walk_at "u") (by kernel_rfl) (by walk_at "u") (by kernel_rfl) ?_
  | refine N_blt (by walk_at "g") (by walk_at "u") (by kernel_rfl) (by walk_at "u") (by walk_at "u") (by kernel_rfl) (by boot_by_name) (by decide +kernel) (by kernel_rfl) ?_
  | refine N_gl (by walk_at "g") (by walk_at "u") (by kernel_rfl) (by walk_at "u") (by walk_at "u") (by kernel_rfl) ?_
  | refine N_cell (by assumption) (by walk_at "u") (by kernel_rfl) (by walk_at "u") (by walk_at "m") (by kernel_rfl) ?_
  | refine N_free (by assumption) (by walk_at "u") (by kernel_rfl) (by walk_at "u") (by walk_at "m") (by kernel_rfl) (by kernel_rfl) ?_))
local macro_rules | `(tactic| walk_at "w") => `(tactic| with_reducible first
  | (show W _ _ (eval _ _) _ _; first | refine E_call ?_ | refine E_meth ?_ | refine E_attr ?_ | refine E_sub ?_ | refine E_int (fun _ => ?_) | refine E_str (fun _ => ?_) | refine E_tuple ?_ | refine E_list ?_ | refine E_bool ?_ | refine E_none ?_ | refine E_bin ?_ | refine E_cmp ?_ | refine E_if ?_ | refine E_not ?_ | refine E_one ?_ | refine E_and ?_ | refine E_or ?_)
  | (show W _ _ (spliced _) _ _; first | refine sp_nil ?_ | refine sp_cons ?_)
  | (show W _ _ (execs _ _) _ _; first | refine X_nilS ?_ | refine X_nilT ?_ | refine X_nilR ?_ | refine X_nilK (by assumption) ?_ | refine X_nilE (by assumption) ?_ | refine X_retS2 ?_ | refine X_retS ?_ | refine X_ret ?_ | refine X_assign ?_ | refine X_if ?_ | refine X_expr ?_ | refine X_setitem ?_ | refine X_setattr ?_ | refine X_unpack ?_)
  | (show W _ _ (isTrue _ _ _) _ _; first | refine T_cmp ?_ | refine T_not ?_ | refine T_and ?_ | refine T_or ?_ | refine T_and_nil ?_ | refine T_or_nil ?_ | refine T_plain ?_)
  | refine tr_bool ?_ | refine A_name ?_ | refine Rt.go (by assumption) ?_)
local macro_rules | `(tactic| walk_at "s") => `(tactic| ((with_reducible show W _ _ (storeName _ _ _) _ _); refine N_store (by assumption) (by walk_at "u") (by kernel_rfl) ?_))
local macro_rules | `(tactic| walk_at "c") => `(tactic| ((with_reducible show W _ _ (callWith _ _ _ _ _) _ _); first
  | with_reducible refine C_bltN ?_ | with_reducible refine C_bltM ?_ | with_reducible refine C_blt0 ?_ | with_reducible refine C_type ?_
  | refine C_fnN (by kernel_rfl) ?_ | refine C_fnM (by kernel_rfl) ?_ | refine C_fn0 (by kernel_rfl) (by walk_at "g") ?_))
local macro_rules | `(tactic| walk_at "r") => `(tactic| repeat (first | walk_at "n" | walk_at "w" | walk_at "c"))
section
variable {C : Cx} {A : Around} {h : Heap} {k : Nat}
theorem made_kb {h h' : Heap} {c0 : Addr} (k : Kb [h.objs.size] ((h.push emptyDict).push (instObj c0 h.objs.size)) h') : Kb [] h h' := fun b o e _ => k b o (((kb_push (M := []) h emptyDict).trans (kb_push _ _)) b o e (by simp)) (by
  simp only [List.mem_singleton]
  exact Nat.ne_of_lt (Heap.lt_size e))
theorem made_sz {h h' : Heap} {c0 : Addr} (s : ((h.push emptyDict).push (instObj c0 h.objs.size)).objs.size ≤ h'.objs.size) : h.objs.size ≤ h'.objs.size := by
  rw [Heap.size_push, Heap.size_push] at s; exact Nat.le_trans (Nat.le_trans (Nat.le_succ _) (Nat.le_succ _)) s
theorem mkRef {p : Pr} {tn tg : Tok} (G : GF C h) (R : Rm A (k + 2)) : W C A (call (.ref 242) [.int p.1 tn, .int p.2 tg]) h (fun v h' => Rep C (nw h h') v (.ref p) ∧ Kb [] h h' ∧ h.objs.size ≤ h'.objs.size) := by
  refine make (fI := 232) G R (by kernel_rfl) (by kernel_rfl) (by kernel_rfl) fun A' R' => ?_
  refine goC (m := [(Str.ofString "generation", .int p.2 tg), (Str.ofString "number", .int p.1 tn), (Str.ofString "self", .ref (h.objs.size + 1))]) (made_in (Φ := fun F => True) G fun F l => trivial) R' rfl rfl (by kernel_rfl) (fun s e => BindsTo.of_eq rfl) rfl (by kernel_rfl) (by kernel_rfl) rfl rfl rfl fun A'' L h1 R'' S => ?_
  refine bodyK rfl fun Rq kq => ?_
  walk_at "r"
  refine A_set S (S.now.1) (by kernel_rfl) (by kernel_rfl) (by kernel_rfl) (by kernel_rfl) rfl (by decide) fun h2 t1 (S2 : St C _ _ _ _ [(h.objs.size, oI [en C (Str.ofString "number") t1 (.int p.1 tn)])] _ h2) => ?_
  clear S
  walk_at "r"
  refine A_set S2 (S2.now.1) (by kernel_rfl) (by kernel_rfl) (by kernel_rfl) (by kernel_rfl) (by kernel_rfl) (by simp) fun h3 t2 (S3 : St C _ _ _ _ [(h.objs.size, oI [en C (Str.ofString "number") t1 (.int p.1 tn), en C (Str.ofString "generation") t2 (.int p.2 tg)])] _ h3) => ?_
  clear S2
  walk_at "r"
  obtain ⟨o, e, n, rfl⟩ := S3.at0
  refine ⟨rfl, .ref (ge_of (Nat.le_succ _) S3.now.1) ⟨_, ge_of (Nat.le_refl _) e, t1, t2, tn, tg, n, rfl⟩ (Nat.le_succ_of_le G.size), made_kb S3.kb, made_sz S3.size⟩
theorem mkName {s : Str} {ts : Tok} (G : GF C h) (R : Rm A (k + 2)) : W C A (call (.ref 171) [.str s ts]) h (fun v h' => Rep C (nw h h') v (.name s) ∧ Kb [] h h' ∧ h.objs.size ≤ h'.objs.size) := by
  refine make (fI := 168) G R (by kernel_rfl) (by kernel_rfl) (by kernel_rfl) fun A' R' => ?_
  refine goC (m := [(Str.ofString "text", .str s ts), (Str.ofString "self", .ref (h.objs.size + 1))]) (made_in (Φ := fun F => True) G fun F l => trivial) R' rfl rfl (by kernel_rfl) (fun s e => BindsTo.of_eq rfl) rfl (by kernel_rfl) (by kernel_rfl) rfl rfl rfl fun A'' L h1 R'' S => ?_
  refine bodyK rfl fun Rq kq => ?_
  walk_at "r"
  refine A_set S (S.now.1) (by kernel_rfl) (by kernel_rfl) (by kernel_rfl) (by kernel_rfl) rfl (by decide) fun h2 t1 (S2 : St C _ _ _ _ [(h.objs.size, oI [en C (Str.ofString "text") t1 (.str s ts)])] _ h2) => ?_
  clear S
  walk_at "r"
  obtain ⟨o, e, n, rfl⟩ := S2.at0
  refine ⟨rfl, .name (ge_of (Nat.le_succ _) S2.now.1) ⟨_, ge_of (Nat.le_refl _) e, t1, ts, n, rfl⟩ (Nat.le_succ_of_le G.size), made_kb S2.kb, made_sz S2.size⟩
/-- a stream of a dict that stands -/
theorem mkStream {d : Addr} {b : Array UInt8} {tb : Tok} {F : Fz} {kvs : List (Str × Value)} {xs : List T} (G : GF C h) (R : Rm A (k + 2)) (hF : Le F h.get?) (ed : At F d (oD (sK C) kvs)) (rs : Reps C F (kvs.map (·.2)) xs) (h5 : 503 ≤ d) :
    W C A (call (.ref 214) [.ref d, .bytes b tb]) h (fun v h' => Rep C (ext F h h') v (.stream (kvs.map (·.1)) xs b) ∧ Kb [] h h' ∧ h.objs.size ≤ h'.objs.size) := by
  refine make (fI := 211) G R (by kernel_rfl) (by kernel_rfl) (by kernel_rfl) fun A' R' => ?_
  refine goC (m := [(Str.ofString "octets", .bytes b tb), (Str.ofString "head", .ref d), (Str.ofString "self", .ref (h.objs.size + 1))]) (made_in (Φ := fun F => True) G fun F l => trivial) R' rfl rfl (by kernel_rfl) (fun s e => BindsTo.of_eq rfl) rfl (by kernel_rfl) (by kernel_rfl) rfl rfl rfl fun A'' L h1 R'' S => ?_
  refine bodyK rfl fun Rq kq => ?_
  walk_at "r"
  refine A_set S (S.now.1) (by kernel_rfl) (by kernel_rfl) (by kernel_rfl) (by kernel_rfl) rfl (by decide) fun h2 t1 (S2 : St C _ _ _ _ [(h.objs.size, oI [en C (Str.ofString "head") t1 (.ref d)])] _ h2) => ?_
  clear S
  walk_at "r"
  refine A_set S2 (S2.now.1) (by kernel_rfl) (by kernel_rfl) (by kernel_rfl) (by kernel_rfl) (by kernel_rfl) (by simp) fun h3 t2 (S3 : St C _ _ _ _ [(h.objs.size, oI [en C (Str.ofString "head") t1 (.ref d), en C (Str.ofString "octets") t2 (.bytes b tb)])] _ h3) => ?_
  clear S2
  walk_at "r"
  obtain ⟨o, e, n, rfl⟩ := S3.at0
  have l : Le F (ext F h h3) := hF.ext
  exact ⟨rfl, .stream (ext_new (Nat.le_succ _) S3.now.1) ⟨_, ext_new (Nat.le_refl _) e, t1, t2, tb, n, rfl⟩ (ed.mono l) (rs.mono l) h5 (Nat.le_succ_of_le G.size), made_kb S3.kb, made_sz S3.size⟩
end
section
/-! A run never makes the heap smaller. -/
theorem runs_sz {M : Model} {Γ : PySem.Ctx} {p : Pos} {t : Sem Fin} {fs : List Frame} {s s' : Shared} {e : End} (h : Runs M Γ p t fs s e s') : s.heap.objs.size ≤ s'.heap.objs.size := by
  induction h <;> (try simp only [Shared.setGen, Heap.size_update, Heap.size_push] at *) <;> first | omega | assumption | exact Nat.le_refl _ | skip
  all_goals first | omega | (rename_i a b; exact Nat.le_trans a b) | skip
theorem wakes_sz {M : Model} {Γ : PySem.Ctx} {p : Pos} {g : Nat} {r : Resume} {s s' : Shared} {res : GenResult} (h : Wakes M Γ p g r s res s') : s.heap.objs.size ≤ s'.heap.objs.size := by
  unfold Wakes at h
  split at h
  · exact h.elim
  · split at h
    · obtain ⟨e₁, s₁, hr, _, _, rfl⟩ := h; exact (runs_sz hr : (s.setGen g .running).heap.objs.size ≤ s₁.heap.objs.size)
    · rw [h.2]; exact Nat.le_refl _
    · rw [h.2]; exact Nat.le_refl _
  · obtain ⟨e₁, s₁, hr, _, _, rfl⟩ := h; exact (runs_sz hr : (s.setGen g .running).heap.objs.size ≤ s₁.heap.objs.size)
  · rw [h.2]; exact Nat.le_refl _
  · rw [h.2]; exact Nat.le_refl _
theorem wp_sz {α : Type} (M : Model) (Γ : PySem.Ctx) (n : Nat) (t : Sem α) : ∀ (Q : α → Pos → Shared → Prop) (E : Value → Pos → Shared → Prop) (p : Pos) (s : Shared), n ≤ s.heap.objs.size → Sem.wp M Γ t Q E p s →
    Sem.wp M Γ t (fun a p' s' => n ≤ s'.heap.objs.size ∧ Q a p' s') E p s := by
  induction t with
  | pure a => intro Q E p s hn h; exact ⟨hn, h⟩
  | raise e => intro Q E p s hn h; exact h
  | unsupported _ => intro Q E p s _ h; exact h
  | finish _ => intro Q E p s _ h; exact h
  | rule _ k ih => intro Q E p s hn h; exact ih () Q E p s hn h
  | «at» p' k ih => intro Q E p s hn h; exact ih () Q E p' s hn h
  | load a _ k ih => intro Q E p s hn h; obtain ⟨o, ho, h⟩ := h; exact ⟨o, ho, ih o Q E p s hn h⟩
  | update a _ f k ih => intro Q E p s hn h; exact ⟨h.1, ih () Q E p _ (by simpa [Heap.size_update] using hn) h.2⟩
  | loadIfAlive a k ih => intro Q E p s hn h; exact ih _ Q E p s hn h
  | point _ k ih => intro Q E p s hn h; exact ih () Q E p s hn h
  | register _ _ => intro Q E p s _ h; exact h
  | alloc o k ih => intro Q E p s hn h; exact ih _ Q E p _ (by rw [Heap.size_push]; exact Nat.le_succ_of_le hn) h
  | fresh k ih => intro Q E p s hn h; exact ih _ Q E p _ hn h
  | ask k ih => intro Q E p s hn h; exact ih _ Q E p s hn h
  | choose src m k ih => intro Q E p s hn h; exact ⟨h.1, ih _ Q E p _ hn h.2⟩
  | os q _ k ih => intro Q E p s hn h; exact ih _ Q E p _ hn h
  | call c hd _ _ k ih => intro Q E p s hn h; obtain ⟨r, s', hr, h⟩ := h; exact ⟨r, s', hr, ih r Q E p s' (Nat.le_trans hn (runs_sz hr)) h⟩
  | handled own k ih => intro Q E p s hn h; exact ih _ Q E p s hn h
  | genState g k ih => intro Q E p s hn h; obtain ⟨st, hs, h⟩ := h; exact ⟨st, hs, ih _ Q E p s hn h⟩
  | newGen c k ih => intro Q E p s hn h; exact ih _ Q E p _ hn h
  | resume g r _ k ih => intro Q E p s hn h; obtain ⟨res, s', hw, h⟩ := h; exact ⟨res, s', hw, ih res Q E p s' (Nat.le_trans hn (wakes_sz hw)) h⟩
  | yield _ _ _ _ => intro Q E p s _ h; exact h
  | stack k ih => intro Q E p s hn h; exact ih _ Q E p s hn h
  | fork _ _ => intro Q E p s _ h; exact h
  | thread k ih => intro Q E p s hn h; exact ih _ Q E p s hn h
  | await _ _ _ _ _ => intro Q E p s _ h; exact h
theorem W.sz {α : Type} {C : Cx} {A : Around} {t : Sem α} {h : Heap} {Q : α → Heap → Prop} (x : W C A t h Q) : W C A t h (fun a h' => h.objs.size ≤ h'.objs.size ∧ Q a h') := W.mk fun s tk Γ p hΓ =>
  Sem.wp_mono _ Γ t (fun a _ s' ⟨hs, h', tk', e, q⟩ => by subst e; exact ⟨h', tk', rfl, hs, q⟩) (fun _ _ _ z => z) _ _ (wp_sz _ Γ h.objs.size t _ _ p (st s h tk) (Nat.le_refl _) (x.1 s tk Γ p hΓ))
end
section
noncomputable def leS (a b : Str) : Bool := decide (a.cps.toList ≤ b.cps.toList)
noncomputable def sortS (ss : List Str) : List Str := ss.mergeSort leS
noncomputable def sortI (ns : List Int) : List Int := ns.mergeSort fun a b => decide (a ≤ b)
theorem leS_trans (a b c : Str) (x : leS a b = true) (y : leS b c = true) : leS a c = true := by
  unfold leS at *; simp only [decide_eq_true_eq] at *; exact List.le_trans x y
theorem leS_total (a b : Str) : (leS a b || leS b a) = true := by
  unfold leS; rw [Bool.or_eq_true, decide_eq_true_eq, decide_eq_true_eq]; exact List.le_total _ _
theorem leS_anti (a b : Str) (x : leS a b = true) (y : leS b a = true) : a = b := by
  unfold leS at *; simp only [decide_eq_true_eq] at *
  have := List.le_antisymm x y
  cases a; cases b
  simp only [Str.mk.injEq]
  exact Array.toList_inj.mp this
theorem sortS_perm (ss : List Str) : (sortS ss).Perm ss := List.mergeSort_perm _ _
theorem sortI_perm (ns : List Int) : (sortI ns).Perm ns := List.mergeSort_perm _ _
theorem sortI_pw (ns : List Int) : (sortI ns).Pairwise (· ≤ ·) := by
  have := List.pairwise_mergeSort (le := fun (a b : Int) => decide (a ≤ b)) (fun a b c x y => by simp at *; exact om25 x y) (fun a b => by simp; exact om26) ns
  exact this.imp fun h => by simpa using h
theorem eq_sortI {l ns : List Int} (p : l.Perm ns) (s : l.Pairwise (· ≤ ·)) : l = sortI ns :=
  List.Perm.eq_of_pairwise (le := (· ≤ ·)) (fun a b _ _ x y => Int.le_antisymm x y) s (sortI_pw ns) (p.trans (sortI_perm ns).symm)
theorem risingS_pw : ∀ (l : List Str) (p : Str), risingS p l = true → (p :: l).Pairwise fun a b => leS a b = true
  | [], p, _ => List.pairwise_singleton _ _
  | x :: r, p, h => by
    simp only [risingS, Bool.and_eq_true, Bool.not_eq_true'] at h
    have ih := risingS_pw r x h.2
    have px : leS p x = true := by
      unfold leS
      rw [ltCps_eq, decide_eq_false_iff_not] at h
      rw [decide_eq_true_eq]
      exact List.not_lt.mp h.1
    refine List.pairwise_cons.mpr ⟨fun b hb => ?_, ih⟩
    rcases List.mem_cons.mp hb with rfl | hb
    · exact px
    · exact leS_trans _ _ _ px ((List.pairwise_cons.mp ih).1 b hb)
theorem eq_sortS {l ss : List Str} (p : l.Perm ss) (s : sortedS l = true) : l = sortS ss := by
  refine List.Perm.eq_of_pairwise (le := fun a b => leS a b = true) (fun a b _ _ x y => leS_anti a b x y) ?_ (List.pairwise_mergeSort leS_trans leS_total ss) (p.trans (sortS_perm ss).symm)
  cases l with
  | nil => exact .nil
  | cons x r => exact risingS_pw r x s

section
variable {C : Cx} {A : Around} {h h₀ : Heap} {M : List Addr} {L : Addr} {m : Loc} {σ : Led} {Φ : Fz → Prop} {Q : Value → Heap → Prop} {d : Addr}
/-- what a list's sort leaves -/
theorem sortedHeap_kb {h : Heap} {a : Addr} {vs : List Value} {out : Array Value} : Kb [a] h (sortedHeap h a vs out) := fun b o e n => by
  have hb : b ≠ a := by simpa using n
  rw [PyProof.Rows.sortedHeap_old hb (Heap.lt_size e)]; exact e
theorem collect_dict {K : Type} [DecidableEq K] {knd : PySem.KeyKind PR C.w K} {kvs : List (K × Value)} {ep : Nat} {R : List Value → Heap → Prop} (hh : A.handled = none) (e : At h.get? d (oDa knd kvs ep)) (h5 : 503 ≤ d) (hz : kvs.length ≤ 1000)
    (x : ∀ (h' : Heap) (vs : List Value), Kb [] h h' → vs.length = kvs.length → (∀ (j : Nat) v, vs[j]? = some v → ∃ k y, kvs[j]? = some (k, y) ∧ knd.is k v = true) → R vs h') : W C A (collect (.ref d)) h R := W.mk fun s tk =>
  kdu_collect (s := st s h tk) (kdl_dict (knd := knd) (kvs := kvs) (ep := ep) (notModules h5)) hh e.dict_at (Nat.le_trans hz (by decide)) fun h' tk' acc hk hacc => ⟨h', tk', rfl, x h' acc.toList (fun b o e _ => hk b o e) (by rw [Array.length_toList]; exact hacc.1) fun j v e => hacc.2 j v (by rw [← Array.getElem?_toList]; exact e)⟩
theorem strs_of_keys {kvs : List (Str × Value)} {vs : List Value} (hl : vs.length = kvs.length) (hv : ∀ (j : Nat) v, vs[j]? = some v → ∃ k y, kvs[j]? = some (k, y) ∧ (sK C).is k v = true) : StrsAre vs (kvs.map (·.1)) := by
  induction vs generalizing kvs with
  | nil => cases kvs with
    | nil => exact .nil
    | cons _ _ => simp at hl
  | cons v r ih => cases kvs with
    | nil => simp at hl
    | cons kv t =>
      obtain ⟨k, y, e1, e2⟩ := hv 0 v rfl
      simp at e1; subst e1
      obtain ⟨t', rfl⟩ := Value.isStrOf_shape e2
      exact .cons k t' (ih (by simpa using hl) fun j v e => by simpa using hv (j + 1) v (by simpa using e))
theorem ints_of_keys {kvs : List (Int × Value)} {vs : List Value} (hl : vs.length = kvs.length) (hv : ∀ (j : Nat) v, vs[j]? = some v → ∃ k y, kvs[j]? = some (k, y) ∧ (iK C).is k v = true) : IntsAre vs (kvs.map (·.1)) := by
  induction vs generalizing kvs with
  | nil => cases kvs with
    | nil => exact .nil
    | cons _ _ => simp at hl
  | cons v r ih => cases kvs with
    | nil => simp at hl
    | cons kv t =>
      obtain ⟨k, y, e1, e2⟩ := hv 0 v rfl
      simp at e1; subst e1
      obtain ⟨t', rfl⟩ := Value.isInt_shape e2
      exact .cons k t' (ih (by simpa using hl) fun j v e => by simpa using hv (j + 1) v (by simpa using e))
theorem sort_at {h : Heap} {a : Addr} {vs : List Value} {n : Nat} {out : Array Value} (ho : h.get? a = some (seqObj "list" vs.toArray n)) : At (sortedHeap h a vs out).get? a (oL out.toList) := by
  obtain ⟨e, he⟩ := PyProof.Rows.sortedHeap_at (out := out) ho
  exact ⟨_, he, e, by simp [seqObj, lstOf]⟩
theorem sorted_dict {K : Type} [DecidableEq K] {knd : PySem.KeyKind PR C.w K} {kvs : List (K × Value)} {G : List Value → Prop} (hh : A.handled = none) (e : At h.get? d (oD knd kvs)) (h5 : 503 ≤ d) (hz : kvs.length ≤ 60)
    (srt : ∀ (A : Around) (vs : List Value) (h : Heap) (a : Addr) (n : Nat) (P : Fin → Heap → Prop), vs.length = kvs.length → (∀ (j : Nat) v, vs[j]? = some v → ∃ k y, kvs[j]? = some (k, y) ∧ knd.is k v = true) → h.get? a = some (seqObj "list" vs.toArray n) →
      (∀ out : Array Value, G out.toList → P (.done (.ret .none)) (sortedHeap h a vs out)) → W C A (Builtin.«list.sort» ⟨[.ref a], []⟩) h P)
    (x : ∀ l h' vs, h.objs.size ≤ l → Kb [] h h' → At h'.get? l (oL vs) → G vs → Q (.ref l) h') : W C A (call (.builtin "sorted") [.ref d]) h Q := W.mk fun s tk => by
  obtain ⟨ep, e⟩ := e.da
  refine Calls.call_function_entry kind_sorted plain_sorted entry_sorted (args_sorted1 _) ?_
  unfold Builtin.«sorted»
  refine wpAny_bind (m := checkCount "sorted" 1 1 _) (wpAny_pure ?_)
  refine wpAny_bind ((W.sz (collect_dict (A := A.in1) (knd := knd) (R := fun vs h' => Kb [] h h' ∧ vs.length = kvs.length ∧ ∀ (j : Nat) v, vs[j]? = some v → ∃ k y, kvs[j]? = some (k, y) ∧ knd.is k v = true) hh e h5 (Nat.le_trans hz (by decide)) fun h' vs a b c => ⟨a, b, c⟩)).run (s := s) (tk := tk) fun vs h' tk' hq1 => ?_)
  obtain ⟨hs, k, hl, hv⟩ := hq1
  refine wpAny_bind (wpAny_newList ?_ (by rw [hl]; exact Nat.le_trans hz (by decide)))
  have hoL : (h'.push (seqObj "list" vs.toArray 0)).get? h'.objs.size = some (seqObj "list" vs.toArray 0) := Heap.get?_push_size _ rfl
  refine wpAny_bind (wpAny_holding (wpAny_call_entry slot_list_sort ⟨_, hoL, rfl⟩ entry_list_sort ((srt _ vs _ _ 0 (fun f h2 => ∃ out : Array Value, G out.toList ∧ f = .done (.ret .none) ∧ h2 = sortedHeap (h'.push (seqObj "list" vs.toArray 0)) h'.objs.size vs out) hl hv hoL fun out g => ⟨out, g, rfl, rfl⟩).run (s := s) (tk := tk') fun f h2 t2 y => ?_) (args_list_sort _)))
  obtain ⟨out, g, rfl, rfl⟩ := y
  refine ⟨_, rfl, wpAny_pure ⟨_, rfl, _, t2, rfl, x _ _ out.toList hs (fun b o eb _ => ?_) (sort_at hoL) g⟩⟩
  have eb' := k b o eb (by simp)
  exact sortedHeap_kb b o (Heap.get?_push_of_some _ eb') (by simpa using Nat.ne_of_lt (Heap.lt_size eb'))
theorem sorted_dictS {kvs : List (Str × Value)} (hh : A.handled = none) (e : At h.get? d (oD (sK C) kvs)) (h5 : 503 ≤ d) (hz : kvs.length ≤ 60)
    (x : ∀ l h' vs, h.objs.size ≤ l → Kb [] h h' → At h'.get? l (oL vs) → StrsAre vs (sortS (kvs.map (·.1))) → Q (.ref l) h') : W C A (call (.builtin "sorted") [.ref d]) h Q := by
  refine sorted_dict (G := fun vs => StrsAre vs (sortS (kvs.map (·.1)))) hh e h5 hz (fun A vs h a n P hl hv ho y => W.mk fun s tk => ?_) x
  have hS := strs_of_keys hl hv
  refine list_sort_treeK (s := st s h tk) strKind_oneLt ho hS.keysOf (fun v₁ v₂ rest e => keyKind_strs (by rw [← e]; exact hS)) (by exact om27 hz hl) fun st' hp hs => ⟨_, tk, rfl, y _ ?_⟩
  obtain ⟨ss', h1, h2, h3⟩ := sorted_out_str hS hp hs
  rw [← eq_sortS h2 h3]
  exact h1
theorem sorted_dictI {kvs : List (Int × Value)} (hh : A.handled = none) (e : At h.get? d (oD (iK C) kvs)) (h5 : 503 ≤ d) (hz : kvs.length ≤ 60)
    (x : ∀ l h' vs, h.objs.size ≤ l → Kb [] h h' → At h'.get? l (oL vs) → IntsAre vs (sortI (kvs.map (·.1))) → Q (.ref l) h') : W C A (call (.builtin "sorted") [.ref d]) h Q := by
  refine sorted_dict (G := fun vs => IntsAre vs (sortI (kvs.map (·.1)))) hh e h5 hz (fun A vs h a n P hl hv ho y => W.mk fun s tk => ?_) x
  refine list_sort_tree (s := st s h tk) ho (ints_of_keys hl hv) (by exact om27 hz hl) fun out ns' h1 h2 h3 => ⟨_, tk, rfl, y _ ?_⟩
  rw [← eq_sortI h2 h3]
  exact h1
theorem sorted_listI {l : Addr} {vs : List Value} {ns : List Int} (e : At h.get? l (oL vs)) (hI : IntsAre vs ns) (hz : vs.length ≤ 60)
    (x : ∀ l' h' vs', h.objs.size ≤ l' → Kb [] h h' → At h'.get? l' (oL vs') → IntsAre vs' (sortI ns) → Q (.ref l') h') : W C A (call (.builtin "sorted") [.ref l]) h Q := W.mk fun s tk =>
  sorted_ints (s := st s h tk) e.list hI (by exact om28 hz) fun out ns' h1 h2 h3 => by
    obtain ⟨e, he⟩ := sortedAll_at h vs out
    exact ⟨_, tk, rfl, x _ _ out.toList (Nat.le_succ _) (fun b o eb _ => sortedAll_old eb) ⟨_, he, e, by simp [seqObj, lstOf]⟩ (by rw [← eq_sortI h2 h3]; exact h1)⟩
end
end
section
section
variable {C : Cx} {A : Around} {h : Heap} {P : Value → Heap → Prop} {x : Addr}
/-- an object of an own class -/
noncomputable def Inst (c0 : Addr) (F : Fz) (x : Addr) : Prop := ∃ dx es, F x = some (instObj c0 dx) ∧ At F dx (oI es)
theorem Inst.mono {c0 : Addr} {F F' : Fz} (i : Inst c0 F x) (l : Le F F') : Inst c0 F' x := let ⟨dx, es, a, b⟩ := i; ⟨dx, es, l _ _ a, b.mono l⟩
theorem Inst.at {c0 : Addr} (i : Inst c0 h.get? x) : ∃ ox od, InstAt h x ox c0 (some od) := let ⟨dx, es, a, o, b, n, e⟩ := i; ⟨_, _, inst_at a (by rw [e] at b; exact b)⟩
noncomputable def HasCls (T : String) (F : Fz) (x : Addr) : Prop := ∃ o, F x = some o ∧ o.cls = .type T
theorem HasCls.mono {T : String} {F F' : Fz} (i : HasCls T F x) (l : Le F F') : HasCls T F' x := let ⟨o, a, b⟩ := i; ⟨o, l _ _ a, b⟩
-- isinstance
structure ClsOk (C : Cx) (c0 : Addr) : Prop where
  hg : plainGet (KX C.w.params) c0 "__class__" = true
  hdct : hasDictIn (KX C.w.params) c0 = true
  ha : findIn (KX C.w.params) (.ref c0) "__class__" = some (some (.builtin "object.__class__"))
  hn : specialIn (KX C.w.params) (.builtin "object.__class__") "__get__" = some (some (.builtin "getset_descriptor.__get__"))
  htk : takesIn (KX C.w.params) (.builtin "object.__class__") = some true
  hm : mroIn (KX C.w.params) c0 (.type "object") = some true
theorem ok171 : ClsOk C 171 := ⟨by kernel_rfl, by kernel_rfl, by kernel_rfl, by kernel_rfl, by kernel_rfl, by kernel_rfl⟩
theorem ok214 : ClsOk C 214 := ⟨by kernel_rfl, by kernel_rfl, by kernel_rfl, by kernel_rfl, by kernel_rfl, by kernel_rfl⟩
theorem ok242 : ClsOk C 242 := ⟨by kernel_rfl, by kernel_rfl, by kernel_rfl, by kernel_rfl, by kernel_rfl, by kernel_rfl⟩
theorem ty_bool : typeOf (.type "bool") = pure (.type "type") := by kernel_rfl
theorem ty_int : typeOf (.type "int") = pure (.type "type") := by kernel_rfl
theorem ty_list : typeOf (.type "list") = pure (.type "type") := by kernel_rfl
theorem ty_dict : typeOf (.type "dict") = pure (.type "type") := by kernel_rfl
theorem sb_il : isSubtype (.type "int") (.type "bool") = pure false := by rw [isSubtype_type]; kernel_rfl
theorem sb_lb : isSubtype (.type "list") (.type "bool") = pure false := by rw [isSubtype_type]; kernel_rfl
theorem sb_li : isSubtype (.type "list") (.type "int") = pure false := by rw [isSubtype_type]; kernel_rfl
theorem sb_db : isSubtype (.type "dict") (.type "bool") = pure false := by rw [isSubtype_type]; kernel_rfl
theorem sb_di : isSubtype (.type "dict") (.type "int") = pure false := by rw [isSubtype_type]; kernel_rfl
theorem sb_dl : isSubtype (.type "dict") (.type "list") = pure false := by rw [isSubtype_type]; kernel_rfl
theorem sb_ll : isSubtype (.type "list") (.type "list") = pure true := by rw [isSubtype_type]; kernel_rfl
theorem sb_dd : isSubtype (.type "dict") (.type "dict") = pure true := by rw [isSubtype_type]; kernel_rfl
theorem is_int_T {n : Int} {u : Tok} {T : String} (hne : (Value.type "int" == Value.type T) = false) (hty : typeOf (.type T) = pure (.type "type")) (hsub : isSubtype (.type "int") (.type T) = pure false) (q : P (.bool false) h) :
    W C A (call (.builtin "isinstance") [.int n u, .type T]) h P := W.mk fun s tk => PySem.call_isinstance (PySem.isinstance_false_int hne hty hsub) ⟨h, _, rfl, q⟩
theorem is_int_int {n : Int} {u : Tok} (q : P (.bool true) h) : W C A (call (.builtin "isinstance") [.int n u, .type "int"]) h P := W.mk fun s tk => call_isinstance_yes (typeIs_int _ _ _) meta_int sub_int_int ⟨h, _, rfl, q⟩
theorem is_int_C {n : Int} {u : Tok} {c : Addr} (G : GF C h) (e : isNotIn (KX C.w.params) "int" c = true) (q : P (.bool false) h) : W C A (call (.builtin "isinstance") [.int n u, .ref c]) h P := W.mk fun s tk =>
  isn_call (P := fun _ => True) (s := st s h tk) G.x (fun M => Looks.of_pure rfl) e (fun q => by cases q) trivial int_cls ⟨h, _, rfl, q⟩
theorem is_list_T {T : String} (i : HasCls "list" h.get? x) (hne : (Value.type "list" == Value.type T) = false) (hty : typeOf (.type T) = pure (.type "type")) (hsub : isSubtype (.type "list") (.type T) = pure false) (q : P (.bool false) h) :
    W C A (call (.builtin "isinstance") [.ref x, .type T]) h P := W.mk fun s tk => PySem.call_isinstance (s := st s h tk) (PySem.isinstance_false_list hne hty hsub) ⟨i, ⟨h, _, rfl, q⟩⟩
theorem is_dict_T {T : String} (i : HasCls "dict" h.get? x) (hne : (Value.type "dict" == Value.type T) = false) (hty : typeOf (.type T) = pure (.type "type")) (hsub : isSubtype (.type "dict") (.type T) = pure false) (q : P (.bool false) h) :
    W C A (call (.builtin "isinstance") [.ref x, .type T]) h P := W.mk fun s tk => PySem.call_isinstance (s := st s h tk) (PySem.isinstance_false_dict hne hty hsub) ⟨i, ⟨h, _, rfl, q⟩⟩
theorem is_T_T {T : String} (i : HasCls T h.get? x) (hty : typeOf (.type T) = pure (.type "type")) (hsub : isSubtype (.type T) (.type T) = pure true) (q : P (.bool true) h) : W C A (call (.builtin "isinstance") [.ref x, .type T]) h P := W.mk fun s tk =>
  PyProof.Rows.call_isinstance_yes (s := st s h tk) (show (st s h tk).TypeIs (.ref x) T from i) hty hsub ⟨h, _, rfl, q⟩
theorem is_list_C {c : Addr} (G : GF C h) (i : HasCls "list" h.get? x) (e : isNotIn (KX C.w.params) "list" c = true) (q : P (.bool false) h) : W C A (call (.builtin "isinstance") [.ref x, .ref c]) h P := W.mk fun s tk =>
  isn_call (P := fun hh => ∃ o, hh.get? x = some o ∧ o.cls = .type "list") (s := st s h tk) G.x (fun M A' Q' E' s' k q => by obtain ⟨o, a, b⟩ := i; exact wpAny_typeOf (T := "list") ⟨o, k _ _ a, b⟩ q) e (fun q => by cases q) i list_cls ⟨h, _, rfl, q⟩
theorem is_dict_C {c : Addr} (G : GF C h) (i : HasCls "dict" h.get? x) (e : isNotIn (KX C.w.params) "dict" c = true) (q : P (.bool false) h) : W C A (call (.builtin "isinstance") [.ref x, .ref c]) h P := W.mk fun s tk =>
  isn_call (P := fun hh => ∃ o, hh.get? x = some o ∧ o.cls = .type "dict") (s := st s h tk) G.x (fun M A' Q' E' s' k q => by obtain ⟨o, a, b⟩ := i; exact wpAny_typeOf (T := "dict") ⟨o, k _ _ a, b⟩ q) e (fun q => by cases q) i dict_cls ⟨h, _, rfl, q⟩
theorem is_inst_yes {c0 : Addr} (G : GF C h) (i : Inst c0 h.get? x) (e : isIn (KX C.w.params) (.ref c0) c0 = true) (q : P (.bool true) h) : W C A (call (.builtin "isinstance") [.ref x, .ref c0]) h P := W.mk fun s tk => by
  obtain ⟨ox, od, I⟩ := i.at
  exact isi_call (s := st s h tk) G.x (fun M => I.type) e (fun q => by cases q) ⟨h, _, rfl, q⟩
theorem is_inst_C {c0 c : Addr} (G : GF C h) (i : Inst c0 h.get? x) (e : kin_not (KX C.w.params) c0 c = true) (K : ClsOk C c0) (q : P (.bool false) h) :
    W C A (call (.builtin "isinstance") [.ref x, .ref c]) h P := W.mk fun s tk => by
  obtain ⟨ox, od, I⟩ := i.at
  exact kin_callC (s := st s h tk) G.x I e K.hg K.hdct K.ha K.hn K.htk K.hm ⟨h, _, rfl, q⟩
theorem is_inst_T {c0 : Addr} {T : String} (G : GF C h) (i : Inst c0 h.get? x) (e : kin_notT (KX C.w.params) c0 T = true) (hty : typeOf (.type T) = pure (.type "type")) (K : ClsOk C c0) (q : P (.bool false) h) :
    W C A (call (.builtin "isinstance") [.ref x, .type T]) h P := W.mk fun s tk => by
  obtain ⟨ox, od, I⟩ := i.at
  exact kin_callT (s := st s h tk) G.x I e hty K.hg K.hdct K.ha K.hn K.htk K.hm ⟨h, _, rfl, q⟩
end
local macro_rules | `(tactic| walk_at "y") => `(tactic| with_reducible first | exact ty_bool | exact ty_int | exact ty_list | exact ty_dict)
local macro_rules | `(tactic| walk_at "b") => `(tactic| with_reducible first | exact sb_il | exact sb_lb | exact sb_li | exact sb_db | exact sb_di | exact sb_dl | exact sb_ll | exact sb_dd)
local macro_rules | `(tactic| walk_at "o") => `(tactic| with_reducible first | exact ok171 | exact ok214 | exact ok242)
local macro_rules | `(tactic| walk_at "i") => `(tactic| ((with_reducible show W _ _ (call _ [_, _]) _ _); first
  | with_reducible refine is_int_int ?_
  | (with_reducible refine is_int_T (by decide) (by walk_at "y") (by walk_at "b") ?_)
  | (with_reducible refine is_int_C (by walk_at "g") (by kernel_rfl) ?_)
  | refine is_inst_yes (by walk_at "g") (St.now (by assumption)) (by kernel_rfl) ?_
  | refine is_inst_C (by walk_at "g") (St.now (by assumption)) (by kernel_rfl) (by walk_at "o") ?_
  | refine is_inst_T (by walk_at "g") (St.now (by assumption)) (by kernel_rfl) (by walk_at "y") (by walk_at "o") ?_
  | refine is_T_T (St.now (by assumption)) (by walk_at "y") (by walk_at "b") ?_
  | refine is_list_T (St.now (by assumption)) (by decide) (by walk_at "y") (by walk_at "b") ?_
  | refine is_dict_T (St.now (by assumption)) (by decide) (by walk_at "y") (by walk_at "b") ?_
  | refine is_list_C (by walk_at "g") (St.now (by assumption)) (by kernel_rfl) ?_
  | refine is_dict_C (by walk_at "g") (St.now (by assumption)) (by kernel_rfl) ?_))
local macro_rules | `(tactic| walk_at "f") => `(tactic| (walk_at "r"; walk_at "i"; walk_at "r"; (refine ⟨fun q => Bool.noConfusion q, fun _ => ?_⟩)))
local macro_rules | `(tactic| walk_at "t") => `(tactic| (walk_at "r"; walk_at "i"; walk_at "r"; (refine ⟨fun _ => ?_, fun q => Bool.noConfusion q⟩)))
variable {C : Cx} {A : Around} {h : Heap} {k : Nat} {F : Fz}
noncomputable abbrev KPost (h : Heap) (s : Str) : Value → Heap → Prop := fun u h' => ∃ tk, u = .str s tk ∧ Kb [] h h' ∧ h.objs.size ≤ h'.objs.size
theorem kind_none (G : GF C h) (R : Rm A (k + 1)) : W C A (call (.ref 253) [.none]) h (KPost h (Str.ofString "null")) := by
  refine go (m := [(Str.ofString "value", .none)]) (In.nil (Φ := fun _ => True) G fun _ _ => trivial) R rfl rfl (by kernel_rfl) (fun s e => BindsTo.of_eq rfl) rfl (by kernel_rfl) (by kernel_rfl) rfl rfl rfl fun A' L h1 R' S => ?_
  refine bodyK rfl fun Rq kq => ?_
  walk_at "r"
  refine O_is ?_
  walk_at "r"
  refine ⟨fun _ => ?_, fun q => Bool.noConfusion q⟩
  walk_at "r"
  exact ⟨_, rfl, S.kb, S.size⟩
theorem kind_int {n : Int} {u : Tok} (G : GF C h) (R : Rm A (k + 1)) : W C A (call (.ref 253) [.int n u]) h (KPost h (Str.ofString "int")) := by
  refine go (m := [(Str.ofString "value", .int n u)]) (In.nil (Φ := fun _ => True) G fun _ _ => trivial) R rfl rfl (by kernel_rfl) (fun s e => BindsTo.of_eq rfl) rfl (by kernel_rfl) (by kernel_rfl) rfl rfl rfl fun A' L h1 R' S => ?_
  refine bodyK rfl fun Rq kq => ?_
  walk_at "r"
  refine O_is ?_
  walk_at "r"
  refine ⟨fun q => Bool.noConfusion q, fun _ => ?_⟩
  walk_at "f"
  walk_at "t"
  walk_at "r"
  exact ⟨_, rfl, S.kb, S.size⟩
theorem kind_name {x : Addr} (i : Inst 171 (fz [] h) x) (G : GF C h) (R : Rm A (k + 1)) : W C A (call (.ref 253) [.ref x]) h (KPost h (Str.ofString "name")) := by
  refine go (m := [(Str.ofString "value", .ref x)]) (In.nil (Φ := fun F => Inst 171 F x) G fun F l => i.mono l) R rfl rfl (by kernel_rfl) (fun s e => BindsTo.of_eq rfl) rfl (by kernel_rfl) (by kernel_rfl) rfl rfl rfl fun A' L h1 R' S => ?_
  refine bodyK rfl fun Rq kq => ?_
  walk_at "r"
  refine O_is ?_
  walk_at "r"
  refine ⟨fun q => Bool.noConfusion q, fun _ => ?_⟩
  walk_at "f"
  walk_at "f"
  walk_at "f"
  walk_at "t"
  walk_at "r"
  exact ⟨_, rfl, S.kb, S.size⟩
theorem kind_list {x : Addr} (i : HasCls "list" (fz [] h) x) (G : GF C h) (R : Rm A (k + 1)) : W C A (call (.ref 253) [.ref x]) h (KPost h (Str.ofString "array")) := by
  refine go (m := [(Str.ofString "value", .ref x)]) (In.nil (Φ := fun F => HasCls "list" F x) G fun F l => i.mono l) R rfl rfl (by kernel_rfl) (fun s e => BindsTo.of_eq rfl) rfl (by kernel_rfl) (by kernel_rfl) rfl rfl rfl fun A' L h1 R' S => ?_
  refine bodyK rfl fun Rq kq => ?_
  walk_at "r"
  refine O_is ?_
  walk_at "r"
  refine ⟨fun q => Bool.noConfusion q, fun _ => ?_⟩
  walk_at "f"
  walk_at "f"
  walk_at "f"
  walk_at "f"
  walk_at "f"
  walk_at "t"
  walk_at "r"
  exact ⟨_, rfl, S.kb, S.size⟩
theorem kind_dict {x : Addr} (i : HasCls "dict" (fz [] h) x) (G : GF C h) (R : Rm A (k + 1)) : W C A (call (.ref 253) [.ref x]) h (KPost h (Str.ofString "dict")) := by
  refine go (m := [(Str.ofString "value", .ref x)]) (In.nil (Φ := fun F => HasCls "dict" F x) G fun F l => i.mono l) R rfl rfl (by kernel_rfl) (fun s e => BindsTo.of_eq rfl) rfl (by kernel_rfl) (by kernel_rfl) rfl rfl rfl fun A' L h1 R' S => ?_
  refine bodyK rfl fun Rq kq => ?_
  walk_at "r"
  refine O_is ?_
  walk_at "r"
  refine ⟨fun q => Bool.noConfusion q, fun _ => ?_⟩
  walk_at "f"
  walk_at "f"
  walk_at "f"
  walk_at "f"
  walk_at "f"
  walk_at "f"
  walk_at "t"
  walk_at "r"
  exact ⟨_, rfl, S.kb, S.size⟩
theorem kind_stream {x : Addr} (i : Inst 214 (fz [] h) x) (G : GF C h) (R : Rm A (k + 1)) : W C A (call (.ref 253) [.ref x]) h (KPost h (Str.ofString "stream")) := by
  refine go (m := [(Str.ofString "value", .ref x)]) (In.nil (Φ := fun F => Inst 214 F x) G fun F l => i.mono l) R rfl rfl (by kernel_rfl) (fun s e => BindsTo.of_eq rfl) rfl (by kernel_rfl) (by kernel_rfl) rfl rfl rfl fun A' L h1 R' S => ?_
  refine bodyK rfl fun Rq kq => ?_
  walk_at "r"
  refine O_is ?_
  walk_at "r"
  refine ⟨fun q => Bool.noConfusion q, fun _ => ?_⟩
  walk_at "f"
  walk_at "f"
  walk_at "f"
  walk_at "f"
  walk_at "f"
  walk_at "f"
  walk_at "f"
  walk_at "t"
  walk_at "r"
  exact ⟨_, rfl, S.kb, S.size⟩
theorem kind_ref {x : Addr} (i : Inst 242 (fz [] h) x) (G : GF C h) (R : Rm A (k + 1)) : W C A (call (.ref 253) [.ref x]) h (KPost h (Str.ofString "ref")) := by
  refine go (m := [(Str.ofString "value", .ref x)]) (In.nil (Φ := fun F => Inst 242 F x) G fun F l => i.mono l) R rfl rfl (by kernel_rfl) (fun s e => BindsTo.of_eq rfl) rfl (by kernel_rfl) (by kernel_rfl) rfl rfl rfl fun A' L h1 R' S => ?_
  refine bodyK rfl fun Rq kq => ?_
  walk_at "r"
  refine O_is ?_
  walk_at "r"
  refine ⟨fun q => Bool.noConfusion q, fun _ => ?_⟩
  walk_at "f"
  walk_at "f"
  walk_at "f"
  walk_at "f"
  walk_at "f"
  walk_at "f"
  walk_at "f"
  walk_at "f"
  walk_at "t"
  walk_at "r"
  exact ⟨_, rfl, S.kb, S.size⟩
noncomputable def kindS : T → Str
  | .ref _ => Str.ofString "ref"
  | .int _ => Str.ofString "int"
  | .name _ => Str.ofString "name"
  | .array _ => Str.ofString "array"
  | .dict _ _ => Str.ofString "dict"
  | .stream _ _ _ => Str.ofString "stream"
theorem fz_nil (h : Heap) : fz [] h = h.get? := by funext a; simp [fz]
theorem kind_ok {v : Value} {t : T} (G : GF C h) (R : Rm A (k + 1)) (r : Rep C h.get? v t) : W C A (call (.ref 253) [v]) h (KPost h (kindS t)) := by
  cases r with
  | ref a b c => obtain ⟨o, e, _, _, _, _, p⟩ := b; exact kind_ref (by rw [fz_nil]; exact ⟨_, _, a, o, e, p⟩) G R
  | int n t => exact kind_int G R
  | name a b c => obtain ⟨o, e, _, _, p⟩ := b; exact kind_name (by rw [fz_nil]; exact ⟨_, _, a, o, e, p⟩) G R
  | array a b c => obtain ⟨o, e, n, rfl⟩ := a; exact kind_list (by rw [fz_nil]; exact ⟨_, e, rfl⟩) G R
  | dict a b c => obtain ⟨o, e, _, _, p, _⟩ := a; exact kind_dict (by rw [fz_nil]; exact ⟨_, e, p.1⟩) G R
  | stream a b c d e f => obtain ⟨o, e, _, _, _, p⟩ := b; exact kind_stream (by rw [fz_nil]; exact ⟨_, _, a, o, e, p⟩) G R
end
section
/-! what a tree holds -/
noncomputable def getT (ks : List Str) (xs : List T) (k : Str) : Option T := ((ks.zip xs).find? fun q => decide (q.1 = k)).map (·.2)
noncomputable def ordT (ks : List Str) (xs : List T) : List T := (sortS ks).filterMap (getT ks xs)
noncomputable def parts : T → List T
  | .array xs => xs
  | .dict ks xs => ordT ks xs
  | .stream ks xs _ => ordT ks xs
  | _ => []
section
variable {C : Cx} {F : Fz}
theorem get_rep : ∀ {kvs : List (Str × Value)} {xs : List T} {k : Str}, Reps C F (kvs.map (·.2)) xs → (k ∈ kvs.map (·.1) → ∃ v t, valueAt kvs k = some v ∧ getT (kvs.map (·.1)) xs k = some t ∧ Rep C F v t) := by
  intro kvs
  induction kvs with
  | nil => intro xs k _ h; cases h
  | cons kv r ih =>
    intro xs k x h
    cases x with
    | cons a b =>
      by_cases e : kv.1 = k
      · exact ⟨_, _, by simp [valueAt, e], by simp [getT, e], a⟩
      · have h' : k ∈ r.map (·.1) := by
          rcases List.mem_cons.mp h with h | h
          · exact absurd h.symm e
          · exact h
        obtain ⟨v, t, h1, h2, h3⟩ := ih b h'
        refine ⟨v, t, ?_, ?_, h3⟩
        · simpa [valueAt, e] using h1
        · simpa [getT, e] using h2
theorem ord_rep {kvs : List (Str × Value)} {xs : List T} (x : Reps C F (kvs.map (·.2)) xs) {acc : List Value} : ∀ {l : List Str}, (∀ k ∈ l, k ∈ kvs.map (·.1)) → acc.map some = l.map (valueAt kvs) → Reps C F acc (l.filterMap (getT (kvs.map (·.1)) xs)) := by
  intro l
  induction l generalizing acc with
  | nil => intro _ e; simp at e; subst e; exact .nil
  | cons k r ih =>
    intro hk e
    cases acc with
    | nil => simp at e
    | cons v vs =>
      obtain ⟨e1, e2⟩ := List.cons.inj (show some v :: vs.map some = valueAt kvs k :: r.map (valueAt kvs) from e)
      obtain ⟨v', t, h1, h2, h3⟩ := get_rep x (hk k (.head _))
      rw [h1] at e1; cases e1
      rw [List.filterMap_cons, h2]
      exact .cons h3 (ih (fun q hq => hk q (.tail _ hq)) e2)
theorem ordT_rep {kvs : List (Str × Value)} {xs : List T} (x : Reps C F (kvs.map (·.2)) xs) {acc : List Value} (e : acc.map some = (sortS (kvs.map (·.1))).map (valueAt kvs)) : Reps C F acc (ordT (kvs.map (·.1)) xs) :=
  ord_rep x (fun k hk => (sortS_perm _).mem_iff.mp hk) e
theorem strs_get : ∀ {vs : List Value} {ss : List Str} {i : Nat} {v : Value}, StrsAre vs ss → vs[i]? = some v → ∃ k t, ss[i]? = some k ∧ v = .str k t
  | _, _, 0, _, .cons y t _, e => by simp at e; subst e; exact ⟨_, _, rfl, rfl⟩
  | _, _, i + 1, _, .cons _ _ b, e => by simp at e; simpa using strs_get b e
theorem strs_len {vs : List Value} {ss : List Str} (x : StrsAre vs ss) : vs.length = ss.length := by
  induction x with
  | nil => rfl
  | cons _ _ _ ih => exact congrArg (· + 1) ih
end
section
variable {C : Cx} {A : Around} {h h₀ : Heap} {P : Value → Heap → Prop} {x dx d : Addr} {F : Fz} {k : Nat}
theorem C_listL {l : Addr} {vs : List Value} (e : At h.get? l (oL vs)) (hz : vs.length ≤ 1000000) (y : ∀ l' h', h.objs.size ≤ l' → Kb [] h h' → At h'.get? l' (oL vs) → P (.ref l') h') : W C A (call (.type "list") [.ref l]) h P := W.mk fun s tk => by
  obtain ⟨o, ho, n, rfl⟩ := e
  exact call_list_seq (s := st s h tk) l (.inl rfl) ho rfl rfl (fun h' c' hk hD => ⟨h', tk, rfl, y _ h' (Nat.le_refl _) (fun b o e _ => hk b o e) ⟨_, hD, c', rfl⟩⟩) (by rw [List.size_toArray]; exact Nat.le_trans hz (by decide))
theorem A_head {b : Array UInt8} (G : GF C h) (hx : h.get? x = some (instObj 214 dx)) (hd : At h.get? dx (oStream C d b)) (y : P (.ref d) h) : W C A (getAttr (.ref x) (Str.ofString "head") true) h P := by
  obtain ⟨o, e, t1, t2, tb, p⟩ := hd
  exact A_get (attr := none) G hx ⟨o, e, p⟩ (by kernel_rfl) rfl (by kernel_rfl) (by kernel_rfl) (by kernel_rfl) (by kernel_rfl) y
theorem A_octets {b : Array UInt8} (G : GF C h) (hx : h.get? x = some (instObj 214 dx)) (hd : At h.get? dx (oStream C d b)) (y : ∀ tb, P (.bytes b tb) h) : W C A (getAttr (.ref x) (Str.ofString "octets") true) h P := by
  obtain ⟨o, e, t1, t2, tb, p⟩ := hd
  exact A_get (attr := none) G hx ⟨o, e, p⟩ (by kernel_rfl) rfl (by kernel_rfl) (by kernel_rfl) (by kernel_rfl) (by kernel_rfl) (y tb)
theorem A_number {p : Pr} (G : GF C h) (hx : h.get? x = some (instObj 242 dx)) (hd : At h.get? dx (oRef C p)) (y : ∀ t, P (.int p.1 t) h) : W C A (getAttr (.ref x) (Str.ofString "number") true) h P := by
  obtain ⟨o, e, t1, t2, tn, tg, q⟩ := hd
  exact A_get (attr := none) G hx ⟨o, e, q⟩ (by kernel_rfl) rfl (by kernel_rfl) (by kernel_rfl) (by kernel_rfl) (by kernel_rfl) (y tn)
theorem A_generation {p : Pr} (G : GF C h) (hx : h.get? x = some (instObj 242 dx)) (hd : At h.get? dx (oRef C p)) (y : ∀ t, P (.int p.2 t) h) : W C A (getAttr (.ref x) (Str.ofString "generation") true) h P := by
  obtain ⟨o, e, t1, t2, tn, tg, q⟩ := hd
  exact A_get (attr := none) G hx ⟨o, e, q⟩ (by kernel_rfl) rfl (by kernel_rfl) (by kernel_rfl) (by kernel_rfl) (by kernel_rfl) (y tg)
theorem A_text {u : Str} (G : GF C h) (hx : h.get? x = some (instObj 171 dx)) (hd : At h.get? dx (oName C u)) (y : ∀ t, P (.str u t) h) : W C A (getAttr (.ref x) (Str.ofString "text") true) h P := by
  obtain ⟨o, e, t1, ts, q⟩ := hd
  exact A_get (attr := none) G hx ⟨o, e, q⟩ (by kernel_rfl) rfl (by kernel_rfl) (by kernel_rfl) (by kernel_rfl) (by kernel_rfl) (y ts)
theorem M_pair {p : Pr} {pl : Sem Bool} {R : Value × List Value → Heap → Prop} (G : GF C h) (hx : h.get? x = some (instObj 242 dx)) (hd : At h.get? dx (oRef C p)) (y : R (.ref 239, [.ref x]) h) : W C A (getMethod (.ref x) (Str.ofString "pair") pl) h R := by
  obtain ⟨o, e, t1, t2, tn, tg, q⟩ := hd
  exact M_inst G hx ⟨o, e, q⟩ (by kernel_rfl) (by kernel_rfl) (by kernel_rfl) (by kernel_rfl) y
end
section
variable {C : Cx} {A : Around} {h : Heap} {F : Fz} {k : Nat}
/-- a new list of known values -/
noncomputable abbrev LPost (C : Cx) (F : Fz) (h : Heap) (ts : List T) : Value → Heap → Prop := fun r h' => ∃ l vs, r = .ref l ∧ 503 ≤ l ∧ At (nw h h') l (oL vs) ∧ Reps C F vs ts ∧ Kb [] h h' ∧ h.objs.size ≤ h'.objs.size
theorem parts_plain {v : Value} {t : T} (G : GF C h) (R : Rm A (k + 2)) (hF : Le F h.get?) (r : Rep C F v t) (h1 : (kindS t == Str.ofString "array") = false) (h2 : (kindS t == Str.ofString "dict") = false) (h3 : (kindS t == Str.ofString "stream") = false) :
    W C A (call (.ref 275) [v]) h (LPost C F h []) := by
  refine go1 (k := k + 1) (m := []) (v1 := some v) (x1 := Str.ofString "value") (In.nil (Φ := fun F' => Le F F') G fun F' l => hF.trans (by rw [fz_nil] at l; exact l)) R rfl rfl (by kernel_rfl) (fun s e => BindsTo.of_eq rfl) (by kernel_rfl) (fun n => rfl) (fun L => rfl) (fun L => rfl) rfl rfl rfl fun A' L h1' cv R' S => ?_
  refine bodyK rfl fun Rq kq => ?_
  walk_at "r"
  refine ⟨S.g, (kind_ok S.g R' (r.mono S.now)).mono fun u h2' hq1 => ?_⟩
  obtain ⟨tk, e, k2, z2⟩ := hq1
  subst e
  have S2 := S.keep k2
  clear S
  walk_at "s"
  intro h3' S3
  clear S2
  walk_at "r"
  refine O_eqs ?_
  walk_at "r"
  refine ⟨no_tt h1, fun _ => ?_⟩
  walk_at "r"
  refine O_eqs ?_
  walk_at "r"
  refine ⟨no_tt h2, fun _ => ?_⟩
  walk_at "r"
  refine O_eqs ?_
  walk_at "r"
  refine ⟨no_tt h3, fun _ => ?_⟩
  walk_at "r"
  refine S_listF S3 fun l h4 n4 l5 S4 => ?_
  obtain ⟨o, e, p⟩ := S4.now.1
  exact (kq.go ⟨l, [], rfl, l5, ⟨o, ge_of (Nat.le_trans S3.size n4) e, p⟩, .nil, S4.kb, S4.size⟩)
theorem parts_array {l : Addr} {vs : List Value} {xs : List T} (G : GF C h) (R : Rm A (k + 2)) (hF : Le F h.get?) (e0 : At F l (oL vs)) (r0 : Reps C F vs xs) (l5 : 503 ≤ l) (hz : vs.length ≤ 1000000) :
    W C A (call (.ref 275) [.ref l]) h (LPost C F h xs) := by
  refine go1 (k := k + 1) (m := []) (v1 := some (.ref l)) (x1 := Str.ofString "value") (In.nil (Φ := fun F' => Le F F') G fun F' l => hF.trans (by rw [fz_nil] at l; exact l)) R rfl rfl (by kernel_rfl) (fun s e => BindsTo.of_eq rfl) (by kernel_rfl) (fun n => rfl) (fun L => rfl) (fun L => rfl) rfl rfl rfl fun A' L h1' cv R' S => ?_
  refine bodyK rfl fun Rq kq => ?_
  walk_at "r"
  refine ⟨S.g, (kind_ok S.g R' (.array (e0.mono S.now) (r0.mono S.now) l5)).mono fun u h2' hq2 => ?_⟩
  obtain ⟨tk, e, k2, z2⟩ := hq2
  subst e
  have S2 := S.keep k2
  clear S
  walk_at "s"
  intro h3' S3
  clear S2
  walk_at "r"
  refine O_eqs ?_
  walk_at "r"
  refine ⟨fun _ => ?_, no_ff (by kernel_rfl)⟩
  walk_at "r"
  refine C_listL (e0.mono S3.now) hz fun l' h4 n4 k4 e4 => ?_
  have S4 := S3.keep k4
  obtain ⟨o, e, p⟩ := e4
  exact (kq.go ⟨l', vs, rfl, Nat.le_trans S3.h5 n4, ⟨o, ge_of (Nat.le_trans S3.size n4) e, p⟩, r0, S4.kb, S4.size⟩)
theorem parts_dict {d : Addr} {kvs : List (Str × Value)} {xs : List T} (G : GF C h) (R : Rm A (k + 2)) (hF : Le F h.get?) (e0 : At F d (oD (sK C) kvs)) (r0 : Reps C F (kvs.map (·.2)) xs) (d5 : 503 ≤ d) (hz : kvs.length ≤ 60) :
    W C A (call (.ref 275) [.ref d]) h (LPost C F h (ordT (kvs.map (·.1)) xs)) := by
  refine go1 (k := k + 1) (m := []) (v1 := some (.ref d)) (x1 := Str.ofString "value") (In.nil (Φ := fun F' => Le F F') G fun F' l => hF.trans (by rw [fz_nil] at l; exact l)) R rfl rfl (by kernel_rfl) (fun s e => BindsTo.of_eq rfl) (by kernel_rfl) (fun n => rfl) (fun L => rfl) (fun L => rfl) rfl rfl rfl fun A' L h1' cv R' S => ?_
  refine bodyK rfl fun Rq kq => ?_
  walk_at "r"
  refine ⟨S.g, (kind_ok S.g R' (.dict (e0.mono S.now) (r0.mono S.now) d5)).mono fun u h2' hq3 => ?_⟩
  obtain ⟨tk, e, k2, z2⟩ := hq3
  subst e
  have S2 := S.keep k2
  clear S
  walk_at "s"
  intro h3' S3
  clear S2
  walk_at "r"
  refine O_eqs ?_
  walk_at "r"
  refine ⟨no_tt (by kernel_rfl), fun _ => ?_⟩
  walk_at "r"
  refine O_eqs ?_
  walk_at "r"
  refine ⟨fun _ => ?_, no_ff (by kernel_rfl)⟩
  walk_at "r"
  refine E_comp (h₀ := h) (M := []) (L := L) (cl := [(Str.ofString "value", cv)]) ?_ (by with_unfolding_all rfl) (by kernel_rfl) rfl (by kernel_rfl)
  walk_at "r"
  refine sorted_dictS R'.hd (e0.mono S3.now) d5 hz fun sl h4 vs n4 k4 e4 st4 => ?_
  have S4 := S3.keepAt k4 n4 e4
  clear S3
  refine I_list S4 S4.now.1 fun I h5 n5 ne S5 => ?_
  clear S4
  have S6 := S5.imp (Ψ := fun F' => At F' sl (oL vs) ∧ Le F F') fun F l x => x
  refine ⟨I, vs.length, _, oLI sl, _, _, _, _, fun D Cc i acc hh => ∃ o : Option Value, St C h5 [L, I, cv] Cc (o.map fun u => (Str.ofString "key", u)).toList ((D, oL acc) :: (I, oLI sl i) :: (L, oNs (upd [] (Str.ofString "kind") (.str (Str.ofString "dict") tk))) :: (cv, oCell (some (.ref d))) :: []) (fun F' => At F' sl (oL vs) ∧ Le F F') hh ∧ acc.map some = ((sortS (kvs.map (·.1))).take i).map (valueAt kvs), rfl, Itr.list ne, R'.hd, fun F' _ x => x.1, S6, ?_, ?_, ?_⟩
  · intro D Cc hh hD S7
    exact ⟨none, S7, by simp⟩
  · intro D Cc hD
    refine ⟨fun i acc hh hi ⟨o, S7, ea⟩ => ⟨_, _, _, S7, S7.now.1, fun v h8 pv S8 => ?_⟩⟩
    clear S7
    obtain ⟨ks, tks, ek, rfl⟩ := strs_get st4 pv
    walk_at "w"
    walk_at "s"
    intro h9 S9
    clear S8
    have S10 := S9.lo (upd_o o _ _)
    clear S9
    refine ts_nil ⟨fun q => Bool.noConfusion q, fun _ => ?_⟩
    walk_at "r"
    obtain ⟨v, t, hv, -, -⟩ := get_rep r0 ((sortS_perm (kvs.map (·.1))).mem_iff.mp (List.mem_of_getElem? ek))
    refine D_sub (knd := sK C) (k := ks) (by simp [PySem.strKind, Value.isStrOf]) (e0.mono S10.now.2) hv ?_
    have la : acc.length ≤ 1000000 := by
      have := congrArg List.length ea
      simp only [List.length_map, List.length_take] at this
      have := (sortS_perm (kvs.map (·.1))).length_eq
      simp only [List.length_map] at this
      omega
    refine ⟨_, _, _, S10, la, fun h10 S11 => ⟨some (.str ks tks), S11, ?_⟩⟩
    rw [List.map_append, ea, List.take_add_one, ek]
    simp [hv]
  · intro D Cc acc hh hD ⟨o, S7, ea⟩
    refine ⟨_, (cv, oCell _) :: [], _, rfl, S7, S7.now.1, fun h8 S8 => ?_⟩
    rw [strs_len st4, List.take_length] at ea
    have S9 := S8.freeze (Ψ := fun F' => At F' D (oL acc) ∧ Le F F') fun F o po _ e x => ⟨⟨o, e, po⟩, x.2⟩
    obtain ⟨o, e, p⟩ := S9.now.1
    exact (kq.go ⟨D, acc, rfl, Nat.le_trans S6.h5 hD, ⟨o, ge_of (Nat.le_trans S6.size hD) e, p⟩, ordT_rep r0 ea, S9.kb, S9.size⟩)
theorem parts_stream {x dx d : Addr} {kvs : List (Str × Value)} {xs : List T} {b : Array UInt8} (G : GF C h) (R : Rm A (k + 3)) (hF : Le F h.get?) (ex : F x = some (instObj 214 dx)) (ed : At F dx (oStream C d b)) (e0 : At F d (oD (sK C) kvs)) (r0 : Reps C F (kvs.map (·.2)) xs) (d5 : 503 ≤ d) (x5 : 503 ≤ x) (hz : kvs.length ≤ 60) :
    W C A (call (.ref 275) [.ref x]) h (LPost C F h (ordT (kvs.map (·.1)) xs)) := by
  refine go1 (k := k + 2) (m := []) (v1 := some (.ref x)) (x1 := Str.ofString "value") (In.nil (Φ := fun F' => Le F F') G fun F' l => hF.trans (by rw [fz_nil] at l; exact l)) R rfl rfl (by kernel_rfl) (fun s e => BindsTo.of_eq rfl) (by kernel_rfl) (fun n => rfl) (fun L => rfl) (fun L => rfl) rfl rfl rfl fun A' L h1' cv R' S => ?_
  refine bodyK rfl fun Rq kq => ?_
  walk_at "r"
  refine ⟨S.g, (kind_ok S.g R' (.stream (S.now _ _ ex) (ed.mono S.now) (e0.mono S.now) (r0.mono S.now) d5 x5)).mono fun u h2' hq4 => ?_⟩
  obtain ⟨tk, e, k2, z2⟩ := hq4
  subst e
  have S2 := S.keep k2
  clear S
  walk_at "s"
  intro h3' S3
  clear S2
  walk_at "r"
  refine O_eqs ?_
  walk_at "r"
  refine ⟨no_tt (by kernel_rfl), fun _ => ?_⟩
  walk_at "r"
  refine O_eqs ?_
  walk_at "r"
  refine ⟨no_tt (by kernel_rfl), fun _ => ?_⟩
  walk_at "r"
  refine O_eqs ?_
  walk_at "r"
  refine ⟨fun _ => ?_, no_ff (by kernel_rfl)⟩
  walk_at "r"
  refine A_head S3.g (S3.now _ _ ex) (ed.mono S3.now) ?_
  walk_at "r"
  refine ⟨S3.g, (parts_dict S3.g R' S3.now e0 r0 d5 hz).mono fun r h4 hq5 => ?_⟩
  obtain ⟨l, vs, e, l5, el, rl, k4, z4⟩ := hq5
  have S4 := S3.keep k4
  exact (kq.go ⟨l, vs, e, l5, el.mono (ge_mono Le.refl S3.size), rl, S4.kb, S4.size⟩)
theorem parts_ok {v : Value} {t : T} (G : GF C h) (R : Rm A (k + 3)) (hF : Le F h.get?) (r : Rep C F v t) (hz : t.size ≤ 60) : W C A (call (.ref 275) [v]) h (LPost C F h (parts t)) := by
  have R2 : Rm A (k + 1 + 2) := R
  cases r with
  | ref a b c => exact parts_plain G R2 hF (.ref a b c) (by kernel_rfl) (by kernel_rfl) (by kernel_rfl)
  | int n t => exact parts_plain G R2 hF (.int n t) (by kernel_rfl) (by kernel_rfl) (by kernel_rfl)
  | name a b c => exact parts_plain G R2 hF (.name a b c) (by kernel_rfl) (by kernel_rfl) (by kernel_rfl)
  | @array l vs xs a b c =>
    have := b.length
    have := length_le_sizes xs
    simp only [T.size] at hz
    exact parts_array G R2 hF a b c (by omega)
  | @dict d kvs xs a b c =>
    have := b.length
    have := length_le_sizes xs
    simp only [T.size] at hz
    rw [List.length_map] at *
    exact parts_dict G R2 hF a b c (by omega)
  | @stream x dx d kvs xs bb a b c e f g =>
    have := e.length
    have := length_le_sizes xs
    simp only [T.size] at hz
    rw [List.length_map] at *
    exact parts_stream G R hF a b c e f g (by omega)
end
end
section
section
variable {C : Cx} {A : Around} {env : Env} {h h₀ : Heap} {M : List Addr} {L : Addr} {Q : Flow → Heap → Prop} {P : Value → Heap → Prop} {rest : List Stmt}
/-- what a comprehension whose turns turn nothing must show, from its iterator on -/
inductive CompP (C : Cx) (A : Around) (h₀ : Heap) (M : List Addr) (L : Addr) (tx : Str) (elt : Expr) (ifs : List Expr) (cenv : Addr → Env) (P : Addr → Nat → Loc → Led → (Fz → Prop) → (Nat → List Value → Fz → Prop) → Heap → Prop) (it : Value) (h2 : Heap) : Prop
  | mk (I : Addr) (n : Nat) (Pv : Nat → Value → Prop) (oit : Nat → Obj → Prop) (Fact : Fz → Prop) (m : Loc) (σ : Led) (Φ : Fz → Prop) (G : Nat → List Value → Fz → Prop) (e : it = .ref I) (T : Itr C I n Pv oit Fact) (hh : A.handled = none) (hn : n ≤ 100000)
    (hF : ∀ h' : Heap, (∀ q ∈ σ, At h'.get? q.1 q.2) → Φ h'.get? → Fact h'.get?) (hG : ∀ F, Φ F → G 0 [] F) (S : St C h₀ M L m ((I, oit 0) :: σ) Φ h2)
    (turn : ∀ i acc v D Cc h6 (Kf : Heap → Prop) (Kt : Value → Heap → Prop), i < n → Pv i v → acc.length ≤ i → h2.objs.size ≤ D →
      (∀ h7, St C h2 (L :: I :: ads σ) Cc [(tx, v)] ((D, oL acc) :: (I, oit (i + 1)) :: (L, oNs m) :: σ) (fun F => G (i + 1) acc F ∧ Φ F) h7 → Kf h7) →
      (∀ y h8, St C h2 (L :: I :: ads σ) Cc [(tx, v)] ((D, oL acc) :: (I, oit (i + 1)) :: (L, oNs m) :: σ) (fun F => G (i + 1) (acc ++ [y]) F ∧ Φ F) h8 → Kt y h8) →
      St C h2 (L :: I :: ads σ) Cc [(tx, v)] ((D, oL acc) :: (I, oit (i + 1)) :: (L, oNs m) :: σ) (fun F => G i acc F ∧ Φ F) h6 →
      W C A (tests ifs (cenv Cc)) h6 (fun b h7 => (b = false → Kf h7) ∧ (b = true → W C A (eval elt (cenv Cc)) h7 Kt)))
    (fin : P I n m σ Φ G h2)
theorem compP_turn {tx : Str} {tp : Pos} {elt : Expr} {ifs : List Expr} {scope : Scope} {cl : List (Str × Addr)} {I : Addr} {n : Nat} {Pv : Nat → Value → Prop} {oit : Nat → Obj → Prop} {Fact : Fz → Prop} {m : Loc} {σ : Led} {Φ : Fz → Prop} {G : Nat → List Value → Fz → Prop} {h2 : Heap}
    (hn : n ≤ 100000) (hF : ∀ h' : Heap, (∀ q ∈ σ, At h'.get? q.1 q.2) → Φ h'.get? → Fact h'.get?) (hkind : scope.kind = .function) (hkx : ∀ Cc, (compEnvC scope cl Cc env).kindOf tx = some .local)
    (turn : ∀ i acc v D Cc h6, i < n → Pv i v → acc.length ≤ i → h2.objs.size ≤ D → St C h2 (L :: I :: ads σ) Cc [(tx, v)] ((D, oL acc) :: (I, oit (i + 1)) :: (L, oNs m) :: σ) (fun F => G i acc F ∧ Φ F) h6 →
      W C A (tests ifs (compEnvC scope cl Cc env)) h6 (fun b h7 =>
        (b = false → St C h2 (L :: I :: ads σ) Cc [(tx, v)] ((D, oL acc) :: (I, oit (i + 1)) :: (L, oNs m) :: σ) (fun F => G (i + 1) acc F ∧ Φ F) h7) ∧
        (b = true → W C A (eval elt (compEnvC scope cl Cc env)) h7 (fun y h8 => St C h2 (L :: I :: ads σ) Cc [(tx, v)] ((D, oL acc) :: (I, oit (i + 1)) :: (L, oNs m) :: σ) (fun F => G (i + 1) (acc ++ [y]) F ∧ Φ F) h8)))) {D : Addr} (hD : h2.objs.size ≤ D) {Cc : Addr} :
    Comp C A h2 (L :: I :: ads σ) I n Pv oit Fact (.Name tx tp) elt ifs (fun Cc => compEnvC scope cl Cc env)
      (fun D Cc i acc hh => ∃ o : Option Value, St C h2 (L :: I :: ads σ) Cc (o.map fun u => (tx, u)).toList ((D, oL acc) :: (I, oit i) :: (L, oNs m) :: σ) (fun F => G i acc F ∧ Φ F) hh ∧ acc.length ≤ i) D Cc where
  turn := fun i acc hh hi ⟨o, S, ha⟩ => ⟨_, _, _, S, hF _ (fun q hq => S.own q (.tail _ (.tail _ (.tail _ hq)))) S.now.2, fun v h8 pv S8 => A_name (N_store (by exact S8) (by exact hkind) (hkx Cc) fun h9 S9 => (turn i acc v D Cc h9 hi pv ha hD (S9.lo (upd_o o _ _))).mono fun b h10 y =>
    ⟨fun e => ⟨some v, y.1 e, Nat.le_succ_of_le ha⟩, fun e => (y.2 e).mono fun z h11 S11 => ⟨_, _, _, S11, by omega, fun h12 S12 => ⟨some v, S12, by simp; omega⟩⟩⟩)⟩
theorem E_compP {elt iter : Expr} {tx : Str} {tp : Pos} {ifs : List Expr} {scope : Scope} {pos : Pos} {cl : List (Str × Addr)}
    (x : W C A (eval iter env) h (fun xv h1 => W C A (pyIter xv) h1 (CompP C A h₀ M L tx elt ifs (fun Cc => compEnvC scope cl Cc env) (fun I n m σ Φ G h2 =>
      ∀ D acc h', h2.objs.size ≤ D → 503 ≤ D → acc.length ≤ n → St C h₀ M L m ((D, oL acc) :: σ) (fun F => G n acc F ∧ Φ F) h' → P (.ref D) h'))))
    (hclos : closureFor scope env = pure cl) (hcell : (scope.names.all fun y => y.2 != .cell) = true) (hkind : scope.kind = .function) (hnames : (scope.names.all fun y => y.2 != .local || scope.names.lookup y.1 == some .local) = true) (hkx : ∀ Cc, (compEnvC scope cl Cc env).kindOf tx = some .local)
    (hs : ∀ x, foldedSetIterable iter env x = pure x := by intro _; with_unfolding_all rfl) :
    W C A (eval (.ListComp elt [⟨.Name tx tp, iter, ifs, 0⟩] scope pos) env) h P := by
  refine E_comp (h₀ := h₀) (M := M) (L := L) (cl := cl) (x.mono fun xv h1 x => x.mono fun it h2 x => ?_) hclos hcell hkind hnames hs
  obtain ⟨I, n, Pv, oit, Fact, m, σ, Φ, G, rfl, T, hh, hn, hF, hG, S, turn, fin⟩ := x
  refine ⟨I, n, Pv, oit, Fact, m, σ, Φ, _, rfl, T, hh, hF, S, ?_, fun D Cc hD => compP_turn hn hF hkind hkx (fun i acc v D Cc h6 a b c d S => turn i acc v D Cc h6 _ _ a b c d (fun _ x => x) (fun _ _ x => x) S) hD, ?_⟩
  · intro D Cc h3 hD S3
    exact ⟨none, S3.imp fun F _ f => ⟨hG F f, f⟩, Nat.le_refl _⟩
  · rintro D Cc acc h1 hD ⟨o, S3, ha⟩
    exact ⟨_, _, _, rfl, S3, hF _ (fun q hq => S3.own q (.tail _ (.tail _ (.tail _ hq)))) S3.now.2, fun h' S4 => fin D acc h' hD (Nat.le_trans S.h5 hD) ha S4⟩
theorem X_compP {elt iter : Expr} {tx y : Str} {tp py spos : Pos} {ifs : List Expr} {scope : Scope} {pos : Pos} {cl : List (Str × Addr)}
    (x : W C A (eval iter env) h (fun xv h1 => W C A (pyIter xv) h1 (CompP C A h₀ M env.locals tx elt ifs (fun Cc => compEnvC scope cl Cc env) (fun I n m σ Φ G h2 =>
      ∀ D acc h', h2.objs.size ≤ D → 503 ≤ D → acc.length ≤ n → St C h₀ M env.locals (upd m y (.ref D)) ((D, oL acc) :: σ) (fun F => G n acc F ∧ Φ F) h' → W C A (execs rest env) h' Q))))
    (hsw : swapsWith (.ListComp elt [⟨.Name tx tp, iter, ifs, 0⟩] scope pos) (some (.Name y py)) spos.line env = pure true) (hy : env.kindOf y = some .local) (hkf : env.scope.kind = .function)
    (hclos : closureFor scope env = pure cl) (hcell : (scope.names.all fun y => y.2 != .cell) = true) (hkind : scope.kind = .function) (hnames : (scope.names.all fun y => y.2 != .local || scope.names.lookup y.1 == some .local) = true) (hkx : ∀ Cc, (compEnvC scope cl Cc env).kindOf tx = some .local)
    (hs : ∀ x, foldedSetIterable iter env x = pure x := by intro _; with_unfolding_all rfl) :
    W C A (execs (.Assign [.Name y py] (.ListComp elt [⟨.Name tx tp, iter, ifs, 0⟩] scope pos) spos :: rest) env) h Q := by
  refine X_assignC (h₀ := h₀) (M := M) (cl := cl) (x.mono fun xv h1 x => x.mono fun it h2 x => ?_) hsw hy hkf hclos hcell hkind hnames hs
  obtain ⟨I, n, Pv, oit, Fact, m, σ, Φ, G, rfl, T, hh, hn, hF, hG, S, turn, fin⟩ := x
  refine ⟨I, n, Pv, oit, Fact, m, σ, Φ, _, rfl, T, hh, hF, S, ?_, fun D Cc hD => compP_turn hn hF hkind hkx (fun i acc v D Cc h6 a b c d S => turn i acc v D Cc h6 _ _ a b c d (fun _ x => x) (fun _ _ x => x) S) hD, ?_⟩
  · intro D Cc h3 hD S3
    exact ⟨none, S3.imp fun F _ f => ⟨hG F f, f⟩, Nat.le_refl _⟩
  · rintro D Cc acc h1 hD ⟨o, S3, ha⟩
    exact ⟨_, _, _, rfl, S3, hF _ (fun q hq => S3.own q (.tail _ (.tail _ (.tail _ hq)))) S3.now.2, fun h' S4 => fin D acc h' hD (Nat.le_trans S.h5 hD) ha S4⟩
end
end
section
theorem hint_rev : typeLookup (.type "list_reverseiterator") "__length_hint__" = pure (some (.builtin "list_reverseiterator.__length_hint__")) := by rw [typeLookup_type, builtinLookup_eq_fast]; kernel_rfl
theorem nolen_rev : typeLookup (.type "list_reverseiterator") "__len__" = pure none := by rw [typeLookup_type, builtinLookup_eq_fast]; kernel_rfl
noncomputable def oVI (l : Addr) (n i : Nat) : Obj → Prop := fun o => i ≤ n ∧ o.cls = .type "list_reverseiterator" ∧ o.data = .fields #[.ref l, rawInt ((n : Int) - 1 - (i : Int))]
section
variable {C : Cx} {A : Around} {h h₀ : Heap} {I l : Addr} {M : List Addr} {L : Addr} {m : Loc} {σ : Led} {Φ : Fz → Prop} {P : Value → Heap → Prop} {n : Nat} {Pv : Nat → Value → Prop} {oit : Nat → Obj → Prop} {Fact : Fz → Prop}
theorem Itr.rev {l : Addr} {vs : List Value} (hne : l ≠ I) : Itr C I vs.length (fun i v => vs[vs.length - 1 - i]? = some v) (oVI l vs.length) (fun F => At F l (oL vs)) := by
  have X : ∀ A, A.handled = none → Walks PR C.w A I [I, l] [I] vs.length (fun i v => vs[vs.length - 1 - i]? = some v) (fun i h => i ≤ vs.length ∧ h.IsRevIter I l ((vs.length : Int) - 1 - (i : Int)) ∧ h.IsList l vs.toArray) := fun A hh => by
    simpa using Walks.listRev (prog := PR) (w := C.w) (A := A) hh I l hne vs.toArray
  exact Itr.ofWalks (vs := fun i => #[.ref l, rawInt ((vs.length : Int) - 1 - (i : Int))]) X (fun i h f ⟨o, e, p, q⟩ => ⟨p, ⟨o, e, q⟩, f.list⟩) (fun i h x => let ⟨p, ⟨o, e, q⟩, _⟩ := x; ⟨o, e, p, q⟩) (fun i o x => x.2.1) (fun i o x => x.2.2) (by decide)
theorem C_reversed {b : Addr} {vs : List Value} (S : St C h₀ M L m σ Φ h) (e : At h.get? b (oL vs)) (y : ∀ r h', h.objs.size ≤ r → b ≠ r → St C h₀ M L m ((r, oVI b vs.length 0) :: σ) Φ h' → P (.ref r) h') : W C A (call (.type "reversed") [.ref b]) h P := W.mk fun s tk =>
  call_reversed_list (s := st s h tk) e.list ⟨_, tk, rfl, y _ _ (Nat.le_refl _) (Nat.ne_of_lt e.lt) (S.push _ ⟨Nat.zero_le _, rfl, by simp [revObj]⟩)⟩
theorem extend_loop (T : Itr C I n Pv oit Fact) (hF : ∀ F, Φ F → Fact F) (hh : A.handled = none) {res : Value} {R : Result → Shared → Prop} (s : Shared) : ∀ (k i : Nat) (acc : List Value) (h : Heap) (tk : Nat), n - i = k → i ≤ n →
    St C h₀ M L m ((I, oit i) :: (l, oL acc) :: σ) Φ h → acc.length + k ≤ 1000000 →
    (∀ ws h' tk', ws.length = k → (∀ j v, ws[j]? = some v → Pv (i + j) v) → St C h₀ M L m ((l, oL (acc ++ ws)) :: σ) Φ h' → R (.ok (.ret res)) (st s h' tk')) →
    codeAny (model PR C.w) A (.builtin "list.extend.loop" ⟨[.ref l, .ref I, res], []⟩) R (st s h tk) := by
  intro k
  induction k with
  | zero =>
    intro i acc h tk hk hi S hz y
    obtain rfl : i = n := by exact om29 hk hi
    refine codeAny_builtin PySem.F.entry_extend_loop ?_
    rw [Around.under_plainId PySem.F.plain_extend_loop _]
    show wpAny _ A.in1 (pyNext (.ref I) >>= _) _ _ _
    refine wpAny_bind ((T.done A.in1 h (fun r h' => r = none ∧ Kb [I] h h') hh (hF _ S.now) S.at0 fun h' k => ⟨rfl, k⟩).run fun r h' tk' q => ?_)
    obtain ⟨e, k⟩ := q
    subst e
    exact wpAny_pure (y [] h' tk' rfl (fun j v e => nomatch (List.getElem?_nil.symm.trans e)) (by rw [List.append_nil]; exact S.drop0 k))
  | succ k ih =>
    intro i acc h tk hk hi S hz y
    refine codeAny_builtin PySem.F.entry_extend_loop ?_
    rw [Around.under_plainId PySem.F.plain_extend_loop _]
    show wpAny _ A.in1 (pyNext (.ref I) >>= _) _ _ _
    refine wpAny_bind ((T.next A.in1 h i (fun r h' => ∃ v, r = some v ∧ Pv i v ∧ Kb [I] h h' ∧ At h'.get? I (oit (i + 1))) hh (by exact om30 hk hi) (hF _ S.now) S.at0 fun v h' pv k e => ⟨v, rfl, pv, k, e⟩).run fun r h' tk' hq1 => ?_)
    obtain ⟨v, e, pv, kk, ee⟩ := hq1
    subst e
    have S2 := S.put0 kk ee
    obtain ⟨o, ho, c, rfl⟩ := S2.at1
    show wpAny _ A.in1 (updateSeq l (·.push v) >>= _) _ _ _
    refine wpAny_bind ?_
    refine wpAny_updateSeq ho rfl (wpAny_pure ⟨plainId_quiet PySem.F.plain_extend_loop _, ?_⟩) (by rw [List.size_toArray]; exact Nat.le_trans (show acc.length ≤ 1000000 by exact om31 hz) (by decide)) (by
      show (acc.toArray.push v).size ≤ sizeLine + 1
      rw [Array.size_push, List.size_toArray]; exact Nat.le_trans (show acc.length + 1 ≤ 1000000 by exact om32 hz) (by decide))
    have S3 := S2.put1 (P' := oL (acc ++ [v])) (upd_kb (f := Obj.mapSeq (·.push v))) (upd_at (f := (·.push v)) ho (by simp))
    refine ih (i + 1) (acc ++ [v]) _ _ (by exact om33 hk hi) (by exact om34 hk hi) S3 (by simp; exact om35 hz) fun ws h'' tk'' hw hp S4 => y (v :: ws) h'' tk'' (by simp [hw]) (fun j w e => ?_) (by rw [List.append_assoc] at S4; exact S4)
    cases j with
    | zero => simp at e; subst e; exact pv
    | succ j => have := hp j w (by simpa using e); rwa [show i + 1 + j = i + (j + 1) by exact om36] at this
theorem O_extendRev {r b : Addr} {vs ws : List Value} (hh : A.handled = none) (S : St C h₀ M L m ((r, oVI b ws.length 0) :: (l, oL vs) :: σ) Φ h) (hb : ∀ F, Φ F → At F b (oL ws)) (hne : b ≠ r) (hz : vs.length + ws.length ≤ 1000000)
    (y : ∀ h', St C h₀ M L m ((l, oL (vs ++ ws.reverse)) :: σ) Φ h' → P .none h') : W C A (call (.builtin "list.extend") [.ref l, .ref r]) h P := W.mk fun s tk => by
  obtain ⟨o, ho, c, rfl⟩ := S.at1
  have hlr : l ≠ r := fun e => (List.nodup_cons.mp S.ndσ).1 (by rw [e]; exact .head _)
  have hT : (st s h tk).TypeIs (.ref r) "list_reverseiterator" := let ⟨o, e, p⟩ := S.at0; ⟨o, e, p.2.1⟩
  have hit : (st s h tk).heap.IsRevIter r b ((ws.length : Int) - 1 - (0 : Nat)) := let ⟨o, e, p⟩ := S.at0; ⟨o, e, p.2⟩
  refine call_meetsIn (s := st s h tk) PySem.F.slot_list_extend ⟨_, ho, rfl⟩ PySem.F.entry_list_extend (PySem.F.args_list_extend_2 _ _) (S := fun A' R s' => A' = A ∧ s' = st s h tk ∧ ∀ h' tk', St C h₀ M L m ((l, oL (vs ++ ws.reverse)) :: σ) Φ h' → R (.ok (.ret .none)) (st s h' tk')) ?_ ⟨rfl, rfl, fun h' tk' S' => ⟨h', tk', rfl, y h' S'⟩⟩
  rintro A' R s' ⟨rfl, rfl, fin⟩
  show wpAny _ A'.in1 (Builtin.List.listExtendWith (.ref l) (.ref r) .none) _ _ _
  unfold Builtin.List.listExtendWith
  refine wpAny_bind (wpAny_typeOf hT ?_)
  have h1 : Builtin.List.listSameRef (.ref l) (.ref r) = false := by simp [Builtin.List.listSameRef, hlr]
  rw [if_neg (by rw [h1]; decide)]
  refine wpAny_bind (wpAny_pyIter_revIter hit ?_)
  refine wpAny_bind (wpAny_holding ?_)
  unfold Builtin.List.listLengthHint
  refine wpAny_bind (wpAny_specialOf hT nolen_rev ?_)
  show wpAny _ A'.in1 (specialOf (Value.ref r) (Str.ofString "__length_hint__") >>= _) _ _ _
  refine wpAny_bind (wpAny_specialOf hT hint_rev ?_)
  generalize hid : ("list_reverseiterator.__length_hint__" : String) = id0
  wp_delta
  rw [show splitId id0 = some ("list_reverseiterator", "__length_hint__") from by subst hid; decide +kernel]
  subst hid
  refine wpAny_bind (wpAny_isInstance (b := true) hT (by rw [isSubtype_type]; kernel_rfl) ?_)
  refine wpAny_pure ?_
  rw [if_neg (by decide)]
  refine wpAny_pure ⟨plainId_quiet PySem.F.plain_extend_loop _, extend_loop (Itr.rev hne) hb hh s ws.length 0 vs h _ rfl (Nat.zero_le _) S (by exact om37 hz) fun us h' tk' hl hp S' => ?_⟩
  have e : us = ws.reverse := List.ext_getElem? fun j => by
    by_cases hj : j < ws.length
    · obtain ⟨u, hu⟩ : ∃ u, us[j]? = some u := ⟨us[j]'(by exact om38 hl hj), List.getElem?_eq_getElem (by exact om38 hl hj)⟩
      have := hp j u hu
      rw [hu, List.getElem?_reverse hj, ← this]
      simp
    · rw [List.getElem?_eq_none (by exact om39 hl hj), List.getElem?_eq_none (by simp; exact om40 hl hj)]
  rw [e] at S'
  exact fin h' tk' S'
theorem C_tupleL {b : Addr} {vs : List Value} (S : St C h₀ M L m σ Φ h) (e : At h.get? b (oL vs)) (hz : vs.length ≤ 1000000) (y : ∀ a h', h₀.objs.size ≤ a → 503 ≤ a → St C h₀ M L m σ (fun F => At F a (oT vs) ∧ Φ F) h' → P (.ref a) h') : W C A (call (.type "tuple") [.ref b]) h P := W.mk fun s tk =>
  call_tuple_list (s := st s h tk) e.list (fun h1 hk => ⟨_, tk, rfl, y _ _ (S.keep fun b o e _ => hk b o e).size (S.keep fun b o e _ => hk b o e).h5 ((S.keep fun b o e _ => hk b o e).pushF _ fun F e => ⟨_, e, rfl⟩)⟩) (by rw [List.size_toArray]; exact Nat.le_trans hz (by decide))
end
end
section
open PySem.SeqAt
/-- plain data: what is compared -/
inductive Dv where
  | int (k : Int)
  | str (s : Str)
  | byt (b : List UInt8)
  | tup (l : List Dv)
  | lst (l : List Dv)
mutual
noncomputable def Dv.depth : Dv → Nat
  | .tup l => 1 + depths l
  | .lst l => 1 + depths l
  | _ => 0
noncomputable def depths : List Dv → Nat
  | [] => 0
  | d :: l => max d.depth (depths l)
end
theorem depth_le : ∀ {l : List Dv} {d : Dv}, d ∈ l → d.depth ≤ depths l
  | x :: r, d, hd => by
    simp only [depths]
    rcases List.mem_cons.mp hd with rfl | hd
    · exact Nat.le_max_left _ _
    · exact Nat.le_trans (depth_le hd) (Nat.le_max_right _ _)
theorem depths_le {l : List Dv} {n : Nat} (h : ∀ d ∈ l, d.depth ≤ n) : depths l ≤ n := by
  induction l with
  | nil => exact Nat.zero_le _
  | cons d r ih => simp only [depths]; exact Nat.max_le.mpr ⟨h d (.head _), ih fun q hq => h q (.tail _ hq)⟩
mutual
inductive RD (F : Fz) : Value → Dv → Prop
  | int (k : Int) (t : Tok) : RD F (.int k t) (.int k)
  | str (s : Str) (t : Tok) : RD F (.str s t) (.str s)
  | byt (b : Array UInt8) (t : Tok) : RD F (.bytes b t) (.byt b.toList)
  | tup {a : Addr} {vs : List Value} {ds : List Dv} : At F a (oT vs) → RDs F vs ds → RD F (.ref a) (.tup ds)
  | lst {a : Addr} {vs : List Value} {ds : List Dv} : At F a (oL vs) → RDs F vs ds → RD F (.ref a) (.lst ds)
inductive RDs (F : Fz) : List Value → List Dv → Prop
  | nil : RDs F [] []
  | cons {v : Value} {vs : List Value} {d : Dv} {ds : List Dv} : RD F v d → RDs F vs ds → RDs F (v :: vs) (d :: ds)
end
theorem RDs.ind {F : Fz} {P : List Value → List Dv → Prop} (n : P [] []) (c : ∀ {v : Value} {vs : List Value} {t : Dv} {ts : List Dv}, RD F v t → RDs F vs ts → P vs ts → P (v :: vs) (t :: ts)) {vs : List Value} {ts : List Dv} (x : RDs F vs ts) : P vs ts :=
  RDs.rec (motive_1 := fun _ _ _ => True) (motive_2 := fun vs ts _ => P vs ts) (fun _ _ => trivial) (fun _ _ => trivial) (fun _ _ => trivial) (fun _ _ _ => trivial) (fun _ _ _ => trivial) n (fun a b _ ih => c a b ih) x
mutual
theorem RD.mono {F F' : Fz} (l : Le F F') {v : Value} {d : Dv} (x : RD F v d) : RD F' v d :=
  RD.rec (motive_1 := fun v d _ => RD F' v d) (motive_2 := fun vs ds _ => RDs F' vs ds) (fun k t => .int k t) (fun s t => .str s t) (fun b t => .byt b t) (fun a _ ih => .tup (a.mono l) ih) (fun a _ ih => .lst (a.mono l) ih) .nil (fun _ _ a b => .cons a b) x
end
variable {F : Fz}
theorem RDs.length {vs : List Value} {ds : List Dv} (x : RDs F vs ds) : vs.length = ds.length :=
  RDs.ind (P := fun vs ts => vs.length = ts.length) rfl (fun _ _ ih => congrArg (· + 1) ih) x
theorem RDs.append {vs ws : List Value} {ts us : List Dv} (x : RDs F vs ts) (y : RDs F ws us) : RDs F (vs ++ ws) (ts ++ us) :=
  RDs.ind (P := fun vs ts => RDs F (vs ++ ws) (ts ++ us)) y (fun a _ ih => .cons a ih) x
theorem RDs.snoc {vs : List Value} {ts : List Dv} {v : Value} {t : Dv} (x : RDs F vs ts) (y : RD F v t) : RDs F (vs ++ [v]) (ts ++ [t]) := x.append (.cons y .nil)
theorem RDs.get {vs : List Value} {ts : List Dv} {i : Nat} {v : Value} (x : RDs F vs ts) (e : vs[i]? = some v) : ∃ t, ts[i]? = some t ∧ RD F v t :=
  RDs.ind (P := fun vs ts => ∀ (i : Nat) (v : Value), vs[i]? = some v → ∃ t, ts[i]? = some t ∧ RD F v t) (fun i v e => absurd e (by simp)) (fun a _ ih i v e => by
    cases i with
    | zero => exact ⟨_, rfl, Option.some.inj e ▸ a⟩
    | succ i => exact ih i v e) x i v e
theorem eq_byt {A : Around} {s : Shared} {b c : Array UInt8} {t u : Tok} (e : b.toList = c.toList) : EqAt A s (.bytes b t) (.bytes c u) true := fun prog w E Q h => PySem.W.eqBool_bytes (by rw [decide_eq_true e]; exact h)
theorem all_true (n : Nat) : (List.range n).all (fun _ => true) = true := by simp
/-- the same data are equal -/
theorem eq_same (n : Nat) : ∀ {A : Around} {s : Shared} {d : Dv} {v v' : Value}, d.depth ≤ n → A.units + n < cLine → RD s.heap.get? v d → RD s.heap.get? v' d → EqAt A s v v' true := by
  induction n with
  | zero =>
    intro A s d v v' hd hu x y
    cases x with
    | int k t => cases y; have := EqAt.int_int (A := A) (s := s) k t k ‹_›; rwa [beq_self_eq_true] at this
    | str k t => cases y; have := EqAt.str_str (A := A) (s := s) k t k ‹_›; rwa [beq_self_eq_true] at this
    | byt b t =>
      generalize hb : b.toList = c at y
      cases y with
      | byt b' t' => exact eq_byt hb
    | tup _ _ => simp only [Dv.depth] at hd; omega
    | lst _ _ => simp only [Dv.depth] at hd; omega
  | succ n ih =>
    intro A s d v v' hd hu x y
    cases x with
    | int k t => cases y; have := EqAt.int_int (A := A) (s := s) k t k ‹_›; rwa [beq_self_eq_true] at this
    | str k t => cases y; have := EqAt.str_str (A := A) (s := s) k t k ‹_›; rwa [beq_self_eq_true] at this
    | byt b t =>
      generalize hb : b.toList = c at y
      cases y with
      | byt b' t' => exact eq_byt hb
    | @tup a vs ds ha hv =>
      cases y with
      | @tup b ws _ hb hw =>
        simp only [Dv.depth] at hd
        by_cases e : a = b
        · rw [e]; exact EqAt.same _
        have hl : vs.length = ws.length := hv.length.trans hw.length.symm
        have := RcAt.tuples (A := A) (s := s) (e := fun _ => true) ha.tup hb.tup (by exact om6 hu) fun j h1 h2 => by
          obtain ⟨t, e1, r1⟩ := hv.get (v := vs.toArray[j]) (i := j) (by simp only [List.size_toArray] at h1; simp [h1])
          obtain ⟨t', e2, r2⟩ := hw.get (v := ws.toArray[j]) (i := j) (by simp only [List.size_toArray] at h2; simp [h2])
          rw [e1] at e2; cases e2
          exact ih (Nat.le_trans (depth_le (List.mem_of_getElem? e1)) (by exact om41 hd)) (show A.units + 1 + n < cLine by exact om2 hu) r1 r2
        rw [all_true, List.size_toArray, List.size_toArray, hl, beq_self_eq_true, Bool.and_self] at this
        exact EqAt.of_refs e this
    | @lst a vs ds ha hv =>
      cases y with
      | @lst b ws _ hb hw =>
        simp only [Dv.depth] at hd
        by_cases e : a = b
        · rw [e]; exact EqAt.same _
        have hl : vs.length = ws.length := hv.length.trans hw.length.symm
        have := RcAt.lists (A := A) (s := s) (e := fun _ => true) ha.list hb.list (by simp [hl]) (by exact om6 hu) fun j h1 h2 => by
          obtain ⟨t, e1, r1⟩ := hv.get (v := vs.toArray[j]) (i := j) (by simp only [List.size_toArray] at h1; simp [h1])
          obtain ⟨t', e2, r2⟩ := hw.get (v := ws.toArray[j]) (i := j) (by simp only [List.size_toArray] at h2; simp [h2])
          rw [e1] at e2; cases e2
          exact ih (Nat.le_trans (depth_le (List.mem_of_getElem? e1)) (by exact om41 hd)) (show A.units + 1 + n < cLine by exact om2 hu) r1 r2
        rw [all_true] at this
        exact EqAt.of_refs e this
section
variable {C : Cx} {A : Around} {h : Heap} {P : Value → Heap → Prop} {a b : Addr}
theorem O_eqT {ds : List Dv} (hu : A.units + depths ds + 2 < cLine) (x : RD h.get? (.ref a) (.tup ds)) (y : RD h.get? (.ref b) (.tup ds)) (q : P (.bool true) h) : W C A (compareOp .Eq (.ref a) (.ref b)) h P := W.mk fun s tk => by
  cases x with
  | @tup _ vs _ ha hv =>
  cases y with
  | @tup _ ws _ hb hw =>
    have hl : vs.length = ws.length := hv.length.trans hw.length.symm
    have := RcAt.tuples (A := A) (s := st s h tk) (e := fun _ => true) ha.tup hb.tup (by exact om42 hu) fun j h1 h2 => by
      obtain ⟨t, e1, r1⟩ := hv.get (v := vs.toArray[j]) (i := j) (by simp only [List.size_toArray] at h1; simp [h1])
      obtain ⟨t', e2, r2⟩ := hw.get (v := ws.toArray[j]) (i := j) (by simp only [List.size_toArray] at h2; simp [h2])
      rw [e1] at e2; cases e2
      exact eq_same (depths ds) (depth_le (List.mem_of_getElem? e1)) (show A.units + 1 + depths ds < cLine by exact om43 hu) r1 r2
    rw [all_true, List.size_toArray, List.size_toArray, hl, beq_self_eq_true, Bool.and_self] at this
    exact this _ _ _ _ ⟨h, tk, rfl, q⟩
theorem O_eqL {ds : List Dv} (hu : A.units + depths ds + 2 < cLine) (x : RD h.get? (.ref a) (.lst ds)) (y : RD h.get? (.ref b) (.lst ds)) (q : P (.bool true) h) : W C A (compareOp .Eq (.ref a) (.ref b)) h P := W.mk fun s tk => by
  cases x with
  | @lst _ vs _ ha hv =>
  cases y with
  | @lst _ ws _ hb hw =>
    have hl : vs.length = ws.length := hv.length.trans hw.length.symm
    have := RcAt.lists (A := A) (s := st s h tk) (e := fun _ => true) ha.list hb.list (by simp [hl]) (by exact om42 hu) fun j h1 h2 => by
      obtain ⟨t, e1, r1⟩ := hv.get (v := vs.toArray[j]) (i := j) (by simp only [List.size_toArray] at h1; simp [h1])
      obtain ⟨t', e2, r2⟩ := hw.get (v := ws.toArray[j]) (i := j) (by simp only [List.size_toArray] at h2; simp [h2])
      rw [e1] at e2; cases e2
      exact eq_same (depths ds) (depth_le (List.mem_of_getElem? e1)) (show A.units + 1 + depths ds < cLine by exact om43 hu) r1 r2
    rw [all_true] at this
    exact this _ _ _ _ ⟨h, tk, rfl, q⟩
theorem O_neL {ds : List Dv} (hu : A.units + depths ds + 2 < cLine) (x : RD h.get? (.ref a) (.lst ds)) (y : RD h.get? (.ref b) (.lst ds)) (q : P (.bool false) h) : W C A (compareOp .NotEq (.ref a) (.ref b)) h P := W.mk fun s tk => by
  cases x with
  | @lst _ vs _ ha hv =>
  cases y with
  | @lst _ ws _ hb hw =>
    have hl : vs.length = ws.length := hv.length.trans hw.length.symm
    have := RcNeAt.lists (A := A) (s := st s h tk) (e := fun _ => true) ha.list hb.list (by simp [hl]) (by exact om42 hu) fun j h1 h2 => by
      obtain ⟨t, e1, r1⟩ := hv.get (v := vs.toArray[j]) (i := j) (by simp only [List.size_toArray] at h1; simp [h1])
      obtain ⟨t', e2, r2⟩ := hw.get (v := ws.toArray[j]) (i := j) (by simp only [List.size_toArray] at h2; simp [h2])
      rw [e1] at e2; cases e2
      exact eq_same (depths ds) (depth_le (List.mem_of_getElem? e1)) (show A.units + 1 + depths ds < cLine by exact om43 hu) r1 r2
    rw [all_true] at this
    exact this _ _ _ _ ⟨h, tk, rfl, q⟩
/-- a list against the empty one -/
theorem O_ne_nil {vs : List Value} (hu : A.units < cLine) (x : At h.get? a (oL vs)) (y : At h.get? b (oL [])) (q : P (.bool (!vs.isEmpty)) h) : W C A (compareOp .NotEq (.ref a) (.ref b)) h P := W.mk fun s tk => by
  cases vs with
  | nil => exact (RcNeAt.lists (A := A) (s := st s h tk) (e := fun _ => true) x.list y.list rfl hu fun j h1 h2 => absurd h1 (by simp)) _ _ _ _ ⟨h, tk, rfl, q⟩
  | cons v r => exact (RcNeAt.lists_lengths (A := A) (s := st s h tk) x.list y.list (by simp) hu) _ _ _ _ ⟨h, tk, rfl, q⟩
/-- a pair among pairs -/
theorem eq_pair {A : Around} {s : Shared} {p q : Pr} (hu : A.units + 2 < cLine) (x : Tp s.heap.get? a p) (y : Tp s.heap.get? b q) : EqAt A s (.ref a) (.ref b) (decide (p = q)) := by
  obtain ⟨t1, u1, x⟩ := x
  obtain ⟨t2, u2, y⟩ := y
  by_cases e : a = b
  · subst e
    obtain ⟨o, h1, h2⟩ := x
    obtain ⟨o', h3, h4⟩ := y
    rw [h1] at h3; cases h3
    have h2 : o = _ := h2
    rw [h2] at h4
    have h4 : (tupOf [.int p.1 t1, .int p.2 u1]) = tupOf [.int q.1 t2, .int q.2 u2] := h4
    have h5 : (Data.seq ([.int p.1 t1, .int p.2 u1] : List Value).toArray) = Data.seq ([.int q.1 t2, .int q.2 u2] : List Value).toArray := congrArg Obj.data h4
    injection h5 with h6
    have h7 := congrArg Array.toList h6
    have : p = q := by
      obtain ⟨p1, p2⟩ := p; obtain ⟨q1, q2⟩ := q
      simp at h7
      simp [h7]
    rw [decide_eq_true this]; exact EqAt.same _
  · have z := RcAt.tuples (A := A) (s := s) (e := fun j => if j = 0 then p.1 == q.1 else p.2 == q.2) x.tup y.tup (by exact om44 hu) fun j h1 h2 => by
      have : j = 0 ∨ j = 1 := by simp at h1; exact om45 h1
      rcases this with rfl | rfl
      · exact EqAt.int_int _ _ _ _
      · exact EqAt.int_int _ _ _ _
    have e2 : ((List.range (min ([.int p.1 t1, .int p.2 u1] : List Value).toArray.size ([.int q.1 t2, .int q.2 u2] : List Value).toArray.size)).all (fun j => if j = 0 then p.1 == q.1 else p.2 == q.2) && ([.int p.1 t1, .int p.2 u1] : List Value).toArray.size == ([.int q.1 t2, .int q.2 u2] : List Value).toArray.size) = decide (p = q) := by
      show ((p.1 == q.1 && (p.2 == q.2 && true)) && true) = _
      obtain ⟨p1, p2⟩ := p; obtain ⟨q1, q2⟩ := q
      simp only [Bool.and_true, Prod.mk.injEq, Bool.decide_and]
      rfl
    rw [e2] at z
    exact EqAt.of_refs e z
end
end
section
/-! the references of a tree -/
theorem fm_congr {α β : Type} {f g : α → Option β} : ∀ {l : List α}, (∀ x ∈ l, f x = g x) → l.filterMap f = l.filterMap g
  | [], _ => rfl
  | x :: l, h => by rw [List.filterMap_cons, List.filterMap_cons, h x (.head _), fm_congr fun y hy => h y (.tail _ hy)]
theorem getT_self : ∀ {ks : List Str} {xs : List T}, ks.Nodup → ks.length = xs.length → ks.filterMap (getT ks xs) = xs
  | [], [], _, _ => rfl
  | [], _ :: _, _, e => by simp at e
  | _ :: _, [], _, e => by simp at e
  | k :: ks, x :: xs, nd, e => by
    obtain ⟨h1, h2⟩ := List.nodup_cons.mp nd
    have ih := getT_self h2 (by simpa using e)
    have e1 : getT (k :: ks) (x :: xs) k = some x := by simp [getT]
    rw [List.filterMap_cons, e1]
    have e2 : ks.filterMap (getT (k :: ks) (x :: xs)) = ks.filterMap (getT ks xs) := by
      refine fm_congr fun y hy => ?_
      have : ¬ k = y := fun q => h1 (q ▸ hy)
      simp [getT, this]
    rw [e2, ih]
theorem sizes_perm {xs ys : List T} (p : xs.Perm ys) : sizes xs = sizes ys := by
  induction p with
  | nil => rfl
  | cons x _ ih => simp only [sizes, ih]
  | swap x y l => simp only [sizes]; exact om46
  | trans _ _ a b => exact a.trans b
theorem ordT_perm {ks : List Str} {xs : List T} (nd : ks.Nodup) (e : ks.length = xs.length) : (ordT ks xs).Perm xs := by
  have := (sortS_perm ks).filterMap (getT ks xs)
  rw [getT_self nd e] at this
  exact this
theorem parts_size {C : Cx} {F : Fz} {v : Value} {t : T} (r : Rep C F v t) : sizes (parts t) < t.size := by
  cases r with
  | ref _ _ _ => simp [parts, sizes, T.size]
  | int k t => simp [parts, sizes, T.size]
  | name _ _ _ => simp [parts, sizes, T.size]
  | array _ _ _ => simp only [parts, T.size]; exact om47
  | dict a b c => rw [parts, sizes_perm (ordT_perm a.nodup (by rw [← b.length]; simp))]; simp only [T.size]; exact om47
  | stream _ _ a b _ _ => rw [parts, sizes_perm (ordT_perm a.nodup (by rw [← b.length]; simp))]; simp only [T.size]; exact om47
noncomputable def add1 (f : List Pr) (p : Pr) : List Pr := if p ∈ f then f else f ++ [p]
noncomputable def isRef : T → Bool
  | .ref _ => true
  | _ => false
/-- the references of a line of trees, behind those found -/
inductive Ln : List T → List Pr → List Pr → Prop
  | nil (f : List Pr) : Ln [] f f
  | ref {p : Pr} {ts : List T} {f r : List Pr} : Ln ts (add1 f p) r → Ln (.ref p :: ts) f r
  | more {t : T} {ts : List T} {f r : List Pr} : isRef t = false → Ln (parts t ++ ts) f r → Ln (t :: ts) f r
theorem Ln.det {ts : List T} {f r r' : List Pr} (x : Ln ts f r) (y : Ln ts f r') : r = r' := by
  induction x with
  | nil f => cases y; rfl
  | ref _ ih => cases y with
    | ref y => exact ih y
    | more h _ => simp [isRef] at h
  | more h _ ih => cases y with
    | ref y => simp [isRef] at h
    | more _ y => exact ih y
open Classical in
noncomputable def refs (t : T) : List Pr := if h : ∃ r, Ln [t] [] r then Classical.choose h else []
theorem refs_eq {t : T} {r : List Pr} (x : Ln [t] [] r) : refs t = r := by
  unfold refs
  rw [dif_pos ⟨r, x⟩]
  exact (Classical.choose_spec (⟨r, x⟩ : ∃ r, Ln [t] [] r)).det x
/-- p stands in t -/
inductive Has (p : Pr) : T → Prop
  | ref : Has p (.ref p)
  | part {t u : T} : u ∈ parts t → Has p u → Has p t
theorem add1_mem {f : List Pr} {p q : Pr} : q ∈ add1 f p ↔ q ∈ f ∨ q = p := by
  unfold add1; split
  · exact ⟨.inl, fun x => x.elim id fun e => e ▸ ‹_›⟩
  · simp
theorem add1_nodup {f : List Pr} {p : Pr} (h : f.Nodup) : (add1 f p).Nodup := by
  unfold add1; split
  · exact h
  · refine List.nodup_append.mpr ⟨h, by simp, fun a ha b hb => ?_⟩
    simp at hb; subst hb; rintro rfl; exact absurd ha ‹_›
theorem Ln.nodup {ts : List T} {f r : List Pr} (x : Ln ts f r) (h : f.Nodup) : r.Nodup := by
  induction x with
  | nil f => exact h
  | ref _ ih => exact ih (add1_nodup h)
  | more _ _ ih => exact ih h
theorem Ln.sub {ts : List T} {f r : List Pr} (x : Ln ts f r) : ∀ p ∈ f, p ∈ r := by
  induction x with
  | nil f => exact fun _ h => h
  | ref _ ih => exact fun p h => ih p (add1_mem.mpr (.inl h))
  | more _ _ ih => exact ih
theorem Ln.has {ts : List T} {f r : List Pr} {p : Pr} (x : Ln ts f r) : ∀ t ∈ ts, Has p t → p ∈ r := by
  induction x with
  | nil f => exact fun _ h => nomatch h
  | ref y ih =>
    intro t ht hp
    rcases List.mem_cons.mp ht with rfl | ht
    · cases hp with
      | ref => exact y.sub _ (add1_mem.mpr (.inr rfl))
      | part h _ => simp [parts] at h
    · exact ih t ht hp
  | more e _ ih =>
    intro t ht hp
    rcases List.mem_cons.mp ht with rfl | ht
    · cases hp with
      | ref => simp [isRef] at e
      | part h q => exact ih _ (List.mem_append.mpr (.inl h)) q
    · exact ih t (List.mem_append.mpr (.inr ht)) hp
end
section
theorem St.drop {C : Cx} {h₀ h : Heap} {M : List Addr} {L a : Addr} {m : Loc} {σ : Led} {Φ : Fz → Prop} {P : Obj → Prop} (S : St C h₀ M L m ((a, P) :: σ) Φ h) : St C h₀ M L m σ Φ h := S.freeze fun F o _ _ _ x => x
/-- something new that a step leaves, frozen -/
theorem St.newx {C : Cx} {h₀ h h' : Heap} {M : List Addr} {L : Addr} {m : Loc} {σ : Led} {Φ : Fz → Prop} {X : Fz → Prop} (S : St C h₀ M L m σ Φ h) (k : Kb [] h h') (mono : ∀ {F F' : Fz}, X F → Le F F' → X F') (x : X (nw h h')) : St C h₀ M L m σ (fun F => X (ge h₀.objs.size F) ∧ Φ F) h' :=
  S.keepx k fun F l => mono x fun a o e => ge_of (Nat.le_trans S.size (ge_some e).1) (l a o (ext_new (ge_some e).1 (ge_some e).2))
theorem isRef_eq : ∀ {t : T}, isRef t = true → ∃ p, t = .ref p
  | .ref p, _ => ⟨p, rfl⟩
  | .int _, h => nomatch h
  | .name _, h => nomatch h
  | .array _, h => nomatch h
  | .dict _ _, h => nomatch h
  | .stream _ _ _, h => nomatch h
section
variable {C : Cx} {A : Around} {h : Heap} {k : Nat} {F : Fz}
/-- what a new thing that turns nothing leaves -/
noncomputable abbrev New (h : Heap) (P : Value → Fz → Prop) : Value → Heap → Prop := fun v h' => P v (nw h h') ∧ Kb [] h h' ∧ h.objs.size ≤ h'.objs.size
noncomputable abbrev vTp (p : Pr) : Value → Fz → Prop := fun v F => ∃ a, v = .ref a ∧ 503 ≤ a ∧ Tp F a p
theorem pair_ok {x : Addr} {p : Pr} (G : GF C h) (R : Rm A (k + 1)) (hF : Le F h.get?) (r : Rep C F (.ref x) (.ref p)) : W C A (call (.ref 239) [.ref x]) h (New h (vTp p)) := by
  cases r with
  | @ref _ dx _ ex ed x5 =>
  refine go (m := [(Str.ofString "self", .ref x)]) (In.nil (Φ := fun F' => Le F F') G fun F' l => hF.trans (by rw [fz_nil] at l; exact l)) R rfl rfl (by kernel_rfl) (fun s e => BindsTo.of_eq rfl) rfl (by kernel_rfl) (by kernel_rfl) rfl rfl rfl fun A' L h1 R' S => ?_
  refine bodyK rfl fun Rq kq => ?_
  walk_at "r"
  refine A_number S.g (S.now _ _ ex) (ed.mono S.now) fun t => ?_
  walk_at "r"
  refine A_generation S.g (S.now _ _ ex) (ed.mono S.now) fun u => ?_
  walk_at "r"
  refine S_tuple S fun a h2 na a5 S2 => ?_
  obtain ⟨o, e, q⟩ := S2.now.1
  exact (kq.go ⟨⟨a, rfl, a5, t, u, o, ge_of (Nat.le_trans S.size na) e, q⟩, S2.kb, S2.size⟩)
theorem is_ref {P : Value → Heap → Prop} {v : Value} {t : T} (G : GF C h) (r : Rep C h.get? v t) (q : P (.bool (isRef t)) h) : W C A (call (.builtin "isinstance") [v, .ref 242]) h P := by
  cases r with
  | ref a b c =>
    obtain ⟨o, e, t1, t2, tn, tg, z⟩ := b
    exact is_inst_yes G ⟨_, _, a, o, e, z⟩ (by kernel_rfl) q
  | int n t => exact is_int_C G (by kernel_rfl) q
  | name a b c =>
    obtain ⟨o, e, t1, ts, z⟩ := b
    exact is_inst_C G ⟨_, _, a, o, e, z⟩ (by kernel_rfl) ok171 q
  | array a b c => 
    obtain ⟨o, e, z⟩ := a
    exact is_list_C G ⟨o, e, z.w.1⟩ (by kernel_rfl) q
  | dict a b c => 
    obtain ⟨o, e, ep, es, z, _⟩ := a
    exact is_dict_C G ⟨o, e, z.1⟩ (by kernel_rfl) q
  | stream a b c e f g => 
    obtain ⟨o, e, t1, t2, tb, z⟩ := b
    exact is_inst_C G ⟨_, _, a, o, e, z⟩ (by kernel_rfl) ok214 q
end
/-- a list's items are pairs -/
inductive Tps (F : Fz) : List Value → List Pr → Prop
  | nil : Tps F [] []
  | cons {v : Value} {vs : List Value} {p : Pr} {ps : List Pr} : vTp p v F → Tps F vs ps → Tps F (v :: vs) (p :: ps)
section
variable {F F' : Fz}
theorem vTp.mono {p : Pr} {v : Value} (x : vTp p v F) (l : Le F F') : vTp p v F' := let ⟨a, b, c, d⟩ := x; ⟨a, b, c, d.mono l⟩
theorem Tps.mono (l : Le F F') {vs : List Value} {ps : List Pr} (x : Tps F vs ps) : Tps F' vs ps := by
  induction x with
  | nil => exact .nil
  | cons a _ ih => exact .cons (vTp.mono a l) ih
theorem Tps.length {vs : List Value} {ps : List Pr} (x : Tps F vs ps) : vs.length = ps.length := by
  induction x with
  | nil => rfl
  | cons _ _ ih => exact congrArg (· + 1) ih
theorem Tps.append {vs ws : List Value} {ps qs : List Pr} (x : Tps F vs ps) (y : Tps F ws qs) : Tps F (vs ++ ws) (ps ++ qs) := by
  induction x with
  | nil => exact y
  | cons a _ ih => exact .cons a ih
theorem Tps.snoc {vs : List Value} {ps : List Pr} {v : Value} {p : Pr} (x : Tps F vs ps) (y : vTp p v F) : Tps F (vs ++ [v]) (ps ++ [p]) := x.append (.cons y .nil)
theorem Tps.get {vs : List Value} {ps : List Pr} {i : Nat} {v : Value} (x : Tps F vs ps) (e : vs[i]? = some v) : ∃ p, ps[i]? = some p ∧ vTp p v F := by
  induction x generalizing i with
  | nil => exact absurd e (by simp)
  | cons a _ ih =>
    cases i with
    | zero => exact ⟨_, rfl, Option.some.inj e ▸ a⟩
    | succ i => exact ih e
theorem Tps.at : ∀ {vs : List Value} {ps : List Pr} {i : Nat} {p : Pr}, Tps F vs ps → ps[i]? = some p → ∃ v, vs[i]? = some v ∧ vTp p v F
  | _, _, 0, _, .cons a _, e => by simp at e; subst e; exact ⟨_, rfl, a⟩
  | _, _, i + 1, _, .cons _ b, e => by simp at e; obtain ⟨t, h, r⟩ := b.at e; exact ⟨t, by simpa using h, r⟩
/-- a new list of new pairs -/
noncomputable abbrev vTps (ps : List Pr) : Value → Fz → Prop := fun r F => ∃ l vs, r = .ref l ∧ 503 ≤ l ∧ At F l (oL vs) ∧ Tps F vs ps
theorem seen_some (xs : List (Pr × Addr × Value)) (p : Pr) : (seenAt xs p).isSome = decide (p ∈ xs.map (·.1)) := by
  unfold seenAt
  rw [Option.isSome_map]
  induction xs with
  | nil => simp
  | cons x r ih =>
    simp only [List.find?_cons, List.map_cons, List.mem_cons]
    by_cases e : x.1 = p
    · simp [e]
    · have : ¬ p = x.1 := fun q => e q.symm
      simp only [e, decide_false, this, false_or]
      exact ih
end
end
section
section
variable {C : Cx} {A : Around} {h : Heap} {k : Nat} {F : Fz}
noncomputable abbrev rfM (v : Value) (fA sA lA : Addr) (o : Option Value) : Loc := (Str.ofString "value", v) :: (Str.ofString "found", .ref fA) :: (Str.ofString "seen", .ref sA) :: (Str.ofString "line", .ref lA) :: (o.map fun u => (Str.ofString "here", u)).toList
/-- what a turn of references_in keeps -/
inductive RJ (C : Cx) (h₀ : Heap) (L fA sA lA : Addr) (v : Value) (t : T) (F₀ : Fz) (k : Nat) (h : Heap) : Prop
  | mk (o : Option Value) (ts : List T) (f : List Pr) (ws vs : List Value) (xs : List (Pr × Addr × Value)) (z0 : k = sizes ts) (z1 : (∀ r, Ln ts f r → Ln [t] [] r)) (z2 : xs.map (·.1) = f) (z3 : f.length + sizes ts ≤ t.size) (z4 : St C h₀ [] L (rfM v fA sA lA o) [(lA, oL ws.reverse), (sA, oTD C xs), (fA, oL vs)] (fun F => Reps C F ws ts ∧ Tps (ge h₀.objs.size F) vs f ∧ KeysAt F xs ∧ Le F₀ F) h)
noncomputable abbrev refsP (t : T) : Value → Fz → Prop := fun u F => Ln [t] [] (refs t) ∧ (refs t).length ≤ t.size ∧ vTps (refs t) u F
theorem refs_ok {v : Value} {t : T} (G : GF C h) (R : Rm A (k + 4)) (hF : Le F h.get?) (r : Rep C F v t) (hz : t.size ≤ 60) : W C A (call (.ref 282) [v]) h (New h (refsP t)) := by
  refine go (k := k + 3) (m := [(Str.ofString "value", v)]) (In.nil (Φ := fun F' => Le F F') G fun F' l => hF.trans (by rw [fz_nil] at l; exact l)) R rfl rfl (by kernel_rfl) (fun s e => BindsTo.of_eq rfl) rfl (by kernel_rfl) (by kernel_rfl) rfl rfl rfl fun A' L h1 R' S => ?_
  have R1 : Rm A' (0 + 1) := R'.le (by exact om48)
  have hu : A'.units + 200 < cLine := by have := R'.un; exact om49 this
  refine bodyK rfl fun Rq kq => ?_
  walk_at "r"
  refine S_list S fun fA h2 nf f5 S2 => ?_
  have nh := Nat.le_trans S.size nf
  clear S
  walk_at "s"
  intro h3 S3
  clear S2
  walk_at "r"
  refine S_dict S3 (O := oTD C []) oTD_new fun sA h4 ns s5 S4 => ?_
  clear S3
  walk_at "s"
  intro h5 S5
  clear S4
  walk_at "r"
  refine S_list S5 fun lA h6 nl l5 S6 => ?_
  clear S5
  walk_at "s"
  intro h7 S7
  clear S6
  refine X_whileK (RJ C h L fA sA lA v t F) (sizes [t]) ⟨none, [t], [], [v], [], [], rfl, fun r x => x, rfl, by simp [sizes], (S7.lo (m' := rfM v fA sA lA none) (by with_unfolding_all rfl)).imp fun F' _ l => ⟨.cons (r.mono l) .nil, .nil, fun _ q => (List.not_mem_nil q).elim, l⟩⟩ fun kk h8 hq1 => ?_
  obtain ⟨o, ts, f, ws, vs, xs, ek, hL, ef, hb, S8⟩ := hq1
  clear S7
  have hlen : ws.length ≤ 60 := by
    have := S8.now.1.length
    have := length_le_sizes ts
    omega
  walk_at "r"
  refine tr_list (At.list S8.at0) (by rw [List.length_reverse]; exact om50 hlen) ?_
  have hw := S8.now.1
  cases hw with
  | nil =>
    refine ⟨no_tt rfl, fun _ => ?_⟩
    walk_at "r"
    have S9 := ((S8.drop).drop).freeze (Ψ := fun F' => At F' fA (oL vs) ∧ Tps (ge h.objs.size F') vs f) fun F o po _ e x => ⟨⟨o, e, po⟩, x.2.1⟩
    have hq := hL _ (.nil _)
    unfold refsP
    rw [refs_eq hq]
    obtain ⟨q, e, p⟩ := S9.now.1
    exact ⟨⟨hq, Nat.le_trans (Nat.le_add_right _ _) hb, fA, vs, rfl, f5, ⟨q, ge_of nh e, p⟩, S9.now.2⟩, S9.kb, S9.size⟩
  | @cons w ws x ts rx rts =>
    refine ⟨fun _ Rr kr => ?_, no_ff (by simp)⟩
    have S9 := S8.lo (m' := rfM v fA sA lA o) rfl
    rw [List.reverse_cons] at S9
    clear S8
    walk_at "r"
    refine M_list S9.at0 PySem.F.slot_list_pop (by kernel_rfl) ?_
    walk_at "r"
    refine O_pop S9.at0 (by
      have : 1000 < sizeLine := by decide
      simp at hlen ⊢; exact om51 this hlen) fun h9 k9 e9 => ?_
    have S10 := S9.put0 k9 e9
    clear S9
    walk_at "s"
    intro h10 S11
    clear S10
    have S12 := (S11.lo (m' := rfM v fA sA lA (some w)) (by cases o <;> with_unfolding_all rfl))
    clear S11
    walk_at "r"
    have hr := S12.now.1
    cases hr with
    | cons rx' _ =>
    refine is_ref S12.g rx' ?_
    walk_at "r"
    have next : ∀ {ts' : List T} {f' : List Pr} {ws' vs' : List Value} {xs' : List (Pr × Addr × Value)} {h'}, (∀ r, Ln ts' f' r → Ln [t] [] r) → xs'.map (·.1) = f' → f'.length + sizes ts' ≤ t.size → sizes ts' < kk →
        St C h [] L (rfM v fA sA lA (some w)) [(lA, oL ws'.reverse), (sA, oTD C xs'), (fA, oL vs')] (fun F' => Reps C F' ws' ts' ∧ Tps (ge h.objs.size F') vs' f' ∧ KeysAt F' xs' ∧ Le F F') h' →
        ∃ j, j < kk ∧ RJ C h L fA sA lA v t F j h' := fun a b c d e => ⟨_, d, _, _, _, _, _, _, rfl, a, b, c, e⟩
    simp only [sizes] at ek hb
    have xp := x.size_pos
    refine ⟨fun ir => ?_, fun ir => ?_⟩
    · obtain ⟨p, rfl⟩ := isRef_eq ir
      have rx2 := rx'
      cases rx' with
      | @ref ax dx _ ex ed x5 =>
      simp only [T.size] at ek hb
      walk_at "r"
      refine M_pair S12.g ex ed ?_
      walk_at "r"
      refine (pair_ok S12.g R1 Le.refl rx2).mono fun pv h11 hq2 => ?_
      obtain ⟨⟨pa, e, p5, tp⟩, k11, z11⟩ := hq2
      subst e
      have S13 := S12.newx k11 (X := fun F' => Tp F' pa p) (fun x l => x.mono l) tp
      walk_at "r"
      refine O_notin (TD_in (by exact om52 hu) (S13.now.1.mono ge_le) S13.at1 S13.now.2.2.2.1 s5 ⟨_, rfl, ?_⟩)
      walk_at "r"
      rw [seen_some, ef]
      have S14 := S13.imp (Ψ := fun F' => Reps C F' (.ref ax :: ws) (.ref p :: ts) ∧ Tps (ge h.objs.size F') vs f ∧ KeysAt F' xs ∧ Le F F') fun F' _ x => x.2
      clear S13 S12 rx2 ex ed
      refine ⟨fun hn => ?_, fun hn => ?_⟩
      · have hn : p ∉ f := by simpa using hn
        walk_at "r"
        cases S14.now.1 with
        | cons rx3 _ =>
        have rx2 := rx3
        cases rx3 with
        | @ref _ dx _ ex ed _ =>
        refine M_pair S14.g ex ed ?_
        walk_at "r"
        refine (pair_ok S14.g R1 Le.refl rx2).mono fun pv h12 hq3 => ?_
        obtain ⟨⟨pb, e, pb5, tp⟩, k12, z12⟩ := hq3
        subst e
        have S15 := S14.newx k12 (X := fun F' => Tp F' pb p) (fun x l => x.mono l) tp
        clear S14 rx2 ex ed
        have hx : xs.length ≤ 60 := by
          have := congrArg List.length ef
          simp only [List.length_map] at this
          exact om53 hz hb this
        refine TD_set (by exact om52 hu) (S15.now.1.mono ge_le) S15.at1 S15.now.2.2.2.1 (by
          rw [← Option.isNone_iff_eq_none, ← Option.not_isSome, seen_some, ef]; simpa using hn) (by exact om54 hx) fun h13 k13 e13 => ?_
        have S16 := (S15.put1 k13 e13).imp (Ψ := fun F' => Reps C F' (.ref ax :: ws) (.ref p :: ts) ∧ Tps (ge h.objs.size F') vs f ∧ KeysAt F' (xs ++ [(p, pb, .bool true)]) ∧ Le F F') fun F' _ x => ⟨x.2.1, x.2.2.1, fun y hy => (List.mem_append.mp hy).elim (x.2.2.2.1 y) fun q => by
            rw [List.mem_singleton.mp q]; exact x.1.mono ge_le, x.2.2.2.2⟩
        clear S15
        walk_at "r"
        refine M_list S16.at2 PySem.F.slot_list_append (by kernel_rfl) ?_
        walk_at "r"
        cases S16.now.1 with
        | cons rx3 _ =>
        have rx2 := rx3
        cases rx3 with
        | @ref _ dx _ ex ed _ =>
        refine M_pair S16.g ex ed ?_
        walk_at "r"
        refine (pair_ok S16.g R1 Le.refl rx2).mono fun pv h14 hq4 => ?_
        obtain ⟨⟨pc, e, pc5, tp⟩, k14, z14⟩ := hq4
        subst e
        have S17 := S16.newx k14 (X := fun F' => Tp F' pc p) (fun x l => x.mono l) tp
        clear S16 rx2 ex ed
        walk_at "r"
        have hv : vs.length ≤ 60 := by have := S17.now.2.2.1.length; exact om53 hz hb this
        refine O_append S17.at2 (by have : 1000 < sizeLine := by decide
                                    exact om55 hv this) fun h15 k15 e15 => ?_
        have S18 := S17.put2 k15 e15
        walk_at "r"
        refine next (f' := f ++ [p]) (fun r y => hL r (.ref (by rw [add1, if_neg hn]; exact y))) (by simp [ef]) (by simp; exact om56 hb) (by exact om57 ek) (S18.imp fun F' _ x => ⟨?_, x.2.2.1.snoc ⟨pc, rfl, pc5, x.1⟩, x.2.2.2.1, x.2.2.2.2⟩)
        cases x.2.1 with
        | cons _ y => exact y
      · have hn : p ∈ f := by simpa using hn
        walk_at "r"
        refine next (fun r y => hL r (.ref (by rw [add1, if_pos hn]; exact y))) ef (by exact om58 hb) (by exact om57 ek) (S14.imp fun F' _ x => ⟨?_, x.2.1, x.2.2.1, x.2.2.2⟩)
        cases x.1 with
        | cons _ y => exact y
    · walk_at "r"
      refine M_list S12.at0 PySem.F.slot_list_extend (by kernel_rfl) ?_
      walk_at "r"
      cases S12.here.1 with
      | cons rx2 _ =>
      have xs60 : x.size ≤ 60 := by exact om59 hz hb
      refine ⟨S12.g, (parts_ok S12.g R' (fz_le _ _) rx2 xs60).mono fun lv h11 hq5 => ?_⟩
      obtain ⟨pl, ps, e, p5, el, rl, k11, z11⟩ := hq5
      subst e
      have S14 := S12.keepx (Ψ := fun F' => At F' pl (oL ps) ∧ Reps C F' ps (parts x)) k11 fun F' l => ⟨el.mono (nw_ext.trans l), rl.mono ((fz_le _ _).ext.trans l)⟩
      walk_at "r"
      refine C_reversed S14 S14.now.1.1 fun rv h12 nr ne S15 => ?_
      clear S14 S12
      walk_at "r"
      have zp := parts_size rx2
      have lp := rl.length
      have lp2 := length_le_sizes (parts x)
      rw [List.length_cons] at hlen
      refine O_extendRev R'.hd S15 (fun F' y => y.1.1) ne (by rw [List.length_reverse]; exact om60 hlen xp xs60 zp lp lp2) fun h13 S16 => ?_
      walk_at "r"
      rw [← List.reverse_append] at S16
      refine next (fun r y => hL r (.more ir y)) ef (by rw [sizes_append]; exact om61 hb zp) (by rw [sizes_append]; exact om62 ek zp) (S16.imp fun F' _ y => ⟨?_, y.2.2⟩)
      cases y.2.1 with
      | cons _ z => exact y.1.2.append z
end
end
section
/-! a shelf -/
noncomputable abbrev Row := Int × Int × T
structure Sh where
  rows : List Row
  ks : List Str
  xs : List T
noncomputable def find (rs : List Row) (n : Int) : Option (Int × T) := (rs.find? fun r => decide (r.1 = n)).map (·.2)
noncomputable def there (rs : List Row) (p : Pr) : Bool := match find rs p.1 with
  | some (g, _) => g == p.2
  | none => false
noncomputable def treeAt (rs : List Row) (p : Pr) : T := match find rs p.1 with
  | some (_, t) => t
  | none => .int 0
/-- a table's entries are rows -/
inductive Rows (C : Cx) (F : Fz) : List (Int × Value) → List Row → Prop
  | nil : Rows C F [] []
  | cons {n g : Int} {tg : Tok} {a : Addr} {v : Value} {t : T} {kvs : List (Int × Value)} {rs : List Row} : At F a (oT [.int g tg, v]) → 503 ≤ a → Rep C F v t → Rows C F kvs rs → Rows C F ((n, .ref a) :: kvs) ((n, g, t) :: rs)
structure ShA (C : Cx) (F : Fz) (s td rd : Addr) : Prop where
  s5 : 503 ≤ s
  t5 : 503 ≤ td
  r5 : 503 ≤ rd
  at' : ∃ dx t1 t2, F s = some (instObj 368 dx) ∧ At F dx (oI [en C (Str.ofString "table") t1 (.ref td), en C (Str.ofString "trailer") t2 (.ref rd)])
structure RepSh (C : Cx) (F : Fz) (s : Addr) (sh : Sh) : Prop where
  all : ∃ td rd kvs tvs, ShA C F s td rd ∧ At F td (oD (iK C) kvs) ∧ Rows C F kvs sh.rows ∧ At F rd (oD (sK C) tvs) ∧ tvs.map (·.1) = sh.ks ∧ Reps C F (tvs.map (·.2)) sh.xs
section
variable {C : Cx} {F F' : Fz}
theorem Rows.mono (l : Le F F') {kvs : List (Int × Value)} {rs : List Row} (x : Rows C F kvs rs) : Rows C F' kvs rs := by
  induction x with
  | nil => exact .nil
  | cons a b c _ ih => exact .cons (a.mono l) b (c.mono l) ih
theorem ShA.mono {s td rd : Addr} (l : Le F F') (x : ShA C F s td rd) : ShA C F' s td rd := ⟨x.1, x.2, x.3, let ⟨dx, t1, t2, a, b⟩ := x.4; ⟨dx, t1, t2, l _ _ a, b.mono l⟩⟩
theorem RepSh.mono {s : Addr} {sh : Sh} (x : RepSh C F s sh) (l : Le F F') : RepSh C F' s sh := let ⟨td, rd, kvs, tvs, a, b, c, d, e, f⟩ := x.1; ⟨td, rd, kvs, tvs, a.mono l, b.mono l, c.mono l, d.mono l, e, f.mono l⟩
theorem Rows.length : ∀ {kvs : List (Int × Value)} {rs : List Row}, Rows C F kvs rs → kvs.length = rs.length
  | _, _, .nil => rfl
  | _, _, .cons _ _ _ d => by simp [d.length]
theorem Rows.keys : ∀ {kvs : List (Int × Value)} {rs : List Row}, Rows C F kvs rs → kvs.map (·.1) = rs.map (·.1)
  | _, _, .nil => rfl
  | _, _, .cons _ _ _ d => by simp [d.keys]
theorem Rows.none {kvs : List (Int × Value)} {rs : List Row} {n : Int} (x : Rows C F kvs rs) : (valueAt kvs n).isSome = (find rs n).isSome := by
  induction x with
  | nil => rfl
  | @cons n' g tg a v t kvs rs _ _ _ _ ih =>
    by_cases e : n' = n
    · simp [valueAt, find, e]
    · simpa [valueAt, find, e] using ih
theorem Rows.some {kvs : List (Int × Value)} {rs : List Row} {n : Int} (x : Rows C F kvs rs) (h : (valueAt kvs n).isSome = true) : ∃ a g tg v t, valueAt kvs n = some (.ref a) ∧ find rs n = some (g, t) ∧ At F a (oT [.int g tg, v]) ∧ 503 ≤ a ∧ Rep C F v t := by
  induction x with
  | nil => exact absurd h Bool.false_ne_true
  | @cons n' g tg a v t kvs rs x1 x2 x3 _ ih =>
    by_cases e : n' = n
    · exact ⟨a, g, tg, v, t, by simp [valueAt, e], by simp [find, e], x1, x2, x3⟩
    · have k1 : valueAt ((n', .ref a) :: kvs) n = valueAt kvs n := by simp [valueAt, e]
      have k2 : find ((n', g, t) :: rs) n = find rs n := by simp [find, e]
      rw [k1] at h ⊢
      rw [k2]
      exact ih h
end
section
variable {C : Cx} {A : Around} {h h₀ : Heap} {P : Value → Heap → Prop} {s td rd : Addr} {F : Fz} {k : Nat} {env : Env} {M : List Addr} {m : Loc} {σ : Led} {Φ : Fz → Prop}
theorem A_table (G : GF C h) (x : ShA C h.get? s td rd) (y : P (.ref td) h) : W C A (getAttr (.ref s) (Str.ofString "table") true) h P := by
  obtain ⟨dx, t1, t2, hx, o, e, p⟩ := x.4
  exact A_get (attr := none) G hx ⟨o, e, p⟩ (by kernel_rfl) rfl (by kernel_rfl) (by kernel_rfl) (by kernel_rfl) (by kernel_rfl) y
theorem A_trailer (G : GF C h) (x : ShA C h.get? s td rd) (y : P (.ref rd) h) : W C A (getAttr (.ref s) (Str.ofString "trailer") true) h P := by
  obtain ⟨dx, t1, t2, hx, o, e, p⟩ := x.4
  exact A_get (attr := none) G hx ⟨o, e, p⟩ (by kernel_rfl) rfl (by kernel_rfl) (by kernel_rfl) (by kernel_rfl) (by kernel_rfl) y
/-- two names at once -/
theorem A_two {R : Unit → Heap → Prop} {a : Addr} {x y : Str} {px py tp : Pos} {kk} {u v : Value} (S : St C h₀ M env.locals m σ Φ h) (hh : A.handled = none) (e : At h.get? a (oT [u, v])) (hk : env.scope.kind = .function) (kx : env.kindOf x = some .local) (ky : env.kindOf y = some .local)
    (q : ∀ h', St C h₀ M env.locals (upd (upd m x u) y v) σ Φ h' → R () h') (hl : (assignEach [.Name x px, .Name y py] env).length = 2 := by with_unfolding_all rfl) (hs : (assignEach [.Name x px, .Name y py] env).findIdx? (·.1) = none := by with_unfolding_all rfl)
    (hm : (assignEach [.Name x px, .Name y py] env).map (·.2) = [assign (.Name x px) env, assign (.Name y py) env] := by with_unfolding_all rfl) : W C A (assign (.Tuple [.Name x px, .Name y py] kk tp) env (.ref a)) h R := W.mk fun s tk => by
  refine assign_Tuple_tuple (s := st s h tk) hh e.istup (by rw [hl]; rfl) hs fun h' he => ?_
  have S' := S.keep (h' := h') fun b o eb _ => he b o (Nat.ne_of_lt (Heap.lt_size eb)) eb
  rw [hm]
  refine assignInOrder_cons (((A_name (px := px) (N_store (x := x) (v := u) S' hk kx fun h2 S2 => S2) : W C A (assign (.Name x px) env u) h' (fun _ h2 => St C h₀ M env.locals (upd m x u) σ Φ h2))).run (s := s) (tk := tk) fun _ h2 t2 S2 => ?_)
  refine assignInOrder_cons (((A_name (px := py) (N_store (x := y) (v := v) S2 hk ky fun h2 S2 => S2) : W C A (assign (.Name y py) env v) h2 (fun _ h2 => St C h₀ M env.locals (upd (upd m x u) y v) σ Φ h2))).run (s := s) (tk := t2) fun _ h3 t3 S3 => ?_)
  exact assignInOrder_nil ⟨h3, t3, rfl, q h3 S3⟩
end
end
section
/-! the walk over a shelf, plain -/
noncomputable def kids (rs : List Row) (p : Pr) : List Pr := refs (treeAt rs p)
noncomputable def addT (rs : List Row) (f : List Pr) (p : Pr) : List Pr := if p ∈ f then f else if there rs p then f ++ [p] else f
noncomputable def adds (rs : List Row) (f ps : List Pr) : List Pr := ps.foldl (addT rs) f
inductive Wk (rs : List Row) : List Pr → Nat → List Pr → Prop
  | done {f : List Pr} {i : Nat} : f.length ≤ i → Wk rs f i f
  | step {f r : List Pr} {i : Nat} {p : Pr} : f[i]? = some p → Wk rs (adds rs f (kids rs p)) (i + 1) r → Wk rs f i r
theorem Wk.det {rs : List Row} {f r r' : List Pr} {i : Nat} (x : Wk rs f i r) (y : Wk rs f i r') : r = r' := by
  induction x with
  | done h => cases y with
    | done _ => rfl
    | step e _ => rw [List.getElem?_eq_none h] at e; cases e
  | step e _ ih => cases y with
    | done h => rw [List.getElem?_eq_none h] at e; cases e
    | step e' y => rw [e] at e'; cases e'; exact ih y
noncomputable def start (rs : List Row) (t : T) : List Pr := (refs t).filter (there rs)
open Classical in
noncomputable def wkT (rs : List Row) (t : T) : List Pr := if h : ∃ r, Wk rs (start rs t) 0 r then Classical.choose h else []
theorem wkT_eq {rs : List Row} {t : T} {r : List Pr} (x : Wk rs (start rs t) 0 r) : wkT rs t = r := by
  unfold wkT
  rw [dif_pos ⟨r, x⟩]
  exact (Classical.choose_spec (⟨r, x⟩ : ∃ r, Wk rs (start rs t) 0 r)).det x
structure WkF (rs : List Row) (t : T) : Prop where
  wk : Wk rs (start rs t) 0 (wkT rs t)
  nd : (wkT rs t).Nodup
  th : ∀ p ∈ wkT rs t, there rs p = true
  ln : Ln [t] [] (refs t)
theorem there_find {rs : List Row} {p : Pr} (h : there rs p = true) : find rs p.1 = some (p.2, treeAt rs p) := by
  unfold there at h; unfold treeAt
  split at h
  · rename_i g t e
    rw [e]; simp only [beq_iff_eq] at h; rw [h]
  · cases h
theorem there_inj {rs : List Row} {p q : Pr} (hp : there rs p = true) (hq : there rs q = true) (e : p.1 = q.1) : p = q := by
  have a := there_find hp
  have b := there_find hq
  rw [e, b] at a
  simp only [Option.some.injEq, Prod.mk.injEq] at a
  exact Prod.ext e a.1.symm
theorem find_mem {rs : List Row} {n g : Int} {t : T} (h : find rs n = some (g, t)) : (n, g, t) ∈ rs := by
  unfold find at h
  obtain ⟨r, hr, e⟩ := Option.map_eq_some_iff.mp h
  have h1 := List.find?_some hr
  have h2 := List.mem_of_find?_eq_some hr
  simp only [decide_eq_true_eq] at h1
  obtain ⟨a, b⟩ := r
  simp only at h1 e
  rw [← h1, ← e]; exact h2
theorem there_mem {rs : List Row} {p : Pr} (h : there rs p = true) : p.1 ∈ rs.map (·.1) := List.mem_map_of_mem (f := (·.1)) (find_mem (there_find h))
theorem nodup_len {α : Type} [DecidableEq α] : ∀ {l m : List α}, l.Nodup → (∀ x ∈ l, x ∈ m) → l.length ≤ m.length
  | [], _, _, _ => Nat.zero_le _
  | x :: l, m, nd, h => by
    obtain ⟨h1, h2⟩ := List.nodup_cons.mp nd
    have hx : x ∈ m := h x (.head _)
    have := nodup_len (m := m.erase x) h2 fun y hy => (List.mem_erase_of_ne (a := y) (b := x) (fun e => by subst e; exact h1 hy)).mpr (h y (.tail _ hy))
    rw [List.length_erase_of_mem hx] at this
    have := List.length_pos_of_mem hx
    simp only [List.length_cons]; omega
theorem firsts_nodup {rs : List Row} : ∀ {f : List Pr}, f.Nodup → (∀ p ∈ f, there rs p = true) → (f.map (·.1)).Nodup
  | [], _, _ => List.nodup_nil
  | p :: f, nd, h => by
    obtain ⟨h1, h2⟩ := List.nodup_cons.mp nd
    refine List.nodup_cons.mpr ⟨fun q => ?_, firsts_nodup h2 fun x hx => h x (.tail _ hx)⟩
    obtain ⟨x, hx, e⟩ := List.mem_map.mp q
    exact h1 (there_inj (h x (.tail _ hx)) (h p (.head _)) e ▸ hx)
theorem found_len {rs : List Row} {f : List Pr} (nd : f.Nodup) (h : ∀ p ∈ f, there rs p = true) : f.length ≤ rs.length := by
  have := nodup_len (m := rs.map (·.1)) (firsts_nodup nd h) fun x hx => by
    obtain ⟨p, hp, rfl⟩ := List.mem_map.mp hx
    exact there_mem (h p hp)
  simpa using this
theorem WkF.len {rs : List Row} {t : T} (x : WkF rs t) : (wkT rs t).length ≤ rs.length := found_len x.nd x.th
theorem addT_ok {rs : List Row} {f : List Pr} {p : Pr} (nd : f.Nodup) (h : ∀ p ∈ f, there rs p = true) : (addT rs f p).Nodup ∧ ∀ q ∈ addT rs f p, there rs q = true := by
  unfold addT
  split
  · exact ⟨nd, h⟩
  · split
    · refine ⟨List.nodup_append.mpr ⟨nd, by simp, fun a ha b hb => ?_⟩, fun q hq => ?_⟩
      · simp at hb; subst hb; rintro rfl; exact absurd ha ‹_›
      · rcases List.mem_append.mp hq with hq | hq
        · exact h q hq
        · simp at hq; subst hq; assumption
    · exact ⟨nd, h⟩
theorem adds_ok {rs : List Row} : ∀ {ps f : List Pr}, f.Nodup → (∀ p ∈ f, there rs p = true) → (adds rs f ps).Nodup ∧ ∀ q ∈ adds rs f ps, there rs q = true
  | [], f, nd, h => ⟨nd, h⟩
  | p :: ps, f, nd, h => let ⟨a, b⟩ := addT_ok (p := p) nd h; adds_ok (ps := ps) a b
theorem addT_pre {rs : List Row} {f : List Pr} {p : Pr} : ∃ g, addT rs f p = f ++ g := by
  unfold addT; split
  · exact ⟨[], by simp⟩
  · split
    · exact ⟨[p], rfl⟩
    · exact ⟨[], by simp⟩
theorem adds_pre {rs : List Row} : ∀ {ps f : List Pr}, ∃ g, adds rs f ps = f ++ g
  | [], f => ⟨[], by simp [adds]⟩
  | p :: ps, f => by
    obtain ⟨g, hg⟩ := addT_pre (rs := rs) (f := f) (p := p)
    obtain ⟨g', hg'⟩ := adds_pre (rs := rs) (ps := ps) (f := addT rs f p)
    exact ⟨g ++ g', by show adds rs (addT rs f p) ps = _; rw [hg', hg, List.append_assoc]⟩
theorem adds_snoc {rs : List Row} {ps f : List Pr} {p : Pr} : adds rs f (ps ++ [p]) = addT rs (adds rs f ps) p := by simp [adds]
theorem adds_append {rs : List Row} {ps qs f : List Pr} : adds rs f (ps ++ qs) = adds rs (adds rs f ps) qs := by simp [adds]
end
section
theorem miss_keys : typeLookup (.type "list") "keys" = pure none := by rw [typeLookup_type, builtinLookup_eq_fast]; kernel_rfl
theorem attrq_keys {C : Cx} {A : Around} {h : Heap} {a : Addr} {vs : List Value} {P : Option Value → Heap → Prop} (hh : A.handled = none) (e : At h.get? a (oL vs)) (y : ∀ h', Kb [] h h' → P none h') : W C A (getAttr? (.ref a) "keys") h P := W.mk fun s tk => by
  obtain ⟨o, hx, n, rfl⟩ := e
  obtain ⟨hp, g, d, tk0, os⟩ := s
  have hT : ∀ tk', (⟨h, g, d, tk', os⟩ : Shared).TypeIs (.ref a) "list" := fun _ => ⟨_, hx, rfl⟩
  have f1 := sub_AttributeError
  have f3 := F.slot_list_getattribute.lookup
  have f4 := F.slot_list_getattribute.bind (.ref a)
  have f5 := am_list_getattr_none
  show wpAny _ _ _ _ _ (⟨h, g, d, tk, os⟩ : Shared)
  unfold getAttr? getAttrBy? getAttrBy
  repeat (any_goals (first | assumption | exact hT _ | ((with_reducible show wpAny _ _ (call (Value.builtin "list.__getattribute__") _ _) _ _ _); refine call_meets F.slot_list_getattribute (hT _) am_entry_list_getattribute (F.args_list_getattribute_2 _ _) (meets_getattribute_miss_list a vs.toArray n #[] "keys" _ miss_keys (by decide +kernel) (by size_fits)) ⟨hx, hh, fun h' tk' e hx' => ?_⟩) | wp_step))
  obtain ⟨t', u', he⟩ := hx'.there
  show wpAny _ _ (getattributeRaised _ _ _ _ _ _ _) _ _ _
  unfold getattributeRaised
  repeat (any_goals (first | assumption | wp_step))
  exact ⟨h', tk', rfl, y h' fun b o e _ => hx'.keeps b o e⟩
end
section
theorem entry_upd_loop : entryFor table "dict.update.loop" = some Builtin.«dict.update.loop» := entryFor_of_fast (by kernel_rfl)
theorem plain_upd_loop : plainId "dict.update.loop" = true := by decide +kernel
section
variable {C : Cx} {A : Around} {h h₀ : Heap} {I d : Addr} {M : List Addr} {L : Addr} {m : Loc} {σ : Led} {Φ : Fz → Prop} {P : Value → Heap → Prop} {n : Nat} {Pv : Nat → Value → Prop} {oit : Nat → Obj → Prop} {Fact : Fz → Prop}
theorem upd_loop (T : Itr C I n Pv oit Fact) (hF : ∀ F, Φ F → Fact F) (hh : A.handled = none) {kv : Nat → Value × Value} {oX : Nat → Obj → Prop} (hi : ∀ i v F, i < n → Pv i v → Φ F → ∃ a, v = .ref a ∧ At F a (oT [(kv i).1, (kv i).2]))
    (hset : ∀ i h (Q : Unit → Heap → Prop), i < n → Φ h.get? → At h.get? d (oX i) → (∀ h', Kb [d] h h' → At h'.get? d (oX (i + 1)) → Q () h') → W C A.in1 (dictSet d (kv i).1 (kv i).2) h Q)
    {res : Value} {R : Result → Shared → Prop} (s : Shared) : ∀ (k i : Nat) (h : Heap) (tk : Nat) (j : Int) (u : Tok), n - i = k → i ≤ n →
    St C h₀ M L m ((I, oit i) :: (d, oX i) :: σ) Φ h → (∀ h' tk', St C h₀ M L m ((d, oX n) :: σ) Φ h' → R (.ok (.ret res)) (st s h' tk')) →
    codeAny (model PR C.w) A (.builtin "dict.update.loop" ⟨[.ref d, .ref I, .int j u, res], []⟩) R (st s h tk) := by
  intro k
  induction k with
  | zero =>
    intro i h tk j u hk hle S y
    obtain rfl : i = n := by exact om29 hk hle
    refine codeAny_builtin entry_upd_loop ?_
    rw [Around.under_plainId plain_upd_loop _]
    show wpAny _ A.in1 (pyNext (.ref I) >>= _) _ _ _
    refine wpAny_bind ((T.done A.in1 h (fun r h' => r = none ∧ Kb [I] h h') hh (hF _ S.now) S.at0 fun h' k => ⟨rfl, k⟩).run fun r h' tk' q => ?_)
    obtain ⟨e, k⟩ := q
    subst e
    show wpAny _ A.in1 (Builtin.Dict.addKeywords d [] >>= _) _ _ _
    exact wpAny_bind (wpAny_pure (wpAny_pure (y h' tk' (S.drop0 k))))
  | succ k ih =>
    intro i h tk j u hk hle S y
    refine codeAny_builtin entry_upd_loop ?_
    rw [Around.under_plainId plain_upd_loop _]
    show wpAny _ A.in1 (pyNext (.ref I) >>= _) _ _ _
    refine wpAny_bind ((T.next A.in1 h i (fun r h' => ∃ v, r = some v ∧ Pv i v ∧ Kb [I] h h' ∧ At h'.get? I (oit (i + 1))) hh (by exact om30 hk hle) (hF _ S.now) S.at0 fun v h' pv k e => ⟨v, rfl, pv, k, e⟩).run fun r h' tk' hq1 => ?_)
    obtain ⟨v, e, pv, kk, ee⟩ := hq1
    subst e
    have S2 := S.put0 kk ee
    obtain ⟨a, rfl, ea⟩ := hi i v _ (by exact om30 hk hle) pv S2.now
    refine wpAny_bind (m := holding _ _) (wpAny_holding (wpAny_bind (m := tryCatch _ _) (wpAny_tryCatch ?_)))
    unfold Builtin.Dict.pairItems
    have ht : (st s h' tk').TypeIs (.ref a) "tuple" := Heap.IsTuple.typeIs (s := st s h' tk') ea.tup
    refine wpAny_bind (wpAny_typeOf ht ?_)
    obtain ⟨o, eo, rfl⟩ := ea
    refine wpAny_bind (wpAny_seqItems (s := st s h' tk') eo rfl ?_)
    refine wpAny_pure ?_
    show wpAny _ _ (holding _ (dictSet d (kv i).1 (kv i).2)) _ _ _
    refine wpAny_holding ((hset i h' (fun _ h'' => Kb [d] h' h'' ∧ At h''.get? d (oX (i + 1))) (by exact om30 hk hle) S2.now S2.at1 fun h'' k2 e2 => ⟨k2, e2⟩).run fun _ h3 t3 hq2 => ?_)
    obtain ⟨k3, e3⟩ := hq2
    refine wpAny_pure ⟨plainId_quiet plain_upd_loop _, ?_⟩
    exact ih (i + 1) h3 t3 (j + 1) 0 (by exact om33 hk hle) (by exact om34 hk hle) (S2.put1 k3 e3) y
theorem C_dictL {l : Addr} {vs : List Value} (S : St C h₀ M L m σ Φ h) (hh : A.handled = none) (hl : ∀ F, Φ F → At F l (oL vs)) (kv : Nat → Value × Value) (oX : Nat → Obj → Prop) (hi : ∀ i v F, vs[i]? = some v → Φ F → ∃ a, v = .ref a ∧ At F a (oT [(kv i).1, (kv i).2]))
    (h0 : oX 0 emptyDict)
    (hset : ∀ A' d i h (Q : Unit → Heap → Prop), A'.units ≤ A.units + 3 → 503 ≤ d → i < vs.length → Φ h.get? → At h.get? d (oX i) → (∀ h', Kb [d] h h' → At h'.get? d (oX (i + 1)) → Q () h') → W C A' (dictSet d (kv i).1 (kv i).2) h Q)
    (y : ∀ d h', h.objs.size ≤ d → 503 ≤ d → St C h₀ M L m ((d, oX vs.length) :: σ) Φ h' → P (.ref d) h') : W C A (call (.type "dict") [.ref l]) h P := W.mk fun s tk => by
  refine callType_codes (Q₁ := fun obj s₁ => obj = .ref h.objs.size ∧ s₁ = st s (h.push emptyDict) tk) F.kt_called_dict (F.kt_typeCall_dict_1 _) F.entry_dict_init (kt_code_dict_new _ ⟨rfl, rfl⟩) ?_
  rintro obj s₁ ⟨rfl, rfl⟩
  have S1 := S.push (P := oX 0) emptyDict h0
  have hd : (st s (h.push emptyDict) tk).TypeIs (.ref h.objs.size) "dict" := ⟨emptyDict, Heap.get?_push_size _ rfl, rfl⟩
  refine ⟨hd, F.args_dict_init_2 _ _, ?_⟩
  unfold Builtin.«dict.__init__»
  refine wpAny_bind ?_
  unfold Builtin.Dict.selfAndRest
  refine wpAny_bind (wpAny_notOrdered_dict hd ?_)
  show wpAny _ _ (pure (h.objs.size, [Value.ref l])) _ _ _
  refine wpAny_pure ?_
  show wpAny _ _ (Builtin.Dict.updateFrom "dict.__init__" h.objs.size (.ref l) [] .none) _ _ _
  unfold Builtin.Dict.updateFrom
  have hT : (st s (h.push emptyDict) tk).TypeIs (.ref l) "list" := let ⟨o, e, p⟩ := hl _ S1.now; ⟨o, e, p.w.1⟩
  refine wpAny_bind (wpAny_typeOf hT ?_)
  rw [if_pos (by decide)]
  refine wpAny_bind ((attrq_keys (P := fun r h' => r = none ∧ Kb [] (h.push emptyDict) h') (A := A.in1.in1) hh (hl _ S1.now) fun h' k => ⟨rfl, k⟩).run fun r h2 t2 hq3 => ?_)
  obtain ⟨e, k2⟩ := hq3
  subst e
  have S2 := S1.keep k2
  rw [if_pos (show (none : Option Value).isNone = true from rfl)]
  show wpAny _ _ (pyIter (.ref l) >>= _) _ _ _
  refine wpAny_bind ((I_list (A := A.in1.in1) (Q := fun v h' => ∃ I, v = .ref I ∧ l ≠ I ∧ St C h₀ M L m ((I, oLI l 0) :: (h.objs.size, oX 0) :: σ) Φ h') S2 (hl _ S2.now) fun I h3 nI ne S3 => ⟨I, rfl, ne, S3⟩).run fun r h3 t3 hq4 => ?_)
  obtain ⟨I, e, ne, S3⟩ := hq4
  subst e
  refine wpAny_pure ⟨plainId_quiet plain_upd_loop _, ?_⟩
  refine upd_loop (A := A.in1) (kv := kv) (oX := oX) (Itr.list (vs := vs) ne) hl hh (fun i v F hi' pv f => hi i v F pv f) (fun i h Q hn f e z => hset _ _ i h Q (by show A.units + 1 + 1 ≤ _; exact om63) S.h5 hn f e z) s vs.length 0 h3 t3 0 0 rfl (Nat.zero_le _) S3 fun h' tk' S' => ?_
  exact ⟨rfl, h', tk', rfl, y _ h' (Nat.le_refl _) S.h5 S'⟩
end
end
section
/-- a list's items are tuples of two -/
inductive Tw (F : Fz) : List Value → List (Value × Value) → Prop
  | nil : Tw F [] []
  | cons {a : Addr} {x : Value × Value} {vs : List Value} {xs : List (Value × Value)} : At F a (oT [x.1, x.2]) → Tw F vs xs → Tw F (.ref a :: vs) (x :: xs)
inductive KVs {C : Cx} {K : Type} [DecidableEq K] (knd : PySem.KeyKind PR C.w K) : List (Value × Value) → List (K × Value) → Prop
  | nil : KVs knd [] []
  | cons {x : Value × Value} {xs : List (Value × Value)} {k : K} {kvs : List (K × Value)} : knd.is k x.1 = true → KVs knd xs kvs → KVs knd (x :: xs) ((k, x.2) :: kvs)
section
variable {F F' : Fz}
theorem Tw.mono (l : Le F F') {vs : List Value} {xs : List (Value × Value)} (x : Tw F vs xs) : Tw F' vs xs := by
  induction x with
  | nil => exact .nil
  | cons a _ ih => exact .cons (a.mono l) ih
theorem Tw.length {vs : List Value} {xs : List (Value × Value)} (x : Tw F vs xs) : vs.length = xs.length := by
  induction x with
  | nil => rfl
  | cons _ _ ih => exact congrArg (· + 1) ih
theorem Tw.append {vs ws : List Value} {xs ys : List (Value × Value)} (x : Tw F vs xs) (y : Tw F ws ys) : Tw F (vs ++ ws) (xs ++ ys) := by
  induction x with
  | nil => exact y
  | cons a _ ih => exact .cons a ih
theorem Tw.snoc {vs : List Value} {xs : List (Value × Value)} {a : Addr} {x : Value × Value} (t : Tw F vs xs) (y : At F a (oT [x.1, x.2])) : Tw F (vs ++ [.ref a]) (xs ++ [x]) := t.append (.cons y .nil)
theorem Tw.get {vs : List Value} {xs : List (Value × Value)} {i : Nat} {v : Value} (t : Tw F vs xs) (e : vs[i]? = some v) : ∃ a x, v = .ref a ∧ xs[i]? = some x ∧ At F a (oT [x.1, x.2]) := by
  induction t generalizing i with
  | nil => exact absurd e (by simp)
  | cons a _ ih =>
    cases i with
    | zero => exact ⟨_, _, (Option.some.inj e).symm, rfl, a⟩
    | succ i => exact ih e
variable {C : Cx} {K : Type} [DecidableEq K] {knd : PySem.KeyKind PR C.w K}
theorem KVs.length {xs : List (Value × Value)} {kvs : List (K × Value)} (x : KVs knd xs kvs) : xs.length = kvs.length := by
  induction x with
  | nil => rfl
  | cons _ _ ih => exact congrArg (· + 1) ih
theorem KVs.append {xs ys : List (Value × Value)} {kvs lvs : List (K × Value)} (x : KVs knd xs kvs) (y : KVs knd ys lvs) : KVs knd (xs ++ ys) (kvs ++ lvs) := by
  induction x with
  | nil => exact y
  | cons a _ ih => exact .cons a ih
theorem KVs.snoc {xs : List (Value × Value)} {kvs : List (K × Value)} {key v : Value} {k : K} (t : KVs knd xs kvs) (y : knd.is k key = true) : KVs knd (xs ++ [(key, v)]) (kvs ++ [(k, v)]) := t.append (.cons y .nil)
theorem KVs.get {xs : List (Value × Value)} {kvs : List (K × Value)} {i : Nat} {x : Value × Value} (t : KVs knd xs kvs) (e : xs[i]? = some x) : ∃ k, kvs[i]? = some (k, x.2) ∧ knd.is k x.1 = true := by
  induction t generalizing i with
  | nil => exact absurd e (by simp)
  | cons a _ ih =>
    cases i with
    | zero => cases (Option.some.inj e); exact ⟨_, rfl, a⟩
    | succ i => exact ih e
theorem stored_new : ∀ {kvs : List (K × Value)} {k : K} {v : Value}, k ∉ kvs.map (·.1) → stored kvs k v = kvs ++ [(k, v)] := fun {kvs k v} h => by
  unfold stored
  have : (kvs.any fun kv => decide (kv.1 = k)) = false := by
    rw [List.any_eq_false]
    intro x hx
    simp only [decide_eq_true_eq]
    exact fun e => h (e ▸ List.mem_map_of_mem hx)
  rw [if_neg (by rw [this]; exact Bool.false_ne_true)]
theorem nodup_take {α : Type} {l : List α} (h : l.Nodup) {i : Nat} {x : α} (e : l[i]? = some x) : x ∉ l.take i := fun q => by
  obtain ⟨j, hj, ej⟩ := List.mem_take_iff_getElem.mp q
  obtain ⟨hi, ei⟩ := List.getElem?_eq_some_iff.mp e
  have := (List.getElem_inj (h₀ := by omega) (h₁ := hi) h).mp (ej.trans ei.symm)
  omega
end
section
variable {C : Cx} {A : Around} {h h₀ : Heap} {M : List Addr} {L : Addr} {m : Loc} {σ : Led} {Φ : Fz → Prop} {P : Value → Heap → Prop}
theorem C_dictK {K : Type} [DecidableEq K] (knd : PySem.KeyKind PR C.w K) {l : Addr} {vs : List Value} {xs : List (Value × Value)} {kvs : List (K × Value)} (S : St C h₀ M L m σ Φ h) (hh : A.handled = none) (hl : ∀ F, Φ F → At F l (oL vs) ∧ Tw F vs xs) (hk : KVs knd xs kvs) (nd : (kvs.map (·.1)).Nodup) (hz : kvs.length ≤ 100000)
    (y : ∀ d h', h.objs.size ≤ d → 503 ≤ d → St C h₀ M L m ((d, oD knd kvs) :: σ) Φ h' → P (.ref d) h') : W C A (call (.type "dict") [.ref l]) h P := by
  have e1 := (hl _ S.now).2.length
  have e2 := hk.length
  refine C_dictL S hh (fun F f => (hl F f).1) (fun i => xs.getD i (.none, .none)) (fun i => oD knd (kvs.take i)) (fun i v F e f => ?_) (oD_new knd) (fun A' d i hp Q hu d5 hi f e q => ?_) fun d h' nd d5 S' => y d h' nd d5 ?_
  · obtain ⟨a, x, h1, h2, h3⟩ := (hl F f).2.get e
    exact ⟨a, h1, by rw [List.getD_eq_getElem?_getD, h2]; exact h3⟩
  · obtain ⟨x, ex⟩ : ∃ x, xs[i]? = some x := ⟨xs[i]'(by exact om64 e1 hi), List.getElem?_eq_getElem (by exact om64 e1 hi)⟩
    obtain ⟨k, ek, ik⟩ := hk.get ex
    rw [List.getD_eq_getElem?_getD, ex]
    have hn : k ∉ (kvs.take i).map (·.1) := by
      rw [List.map_take]
      exact nodup_take nd (by rw [List.getElem?_map, ek]; rfl)
    refine W.mk fun s tk => wpAny_dictSet_pairs (s := st s hp tk) ik e.dict (fun h' hm hs => ⟨h', tk + 1, rfl, q h' (kb_same hs) ?_⟩) (by rw [List.length_take]; exact Nat.le_trans (Nat.min_le_right _ _) (Nat.le_trans hz (by decide)))
    have := At.of_dict hm
    rw [stored_new hn] at this
    rw [List.take_add_one, ek]
    exact this
  · rw [show vs.length = kvs.length by exact om65 e1 e2, List.take_length] at S'
    exact S'
/-- .. where the keys are pairs -/
theorem C_dictT {l : Addr} {vs : List Value} {xs : List (Pr × Addr × Value)} (S : St C h₀ M L m σ Φ h) (hh : A.handled = none) (hu : A.units + 100 < cLine) (hl : ∀ F, Φ F → At F l (oL vs) ∧ Tw F vs (xs.map fun x => (.ref x.2.1, x.2.2)) ∧ KeysAt F xs) (nd : (xs.map (·.1)).Nodup) (hz : xs.length ≤ 100000)
    (y : ∀ d h', h.objs.size ≤ d → 503 ≤ d → St C h₀ M L m ((d, oTD C xs) :: σ) Φ h' → P (.ref d) h') : W C A (call (.type "dict") [.ref l]) h P := by
  have e1 := (hl _ S.now).2.1.length
  rw [List.length_map] at e1
  refine C_dictL S hh (fun F f => (hl F f).1) (fun i => (xs.map fun x => ((.ref x.2.1, x.2.2) : Value × Value)).getD i (.none, .none)) (fun i => oTD C (xs.take i)) (fun i v F e f => ?_) oTD_new (fun A' d i hp Q hu' d5 hi f e q => ?_) fun d h' nd d5 S' => y d h' nd d5 ?_
  · obtain ⟨a, x, h1, h2, h3⟩ := (hl F f).2.1.get e
    exact ⟨a, h1, by rw [List.getD_eq_getElem?_getD, h2]; exact h3⟩
  · obtain ⟨x, ex⟩ : ∃ x, xs[i]? = some x := ⟨xs[i]'(by exact om64 e1 hi), List.getElem?_eq_getElem (by exact om64 e1 hi)⟩
    rw [List.getD_eq_getElem?_getD, List.getElem?_map, ex]
    have hx : x ∈ xs := List.mem_of_getElem? ex
    have hk := (hl _ f).2.2
    have hn : x.1 ∉ (xs.take i).map (·.1) := by
      rw [List.map_take]
      exact nodup_take nd (by rw [List.getElem?_map, ex]; rfl)
    have hs0 : seenAt (xs.take i) x.1 = none := by
      rw [← Option.isNone_iff_eq_none, ← Option.not_isSome, seen_some]; simpa using hn
    have hks : KeysAt hp.get? (xs.take i) := fun z hz => hk z (List.mem_of_mem_take hz)
    have hnone : atKey ((xs.take i).map fun x => (([x.1.1, x.1.2] : List Int), x.2.1, x.2.2)) [x.1.1, x.1.2] = none := by
      have := seenAt_eq (xs.take i) x.1
      rw [hs0, Option.map_eq_none_iff] at this
      exact this
    refine W.mk fun s tk => wpAny_dictSet_heap (knd := tK C) (s := st s hp tk) (show A'.units < cLine by exact om66 hu hu') (hk x hx).key (e.dictH hks) (fun h' hm hs => ⟨h', _, rfl, q h' (kb_same hs) ?_⟩) (by rw [List.length_map, List.length_take]; exact Nat.le_trans (Nat.min_le_right _ _) (Nat.le_trans hz (by decide)))
    obtain ⟨o, es, ep, a1, a2, a3, a4, a5, a6⟩ := hm
    refine ⟨o, a1, es, ep, a2, a3, ?_, ?_⟩
    · rw [a4, storedH_new hnone, List.take_add_one, ex]; simp
    · exact List.Sublist.nodup ((List.take_sublist _ _).map _) nd
  · rw [show vs.length = xs.length by exact om67 e1, List.take_length] at S'
    exact S'
end
end
section
section
variable {C : Cx} {A : Around} {h : Heap} {s : Addr} {F : Fz} {k : Nat} {sh : Sh} {p : Pr} {pv : Value}
noncomputable abbrev PPost (h : Heap) (b : Bool) : Value → Heap → Prop := fun v h' => v = .bool b ∧ Kb [] h h' ∧ h.objs.size ≤ h'.objs.size
theorem there_ok (G : GF C h) (R : Rm A (k + 1)) (hF : Le F h.get?) (x : RepSh C F s sh) (tp : vTp p pv F) : W C A (call (.ref 385) [.ref s, pv]) h (PPost h (there sh.rows p)) := by
  obtain ⟨td, rd, kvs, tvs, x1, x2, x3, x4, x5, x6⟩ := x.1
  obtain ⟨pa, rfl, p5, t1, t2, tp⟩ := tp
  refine go (m := [(Str.ofString "pair", .ref pa), (Str.ofString "shelf", .ref s)]) (In.nil (Φ := fun F' => Le F F') G fun F' l => hF.trans (by rw [fz_nil] at l; exact l)) R rfl rfl (by kernel_rfl) (fun s e => BindsTo.of_eq rfl) rfl (by kernel_rfl) (by kernel_rfl) rfl rfl rfl fun A' L h1 R' S => ?_
  refine bodyK rfl fun Rq kq => ?_
  walk_at "r"
  refine A_two S R'.hd (tp.mono S.now) rfl (by kernel_rfl) (by kernel_rfl) fun h2 S2 => ?_
  have S3 := S2.lo (m' := [(Str.ofString "pair", .ref pa), (Str.ofString "shelf", .ref s), (Str.ofString "number", .int p.1 t1), (Str.ofString "generation", .int p.2 t2)]) (by with_unfolding_all rfl)
  clear S S2
  walk_at "r"
  refine A_table S3.g (x1.mono S3.now) ?_
  refine D_in (knd := iK C) (k := p.1) (by simp [PySem.intKind, Value.isInt]) (x2.mono S3.now) x1.t5 ?_
  walk_at "r"
  refine ⟨fun hv => ?_, fun hv => ?_⟩
  · obtain ⟨a, g, tg, v, t, e1, e2, e3, e4, e5⟩ := x3.some hv
    walk_at "r"
    refine A_table S3.g (x1.mono S3.now) ?_
    walk_at "r"
    refine D_sub (knd := iK C) (k := p.1) (by simp [PySem.intKind, Value.isInt]) (x2.mono S3.now) e1 ?_
    walk_at "r"
    refine O_subT (e3.mono S3.now) (by decide) (by decide) rfl ?_
    walk_at "r"
    refine O_eq (kq.go ⟨?_, S3.kb, S3.size⟩)
    unfold there; rw [e2]
  · have := x3.none (n := p.1)
    rw [hv] at this ⊢
    refine (kq.go ⟨?_, S3.kb, S3.size⟩)
    unfold there
    have e := Option.isNone_iff_eq_none.mp (by rw [← Option.not_isSome, ← this]; rfl)
    rw [e]
end
end
section
noncomputable def places : List Str := [Str.ofString "Size", Str.ofString "Prev", Str.ofString "XRefStm"]
noncomputable def kept (k : Str) : Bool := !places.contains k
noncomputable def plainL (sh : Sh) : List (Str × T) := (sh.ks.zip sh.xs).filter fun q => kept q.1
noncomputable def plain (sh : Sh) : T := .dict ((plainL sh).map (·.1)) ((plainL sh).map (·.2))
section
variable {C : Cx} {A : Around} {h : Heap} {s : Addr} {F : Fz} {k : Nat} {sh : Sh}
theorem filt_rep : ∀ {tvs : List (Str × Value)} {xs : List T}, Reps C F (tvs.map (·.2)) xs → (tvs.filter fun q => kept q.1).map (·.1) = (((tvs.map (·.1)).zip xs).filter fun q => kept q.1).map (·.1) ∧ Reps C F ((tvs.filter fun q => kept q.1).map (·.2)) ((((tvs.map (·.1)).zip xs).filter fun q => kept q.1).map (·.2))
  | [], _, .nil => ⟨rfl, .nil⟩
  | (k, v) :: r, _, .cons a b => by
    obtain ⟨h1, h2⟩ := filt_rep b
    simp only [List.map_cons, List.zip_cons_cons, List.filter_cons]
    by_cases e : kept k = true
    · simp only [e, if_true, List.map_cons]
      exact ⟨by rw [h1], .cons a h2⟩
    · simp only [e]
      exact ⟨h1, h2⟩
theorem filter_take {α : Type} {l : List α} {i : Nat} {x : α} (f : α → Bool) (e : l[i]? = some x) : (l.take (i + 1)).filter f = (l.take i).filter f ++ if f x then [x] else [] := by
  rw [List.take_add_one, e, List.filter_append]
  congr 1
  simp only [Option.toList_some, List.filter_cons, List.filter_nil]
theorem O_places {P : Value → Heap → Prop} {key : Str} {t : Tok} (G : GF C h) (q : P (.bool (kept key)) h) : W C A (compareOp .NotIn (.str key t) (.ref 378)) h P := W.mk fun s tk => by
  have e := G.x 378 ⟨.type "tuple", none, .seq [.str (Str.ofString "Size") 664, .str (Str.ofString "Prev") 665, .str (Str.ofString "XRefStm") 666].toArray 0, #[]⟩ (by kernel_rfl)
  refine PySem.SeqAt.notIn_tupleAt (s := st s h tk) (e := fun y => match y with | .str a _ => a == key | _ => false) ⟨_, e, rfl, 0, rfl⟩ (fun y hy => ?_) ⟨h, tk, rfl, ?_⟩
  · simp only [List.mem_toArray, List.mem_cons, List.not_mem_nil, or_false] at hy
    rcases hy with rfl | rfl | rfl <;> exact SeqAt.EqAt.str_str _ _ _ _
  · have : (!([.str (Str.ofString "Size") 664, .str (Str.ofString "Prev") 665, .str (Str.ofString "XRefStm") 666].toArray : Array Value).any fun y => match y with | .str a _ => a == key | _ => false) = kept key := by
      unfold kept places
      simp only [List.any_toArray, List.any_cons, List.any_nil, List.contains_cons, List.contains_nil]
      rw [Bool.beq_comm (a := key), Bool.beq_comm (a := key), Bool.beq_comm (a := key)]
    rw [this]; exact q
/-- a new dict of values that stand -/
noncomputable abbrev DPost (C : Cx) (F : Fz) (h : Heap) (ks : List Str) (xs : List T) : Value → Heap → Prop := fun v h' => ∃ d kvs, v = .ref d ∧ 503 ≤ d ∧ At (nw h h') d (oD (sK C) kvs) ∧ kvs.map (·.1) = ks ∧ Reps C F (kvs.map (·.2)) xs ∧ Kb [] h h' ∧ h.objs.size ≤ h'.objs.size
theorem plain_ok (G : GF C h) (R : Rm A (k + 1)) (hF : Le F h.get?) (x : RepSh C F s sh) (hz : sh.ks.length ≤ 1000) : W C A (call (.ref 390) [.ref s]) h (DPost C F h ((plainL sh).map (·.1)) ((plainL sh).map (·.2))) := by
  obtain ⟨td, rd, kvs, tvs, x1, x2, x3, x4, x5, x6⟩ := x.1
  have R1 : Rm A (0 + 1) := R.le (by exact om68)
  refine go1 (m := []) (v1 := some (.ref s)) (x1 := Str.ofString "shelf") (In.nil (Φ := fun F' => Le F F') G fun F' l => hF.trans (by rw [fz_nil] at l; exact l)) R1 rfl rfl (by kernel_rfl) (fun s e => BindsTo.of_eq rfl) (by kernel_rfl) (fun n => rfl) (fun L => rfl) (fun L => rfl) rfl rfl rfl fun A' L h1 cv R' S => ?_
  refine bodyK rfl fun Rq kq => ?_
  have hl : tvs.length ≤ 1000 := by have := congrArg List.length x5; simp only [List.length_map] at this; exact om69 hz this
  walk_at "r"
  refine E_compP (h₀ := h) (M := []) (L := L) (cl := [(Str.ofString "shelf", cv)]) ?_ (by with_unfolding_all rfl) (by kernel_rfl) rfl (by kernel_rfl) (fun Cc => by kernel_rfl)
  walk_at "r"
  refine A_trailer S.g (x1.mono S.now) ?_
  obtain ⟨ep, xa⟩ := x4.da
  refine I_keys S (xa.mono S.now) x1.r5 fun I h2 nI ne S2 => ?_
  refine ⟨I, _, _, _, _, _, _, _, fun i acc F' => ∃ xs, Tw F' acc xs ∧ KVs (sK C) xs ((tvs.take i).filter fun q => kept q.1), rfl, Itr.keys (knd := sK C) (kvs := tvs) (ep := ep) ne, R'.hd, by exact om70 hl, fun F' _ f => xa.mono f, fun F' _ => ⟨[], .nil, by simpa using KVs.nil⟩, S2, ?_, ?_⟩
  · rintro i acc v D Cc h6 Kf Kt hi ⟨ks, w, ek, ik⟩ ha hD kf kt S3
    obtain ⟨tks, rfl⟩ := Value.isStrOf_shape (show v.isStrOf ks = true from ik)
    refine ts_one ?_
    walk_at "r"
    refine O_places S3.g ?_
    walk_at "r"
    refine ⟨fun e => kf _ (S3.imp fun F' _ ⟨⟨xs, h1, h2⟩, l⟩ => ⟨⟨xs, h1, ?_⟩, l⟩), fun e => ?_⟩
    · rw [filter_take _ ek, e]
      simpa using h2
    · walk_at "r"
      refine A_trailer S3.g (x1.mono S3.now.2) ?_
      walk_at "r"
      refine D_sub (knd := sK C) (k := ks) ik (x4.mono S3.now.2) (v := w) (valueAt_of_get x4.nodup ek) ?_
      walk_at "r"
      refine S_tuple S3 fun a h7 na a5 S4 => kt _ _ (S4.imp fun F' _ ⟨f, ⟨xs, h1, h2⟩, l⟩ => ⟨⟨xs ++ [(.str ks tks, w)], h1.snoc f, ?_⟩, l⟩)
      rw [filter_take _ ek, e]
      exact h2.snoc (v := w) ik
  · intro D acc h3 hD D5 ha S3
    clear S2 S
    walk_at "r"
    obtain ⟨⟨xs, tw, kx⟩, -⟩ := S3.here
    rw [List.take_length] at kx
    have S4 := S3.freeze (Ψ := fun F' => At F' D (oL acc) ∧ Tw F' acc xs) fun F' o po l e f => ⟨⟨o, e, po⟩, tw.mono l⟩
    obtain ⟨h1, h2⟩ := filt_rep x6
    have ek : (tvs.filter fun q => kept q.1).map (·.1) = (plainL sh).map (·.1) := by rw [h1, x5]; rfl
    refine C_dictK (sK C) (xs := xs) S4 R'.hd (fun F' f => f) kx ?_ ?_ fun d h4 nd d5 S5 => ?_
    · exact (List.filter_sublist.map _).nodup x4.nodup
    · exact Nat.le_trans (List.length_filter_le _ _) (by exact om70 hl)
    · obtain ⟨o, eo, p⟩ := S5.at0
      exact (kq.go ⟨d, _, rfl, d5, ⟨o, ge_of (Nat.le_trans S4.size nd) eo, p⟩, ek, by unfold plainL; rw [← x5]; exact h2, S5.kb, S5.size⟩)
end
end
section
section
variable {C : Cx} {A : Around} {h : Heap} {s : Addr} {F : Fz} {k : Nat} {sh : Sh}
noncomputable abbrev wkM (v : Value) (fA sA : Addr) (i : Nat) (ti : Tok) (o : Option Value) : Loc := (Str.ofString "value", v) :: (Str.ofString "found", .ref fA) :: (Str.ofString "seen", .ref sA) :: (Str.ofString "at", .int i ti) :: (o.map fun u => (Str.ofString "pair", u)).toList
noncomputable abbrev wkΦ (C : Cx) (F₀ : Fz) (n : Nat) (vs : List Value) (f : List Pr) (xs : List (Pr × Addr × Value)) : Fz → Prop := fun F => Tps (ge n F) vs f ∧ KeysAt F xs ∧ Le F₀ F
inductive WJ (C : Cx) (h₀ : Heap) (L cv fA sA s : Addr) (v : Value) (t : T) (rs : List Row) (F₀ : Fz) (i : Nat) (f : List Pr) (h : Heap) : Prop
  | mk (ti : Tok) (o : Option Value) (vs : List Value) (xs : List (Pr × Addr × Value)) (z0 : xs.map (·.1) = f) (z1 : f.Nodup) (z2 : (∀ p ∈ f, there rs p = true)) (z3 : St C h₀ [] L (wkM v fA sA i ti o) [(sA, oTD C xs), (fA, oL vs), (cv, oCell (some (.ref s)))] (wkΦ C F₀ h₀.objs.size vs f xs) h)
/-- .. and what its inner loop keeps -/
inductive FJ (C : Cx) (h₀ : Heap) (L cv fA sA s : Addr) (v : Value) (rs : List Row) (F₀ : Fz) (i : Nat) (ti : Tok) (f ps : List Pr) (I rl : Addr) (rvs : List Value) (j : Nat) (h : Heap) : Prop
  | mk (f' : List Pr) (o : Option Value) (vs : List Value) (xs : List (Pr × Addr × Value)) (z0 : f' = adds rs f (ps.take j)) (z1 : xs.map (·.1) = f') (z2 : St C h₀ [] L (wkM v fA sA i ti o) [(I, oLI rl j), (sA, oTD C xs), (fA, oL vs), (cv, oCell (some (.ref s)))] (fun F' => (At (ge h₀.objs.size F') rl (oL rvs) ∧ Tps (ge h₀.objs.size F') rvs ps) ∧ wkΦ C F₀ h₀.objs.size vs f' xs F') h)
/-- sizes that the walk leans on -/
structure Fit (sh : Sh) : Prop where
  rows : sh.rows.length ≤ 20
  sz : ∀ r ∈ sh.rows, r.2.2.size ≤ 60
  ks : sh.ks.length ≤ 20
  tz : (T.dict sh.ks sh.xs).size ≤ 60
theorem walk_ok {v : Value} {t : T} (G : GF C h) (R : Rm A (k + 5)) (hF : Le F h.get?) (x : RepSh C F s sh) (fit : Fit sh) (r : Rep C F v t) (hz : t.size ≤ 60) :
    W C A (call (.ref 395) [.ref s, v]) h (New h (fun u F' => WkF sh.rows t ∧ vTps (wkT sh.rows t) u F')) := by
  obtain ⟨td, rd, kvs, tvs, x1, x2, x3, x4, x5, x6⟩ := x.1
  refine go1 (k := k + 4) (m := [(Str.ofString "value", v)]) (v1 := some (.ref s)) (x1 := Str.ofString "shelf") (In.nil (Φ := fun F' => Le F F') G fun F' l => hF.trans (by rw [fz_nil] at l; exact l)) R rfl rfl (by kernel_rfl) (fun s e => BindsTo.of_eq rfl) (by kernel_rfl) (fun n => rfl) (fun L => by with_unfolding_all exact look_upd [] (Str.ofString "value") v) (fun L => rfl) rfl rfl rfl fun A' L h1 cv R' S => ?_
  have R1 : Rm A' (0 + 1) := R'.le (by exact om71)
  have hu : A'.units + 200 < cLine := by have := R'.un; exact om72 this
  refine bodyK rfl fun Rq kq => ?_
  -- found
  refine X_compP (h₀ := h) (M := []) (cl := [(Str.ofString "shelf", cv)]) ?_ (by with_unfolding_all rfl) (by kernel_rfl) rfl (by with_unfolding_all rfl) (by kernel_rfl) rfl (by kernel_rfl) (fun Cc => by kernel_rfl)
  walk_at "r"
  refine ⟨S.g, (refs_ok S.g R' (fz_le _ _) (r.mono (S.here)) hz).mono fun lv h2 hq1 => ?_⟩
  obtain ⟨⟨hLn, hlen, rl, rvs, e, r5, erl, tps⟩, k2, z2⟩ := hq1
  subst e
  have S2 := S.newx k2 (X := fun F' => At F' rl (oL rvs) ∧ Tps F' rvs (refs t)) (fun x l => ⟨x.1.mono l, x.2.mono l⟩) ⟨erl, tps⟩
  clear S
  refine I_list S2 (S2.now.1.1.mono ge_le) fun I h3 nI ne S3 => ?_
  clear S2
  have hrl : rvs.length ≤ 60 := by have := tps.length; exact om73 hz hlen this
  refine ⟨I, _, _, oLI rl, _, _, _, _, fun i acc F' => Tps (ge h.objs.size F') acc (((refs t).take i).filter (there sh.rows)), rfl, Itr.list (vs := rvs) ne, R'.hd, by exact om74 hrl, fun F' _ f => f.1.1.mono ge_le, fun F' _ => by simpa using Tps.nil, S3, ?_, ?_⟩
  · intro i acc pv D Cc h6 Kf Kt hi ev ha hD kf kt S4
    obtain ⟨p, ep, tp⟩ := S4.here.2.1.2.get ev
    refine ts_one ?_
    walk_at "r"
    refine ⟨S4.g, (there_ok S4.g R1 (fz_le _ _) (x.mono S4.here.2.2) (vTp.mono tp ge_le)).mono fun u h7 hq2 => ?_⟩
    obtain ⟨e, k7, z7⟩ := hq2
    subst e
    have S5 := S4.keep k7
    clear S4
    walk_at "r"
    refine ⟨fun e => kf _ (S5.imp fun F' _ ⟨f, l⟩ => ⟨?_, l⟩), fun e => ?_⟩
    · try dsimp only at f ⊢
      rw [filter_take _ ep, e]
      simpa using f
    · walk_at "r"
      refine kt _ _ (S5.imp fun F' _ ⟨f, l⟩ => ⟨?_, l⟩)
      obtain ⟨p', ep', tp'⟩ := l.1.2.get ev
      rw [ep] at ep'; cases ep'
      try dsimp only at f ⊢
      rw [filter_take _ ep, e]
      exact f.snoc tp'
  · intro fA acc h6 hD D5 ha S4
    have nh := Nat.le_trans S3.size hD
    clear S3
    have S5 := S4.imp (Ψ := fun F' => Tps (ge h.objs.size F') acc (start sh.rows t) ∧ Le F F') fun F' _ f => ⟨by have := f.1; rwa [tps.length, List.take_length] at this, f.2.2⟩
    clear S4
    -- seen
    walk_at "r"
    refine E_compP (h₀ := h) (M := []) (L := L) (cl := []) ?_ (by with_unfolding_all rfl) (by kernel_rfl) rfl (by kernel_rfl) (fun Cc => by kernel_rfl)
    walk_at "r"
    refine I_list S5 S5.at0 fun I h7 nI ne S6 => ?_
    clear S5
    have sl : (start sh.rows t).length = acc.length := S6.now.1.length.symm
    refine ⟨I, _, _, oLI fA, _, _, _, _, fun i bcc F' => ∃ xs : List (Pr × Addr × Value), Tw F' bcc (xs.map fun y => (.ref y.2.1, y.2.2)) ∧ KeysAt F' xs ∧ xs.map (·.1) = (start sh.rows t).take i, rfl, Itr.list (vs := acc) ne, R'.hd, by exact om75 hrl ha sl, fun h' q f => q (fA, oL acc) (.head _), fun F' _ => ⟨[], .nil, fun _ q => (List.not_mem_nil q).elim, by simp⟩, S6, ?_, ?_⟩
    · intro i bcc pv D Cc h8 Kf Kt hi ev hb hD kf kt S7
      refine ts_nil ⟨fun q => Bool.noConfusion q, fun _ => ?_⟩
      walk_at "r"
      refine S_tuple S7 fun a h9 na a5 S8 => kt _ _ (S8.imp fun F' _ ⟨f, ⟨xs, h1, h2, h3⟩, l⟩ => ⟨?_, l⟩)
      obtain ⟨p, ep, b, rfl, b5, tb⟩ := l.1.get ev
      refine ⟨xs ++ [(p, b, .bool true)], by rw [List.map_append]; exact h1.snoc f, fun y hy => ?_, by rw [List.map_append, h3, List.take_add_one, ep]; rfl⟩
      rcases List.mem_append.mp hy with hy | hy
      · exact h2 y hy
      · rw [List.mem_singleton.mp hy]; exact tb.mono ge_le
    · intro D bcc h8 hD D5' hb S7
      clear S6
      walk_at "r"
      obtain ⟨⟨xs, tw, ka, ex⟩, -⟩ := S7.here
      have S8 := S7.freeze (Ψ := fun F' => (At F' D (oL bcc) ∧ Tw F' bcc (xs.map fun y => (.ref y.2.1, y.2.2)) ∧ KeysAt F' xs) ∧ Tps (ge h.objs.size F') acc (start sh.rows t) ∧ Le F F') fun F' o po l e f => ⟨⟨⟨o, e, po⟩, tw.mono l, ka.mono l⟩, f.2⟩
      clear S7
      have ex' : xs.map (·.1) = start sh.rows t := by rw [ex, ← sl, List.take_length]
      have sn : (start sh.rows t).Nodup := List.filter_sublist.nodup (hLn.nodup List.nodup_nil)
      have st0 : ∀ p ∈ start sh.rows t, there sh.rows p = true := fun p hp => (List.mem_filter.mp hp).2
      have xl : xs.length ≤ 60 := by
        have := congrArg List.length ex'
        have := found_len sn st0
        have := fit.rows
        simp only [List.length_map] at *
        exact om76 hrl ha sl this
      refine C_dictT S8 R'.hd (by exact om77 hu) (fun F' f => f.1) (by rw [ex']; exact sn) (by exact om74 xl) fun sA h9 ns s5 S9 => ?_
      clear S8
      have S10 := S9.imp (Ψ := wkΦ C F h.objs.size acc (start sh.rows t) xs) fun F' _ f => ⟨f.2.1, f.1.2.2, f.2.2⟩
      clear S9
      walk_at "s"
      intro h10 S11
      clear S10
      walk_at "r"
      rename_i t0
      walk_at "s"
      intro h11 S12
      clear S11
      have S13 := S12.lo (m' := wkM v fA sA (0 : Nat) t0 none) (by with_unfolding_all rfl)
      clear S12
      refine X_whileK (fun kk hh => ∃ i f, kk = 21 - i ∧ i ≤ f.length ∧ (∀ r, Wk sh.rows f i r → Wk sh.rows (start sh.rows t) 0 r) ∧ WJ C h L cv fA sA s v t sh.rows F i f hh) 21 ⟨0, _, rfl, Nat.zero_le _, fun r y => y, t0, none, acc, xs, ex', sn, st0, S13⟩ fun kk h12 hq3 => ?_
      obtain ⟨i, f, ek, hi, hw, ti, o, vs, xs, ex, fn, fth, S14⟩ := hq3
      clear S13
      have fl := found_len fn fth
      have frs := fit.rows
      have vl : vs.length = f.length := S14.now.1.length
      walk_at "r"
      refine O_len (At.list S14.at1) (by exact om78 fl frs vl) fun tn => ?_
      refine O_lt ?_
      walk_at "r"
      refine ⟨fun c Rr kr => ?_, fun c => ?_⟩
      · have hif : i < f.length := by simp at c; exact om64 vl c
        obtain ⟨p, ep⟩ : ∃ p, f[i]? = some p := ⟨f[i], List.getElem?_eq_getElem hif⟩
        have hp := fth p (List.mem_of_getElem? ep)
        obtain ⟨pv, ev, pa, rfl, p5, t1, t2, ap⟩ := S14.now.1.at ep
        have hps : (find sh.rows p.1).isSome = true := by rw [there_find hp]; rfl
        obtain ⟨ra, g, tg, w, tw', e1, e2, e3, e4, e5⟩ := x3.some (n := p.1) (by rw [x3.none]; exact hps)
        rw [there_find hp] at e2
        simp only [Option.some.injEq, Prod.mk.injEq] at e2
        have hsz : (treeAt sh.rows p).size ≤ 60 := fit.sz _ (find_mem (there_find hp))
        refine X_forI (h₀ := h) (M := []) (L := L) ?_
        walk_at "r"
        refine A_table S14.g (x1.mono S14.now.2.2) ?_
        walk_at "r"
        refine O_subL (At.list S14.at1) (by exact om79) (by exact om80 fl frs vl hif) (v := .ref pa) (by simpa using ev) ?_
        walk_at "r"
        refine O_subT (ap.mono ge_le) (by decide) (by decide) rfl ?_
        refine D_sub (knd := iK C) (k := p.1) (by simp [PySem.intKind, Value.isInt]) (x2.mono S14.now.2.2) e1 ?_
        walk_at "r"
        refine O_subT (e3.mono S14.now.2.2) (by decide) (by decide) rfl ?_
        walk_at "r"
        rw [← e2.2] at e5
        refine ⟨S14.g, (refs_ok S14.g R' (fz_le _ _) (e5.mono S14.here.2.2) hsz).mono fun lv h13 hq4 => ?_⟩
        obtain ⟨⟨_, _, rl2, rvs2, e, r52, erl2, tps2⟩, k13, z13⟩ := hq4
        subst e
        have S15 := S14.newx k13 (X := fun F' => At F' rl2 (oL rvs2) ∧ Tps F' rvs2 (kids sh.rows p)) (fun x l => ⟨x.1.mono l, x.2.mono l⟩) ⟨erl2, tps2⟩
        clear S14
        refine I_list S15 (S15.now.1.1.mono ge_le) fun I2 h14 nI2 ne2 S16 => ?_
        clear S15
        have kl := S16.now.1.2.length
        refine ⟨I2, rvs2.length, _, oLI rl2, _, FJ C h L cv fA sA s v sh.rows F i ti f (kids sh.rows p) I2 rl2 rvs2, rfl, Itr.list (vs := rvs2) ne2, R'.hd, ⟨f, o, vs, xs, rfl, ex, S16⟩, ?_, ?_⟩
        · rintro j hh hj ⟨f', o', vs', xs', ef', ex', S17⟩
          refine ⟨_, _, _, S17, S17.now.1.1.mono ge_le, fun Rr kr u h17 eu S18 => ?_⟩
          clear S17 S16
          walk_at "w"
          walk_at "s"
          intro h18 S19
          clear S18
          have S20 := S19.lo (m' := wkM v fA sA i ti (some u)) (by cases o' <;> with_unfolding_all rfl)
          clear S19
          obtain ⟨q, eq, tq⟩ := S20.here.1.2.get eu
          have tq := tq.mono ge_le
          obtain ⟨fn', fth'⟩ := adds_ok (rs := sh.rows) (ps := (kids sh.rows p).take j) fn fth
          rw [← ef'] at fn' fth'
          have fl' := found_len fn' fth'
          have vl' : vs'.length = f'.length := S20.now.2.1.length
          have next : ∀ {vs2 : List Value} {xs2 : List (Pr × Addr × Value)} {h2 : Heap}, xs2.map (·.1) = addT sh.rows f' q → St C h [] L (wkM v fA sA i ti (some u)) [(I2, oLI rl2 (j + 1)), (sA, oTD C xs2), (fA, oL vs2), (cv, oCell (some (.ref s)))] (fun F' => (At (ge h.objs.size F') rl2 (oL rvs2) ∧ Tps (ge h.objs.size F') rvs2 (kids sh.rows p)) ∧ wkΦ C F h.objs.size vs2 (addT sh.rows f' q) xs2 F') h2 →
              FJ C h L cv fA sA s v sh.rows F i ti f (kids sh.rows p) I2 rl2 rvs2 (j + 1) h2 := fun a b => ⟨addT sh.rows f' q, some u, _, _, by rw [List.take_add_one, eq]; show _ = adds _ _ (_ ++ [q]); rw [adds_snoc, ← ef'], a, b⟩
          obtain ⟨qa, rfl, q5, tq⟩ := tq
          walk_at "r"
          refine O_notin (TD_in (by exact om52 hu) (tq.mono (fz_le _ _)) S20.at1 S20.now.2.2.1 (by omega) ⟨_, rfl, ?_⟩)
          rw [seen_some, ex']
          walk_at "r"
          refine ⟨fun c => ?_, fun c => ?_⟩
          · have c : q ∉ f' := by simpa using c
            walk_at "r"
            refine ⟨S20.g, (there_ok S20.g R1 (fz_le _ _) (x.mono S20.here.2.2.2) ⟨qa, rfl, q5, tq⟩).mono fun u h21 hq5 => ?_⟩
            obtain ⟨e, k21, z21⟩ := hq5
            subst e
            have S21 := S20.keep k21
            clear S20
            walk_at "r"
            have hxl : xs'.length ≤ 60 := by
              have := congrArg List.length ex'
              simp only [List.length_map] at this
              exact om81 frs fl' vl' this
            refine ⟨fun d => ?_, fun d => ?_⟩
            · walk_at "r"
              refine ⟨fun _ => ?_, no_ff rfl⟩
              walk_at "r"
              have tq2 : Tp h21.get? qa q := let ⟨o, e, p⟩ := S21.now.1.2.get eu; by
                rw [eq] at e; cases e
                obtain ⟨a, e, _, t⟩ := p
                cases e
                exact t.mono ge_le
              refine TD_set (by exact om52 hu) tq2 S21.at1 S21.now.2.2.1 (by
                rw [← Option.isNone_iff_eq_none, ← Option.not_isSome, seen_some, ex']; simpa using c) (by exact om54 hxl) fun h22 k22 e22 => ?_
              have S22 := S21.put1 k22 e22
              clear S21
              walk_at "r"
              refine M_list S22.at2 PySem.F.slot_list_append (by kernel_rfl) ?_
              walk_at "r"
              refine O_append S22.at2 (by have : 1000 < sizeLine := by decide
                                          exact om82 frs fl' vl' this) fun h23 k23 e23 => ?_
              have S23 := S22.put2 k23 e23
              clear S22
              walk_at "r"
              have ea : addT sh.rows f' q = f' ++ [q] := by rw [addT, if_neg c, if_pos d]
              refine next (by rw [ea, List.map_append, ex']; rfl) (S23.imp fun F' _ y => ?_)
              obtain ⟨q', e', t'⟩ := y.1.2.get eu
              rw [eq] at e'; cases e'
              refine ⟨y.1, by rw [ea]; exact y.2.1.snoc t', fun z hz => ?_, y.2.2.2⟩
              rcases List.mem_append.mp hz with hz | hz
              · exact y.2.2.1 z hz
              · rw [List.mem_singleton.mp hz]
                obtain ⟨a, e, _, t⟩ := t'
                cases e
                exact t.mono ge_le
            · walk_at "r"
              refine ⟨no_tt rfl, fun _ => ?_⟩
              walk_at "r"
              have ea : addT sh.rows f' q = f' := by rw [addT, if_neg c, if_neg (by rw [d]; decide)]
              exact next (by rw [ea, ex']) (S21.imp fun F' _ y => ⟨y.1, by rw [ea]; exact y.2⟩)
          · have c : q ∈ f' := by simpa using c
            refine ⟨no_tt rfl, fun _ => ?_⟩
            walk_at "r"
            have ea : addT sh.rows f' q = f' := by rw [addT, if_pos c]
            exact next (by rw [ea, ex']) (S20.imp fun F' _ y => ⟨y.1, by rw [ea]; exact y.2⟩)
        · rintro hh ⟨f', o', vs', xs', ef', ex', S17⟩
          refine ⟨_, _, _, S17, S17.now.1.1.mono ge_le, fun h17 S18 => ?_⟩
          clear S17 S16
          rw [kl, List.take_length] at ef'
          subst ef'
          obtain ⟨fn', fth'⟩ := adds_ok (rs := sh.rows) (ps := kids sh.rows p) fn fth
          obtain ⟨gg, hgg⟩ := adds_pre (rs := sh.rows) (ps := kids sh.rows p) (f := f)
          walk_at "r"
          refine O_add fun ta => ?_
          walk_at "s"
          intro h18 S19
          clear S18
          walk_at "r"
          refine ⟨21 - (i + 1), by exact om83 ek fl frs vl hif, i + 1, _, rfl, by rw [hgg, List.length_append]; exact om84 vl hif, fun r y => hw r (.step ep y), ta, o', vs', xs', ex', fn', fth', (S19.imp fun F' _ y => y.2).lo (by cases o' <;> with_unfolding_all rfl)⟩
      · have hif : f.length ≤ i := by simp at c; exact om85 hi vl c
        walk_at "r"
        have S15 := (S14.drop).freeze (Ψ := fun F' => At F' fA (oL vs) ∧ Tps (ge h.objs.size F') vs f) fun F' o po l e f => ⟨⟨o, e, po⟩, f.1⟩
        obtain ⟨q, e, p⟩ := S15.now.1
        have hq := hw _ (.done hif)
        have hr := wkT_eq hq
        have hF' : WkF sh.rows t := ⟨hr ▸ hq, hr ▸ fn, hr ▸ fth, hLn⟩
        rw [hr]
        exact ⟨⟨hF', fA, vs, rfl, D5, ⟨q, ge_of nh e, p⟩, S15.now.2⟩, S15.kb, S15.size⟩
end
end
section
noncomputable abbrev vIs (ns : List Int) : Value → Fz → Prop := fun r F => ∃ l vs, r = .ref l ∧ 503 ≤ l ∧ At F l (oL vs) ∧ IntsAre vs ns
theorem ints_get : ∀ {vs : List Value} {ns : List Int} {i : Nat} {v : Value}, IntsAre vs ns → vs[i]? = some v → ∃ n t, ns[i]? = some n ∧ v = .int n t
  | _, _, 0, _, .cons n t _, e => by simp at e; subst e; exact ⟨n, t, rfl, rfl⟩
  | _, _, i + 1, _, .cons _ _ b, e => by simp at e; obtain ⟨n, t, h, r⟩ := ints_get b e; exact ⟨n, t, by simpa using h, r⟩
theorem dpost_rep {C : Cx} {F : Fz} {d : Addr} {kvs : List (Str × Value)} {ks : List Str} {xs : List T} (el : At F d (oD (sK C) kvs)) (ek : kvs.map (·.1) = ks) (rl : Reps C F (kvs.map (·.2)) xs) (d5 : 503 ≤ d) : Rep C F (.ref d) (.dict ks xs) := ek ▸ .dict el rl d5
theorem sizes_filter {f : Str × T → Bool} : ∀ {ks : List Str} {xs : List T}, sizes (((ks.zip xs).filter f).map (·.2)) ≤ sizes xs
  | [], xs => by simp [sizes]
  | _ :: _, [] => by simp [sizes]
  | k :: ks, x :: xs => by
    have ih := sizes_filter (f := f) (ks := ks) (xs := xs)
    rw [List.zip_cons_cons, List.filter_cons]
    split
    · simp only [List.map_cons, sizes]; exact om86 ih
    · simp only [sizes]; exact om24 ih
theorem plain_size (sh : Sh) : (plain sh).size ≤ (T.dict sh.ks sh.xs).size := by
  simp only [plain, T.size]
  have := sizes_filter (f := fun q => kept q.1) (ks := sh.ks) (xs := sh.xs)
  unfold plainL
  exact om87 this
section
variable {C : Cx} {A : Around} {h : Heap} {s : Addr} {F : Fz} {k : Nat} {sh : Sh}
theorem reached_ok {v : Value} {t : T} (G : GF C h) (R : Rm A (k + 6)) (hF : Le F h.get?) (x : RepSh C F s sh) (fit : Fit sh) (r : Rep C F v t) (hz : t.size ≤ 60) :
    W C A (call (.ref 400) [.ref s, v]) h (New h (fun u F' => WkF sh.rows t ∧ vIs (sortI ((wkT sh.rows t).map (·.1))) u F')) := by
  refine go (k := k + 5) (m := [(Str.ofString "value", v), (Str.ofString "shelf", .ref s)]) (In.nil (Φ := fun F' => Le F F') G fun F' l => hF.trans (by rw [fz_nil] at l; exact l)) R rfl rfl (by kernel_rfl) (fun s e => BindsTo.of_eq rfl) rfl (by kernel_rfl) (by kernel_rfl) rfl rfl rfl fun A' L h1 R' S => ?_
  refine bodyK rfl fun Rq kq => ?_
  walk_at "r"
  refine E_compP (h₀ := h) (M := []) (L := L) (cl := []) ?_ (by with_unfolding_all rfl) (by kernel_rfl) rfl (by kernel_rfl) (fun Cc => by kernel_rfl)
  walk_at "r"
  refine ⟨S.g, (walk_ok S.g R' (fz_le _ _) (x.mono S.here) fit (r.mono S.here) hz).mono fun lv h2 hq1 => ?_⟩
  obtain ⟨⟨hW, rl, rvs, e, r5, erl, tps⟩, k2, z2⟩ := hq1
  subst e
  have S2 := S.newx k2 (X := fun F' => At F' rl (oL rvs) ∧ Tps F' rvs (wkT sh.rows t)) (fun x l => ⟨x.1.mono l, x.2.mono l⟩) ⟨erl, tps⟩
  clear S
  refine I_list S2 (S2.now.1.1.mono ge_le) fun I h3 nI ne S3 => ?_
  clear S2
  have hwl : (wkT sh.rows t).length ≤ 60 := by have := hW.len; have := fit.rows; omega
  have hrl : rvs.length ≤ 60 := by have := tps.length; exact om88 hwl this
  refine ⟨I, _, _, oLI rl, _, _, _, _, fun i acc F' => IntsAre acc (((wkT sh.rows t).map (·.1)).take i), rfl, Itr.list (vs := rvs) ne, R'.hd, by exact om74 hrl, fun F' _ f => f.1.1.mono ge_le, fun F' _ => by simpa using IntsAre.nil, S3, ?_, ?_⟩
  · intro i acc pv D Cc h6 Kf Kt hi ev ha hD kf kt S4
    obtain ⟨p, ep, pa, rfl, p5, t1, t2, tp⟩ := S4.now.2.1.2.get ev
    refine ts_nil ⟨fun q => Bool.noConfusion q, fun _ => ?_⟩
    walk_at "r"
    refine O_subT (tp.mono ge_le) (by decide) (by decide) rfl ?_
    refine kt _ _ (S4.imp fun F' _ ⟨f, l⟩ => ⟨?_, l⟩)
    try dsimp only at f ⊢
    rw [List.take_add_one, List.getElem?_map, ep]
    exact f.append (.cons _ _ .nil)
  · intro D acc h4 hD D5 ha S4
    have hi := S4.now.1
    have z3 := S3.size
    clear S3
    rw [tps.length, ← List.length_map (f := (·.1)), List.take_length] at hi
    walk_at "r"
    refine sorted_listI S4.at0 hi (by exact om89 hrl ha) fun l' h5 vs' nl k5 e5 i5 => ?_
    have S5 := S4.keep k5
    obtain ⟨o, e, p⟩ := e5
    exact (kq.go ⟨⟨hW, l', vs', rfl, Nat.le_trans S4.h5 nl, ⟨o, ge_of (Nat.le_trans S4.size nl) e, p⟩, i5⟩, S5.kb, S5.size⟩)
theorem numbers_ok (G : GF C h) (R : Rm A (k + 1)) (hF : Le F h.get?) (x : RepSh C F s sh) (fit : sh.rows.length ≤ 20) : W C A (call (.ref 353) [.ref s]) h (New h (vIs (sortI (sh.rows.map (·.1))))) := by
  obtain ⟨td, rd, kvs, tvs, x1, x2, x3, x4, x5, x6⟩ := x.1
  refine go (m := [(Str.ofString "self", .ref s)]) (In.nil (Φ := fun F' => Le F F') G fun F' l => hF.trans (by rw [fz_nil] at l; exact l)) R rfl rfl (by kernel_rfl) (fun s e => BindsTo.of_eq rfl) rfl (by kernel_rfl) (by kernel_rfl) rfl rfl rfl fun A' L h1 R' S => ?_
  refine bodyK rfl fun Rq kq => ?_
  walk_at "r"
  refine A_table S.g (x1.mono S.now) ?_
  walk_at "r"
  have := x3.length
  refine sorted_dictI R'.hd (x2.mono S.now) x1.t5 (by exact om90 fit this) fun l' h5 vs' nl k5 e5 i5 => ?_
  have S5 := S.keep k5
  obtain ⟨o, e, p⟩ := e5
  rw [x3.keys] at i5
  exact (kq.go ⟨⟨l', vs', rfl, Nat.le_trans S.h5 nl, ⟨o, ge_of (Nat.le_trans S.size nl) e, p⟩, i5⟩, S5.kb, S5.size⟩)
end
end
section
section
variable {C : Cx} {A : Around} {h : Heap} {s td rd : Addr} {F : Fz} {k : Nat} {sh : Sh}
theorem M_numbers {pl : Sem Bool} {R : Value × List Value → Heap → Prop} (G : GF C h) (x : ShA C h.get? s td rd) (y : R (.ref 353, [.ref s]) h) : W C A (getMethod (.ref s) (Str.ofString "numbers") pl) h R := by
  obtain ⟨dx, t1, t2, hx, o, e, p⟩ := x.4
  exact M_inst G hx ⟨o, e, p⟩ (by kernel_rfl) (by kernel_rfl) (by kernel_rfl) (by kernel_rfl) y
theorem M_told {pl : Sem Bool} {R : Value × List Value → Heap → Prop} (G : GF C h) (x : ShA C h.get? s td rd) (y : R (.ref 365, [.ref s]) h) : W C A (getMethod (.ref s) (Str.ofString "told") pl) h R := by
  obtain ⟨dx, t1, t2, hx, o, e, p⟩ := x.4
  exact M_inst G hx ⟨o, e, p⟩ (by kernel_rfl) (by kernel_rfl) (by kernel_rfl) (by kernel_rfl) y
theorem M_put {pl : Sem Bool} {R : Value × List Value → Heap → Prop} (G : GF C h) (x : ShA C h.get? s td rd) (y : R (.ref 332, [.ref s]) h) : W C A (getMethod (.ref s) (Str.ofString "put") pl) h R := by
  obtain ⟨dx, t1, t2, hx, o, e, p⟩ := x.4
  exact M_inst G hx ⟨o, e, p⟩ (by kernel_rfl) (by kernel_rfl) (by kernel_rfl) (by kernel_rfl) y
theorem M_drop {pl : Sem Bool} {R : Value × List Value → Heap → Prop} (G : GF C h) (x : ShA C h.get? s td rd) (y : R (.ref 346, [.ref s]) h) : W C A (getMethod (.ref s) (Str.ofString "drop") pl) h R := by
  obtain ⟨dx, t1, t2, hx, o, e, p⟩ := x.4
  exact M_inst G hx ⟨o, e, p⟩ (by kernel_rfl) (by kernel_rfl) (by kernel_rfl) (by kernel_rfl) y
theorem valueAt_nums (v : Value) (n : Int) : ∀ l : List Int, (valueAt (l.map fun n => (n, v)) n).isSome = l.contains n
  | [] => rfl
  | m :: l => by
    have ih := valueAt_nums v n l
    rw [List.contains_cons, ← ih]
    by_cases e : m = n
    · simp [valueAt, e]
    · have e' : (n == m) = false := beq_eq_false_iff_ne.mpr fun q => e q.symm
      simp [valueAt, e, e']
theorem contains_perm {l l' : List Int} (p : l.Perm l') (n : Int) : l.contains n = l'.contains n := by
  rw [Bool.eq_iff_iff, List.contains_iff_mem, List.contains_iff_mem, p.mem_iff]
/-- the numbers that the trailer does not reach -/
noncomputable def unre (sh : Sh) : List Int := (sortI (sh.rows.map (·.1))).filter fun n => !((wkT sh.rows (plain sh)).map (·.1)).contains n
theorem unreached_ok (G : GF C h) (R : Rm A (k + 7)) (hF : Le F h.get?) (x : RepSh C F s sh) (fit : Fit sh) :
    W C A (call (.ref 405) [.ref s]) h (New h (fun u F' => WkF sh.rows (plain sh) ∧ vIs (unre sh) u F')) := by
  obtain ⟨td, rd, kvs, tvs, x1, x2, x3, x4, x5, x6⟩ := x.1
  have hps : (plain sh).size ≤ 60 := Nat.le_trans (plain_size sh) fit.tz
  refine go1 (k := k + 6) (m := [(Str.ofString "shelf", .ref s)]) (v1 := none) (x1 := Str.ofString "found") (In.nil (Φ := fun F' => Le F F') G fun F' l => hF.trans (by rw [fz_nil] at l; exact l)) R rfl rfl (by kernel_rfl) (fun s e => BindsTo.of_eq rfl) (by kernel_rfl) (fun n => rfl) (fun L => by with_unfolding_all exact look_upd [] (Str.ofString "shelf") (.ref s)) (fun L => rfl) rfl rfl rfl fun A' L h1 cv R' S => ?_
  have R1 : Rm A' (0 + 1) := R'.le (by exact om91)
  refine bodyK rfl fun Rq kq => ?_
  walk_at "r"
  refine E_compP (h₀ := h) (M := []) (L := L) (cl := []) ?_ (by with_unfolding_all rfl) (by kernel_rfl) rfl (by kernel_rfl) (fun Cc => by kernel_rfl)
  walk_at "r"
  refine ⟨S.g, (plain_ok S.g R1 (fz_le _ _) (x.mono S.here) (Nat.le_trans fit.ks (by decide))).mono fun lv h2 hq1 => ?_⟩
  obtain ⟨pd, pkv, e, d5, ed, ek, rs, k2, z2⟩ := hq1
  subst e
  have S2 := S.keepx (Ψ := fun F' => Rep C F' (.ref pd) (plain sh)) k2 fun F' l => dpost_rep (ed.mono (nw_ext.trans l)) ek (rs.mono ((fz_le _ _).ext.trans l)) d5
  clear S
  walk_at "r"
  refine ⟨S2.g, (reached_ok S2.g R' (fz_le _ _) (x.mono S2.here.2) fit S2.here.1 hps).mono fun lv h3 hq2 => ?_⟩
  obtain ⟨⟨hW, rl, rvs, e, r5, erl, irs⟩, k3, z3⟩ := hq2
  subst e
  have S3 := S2.newx k3 (X := fun F' => At F' rl (oL rvs)) (fun x l => x.mono l) erl
  clear S2
  refine I_list S3 (S3.now.1.mono ge_le) fun I h4 nI ne S4 => ?_
  clear S3
  have hwl : (wkT sh.rows (plain sh)).length ≤ 60 := by have := hW.len; have := fit.rows; omega
  have hil : rvs.length = (wkT sh.rows (plain sh)).length := by rw [irs.length, (sortI_perm _).length_eq, List.length_map]
  refine ⟨I, _, _, oLI rl, _, _, _, _, fun i acc F' => ∃ xs, Tw F' acc xs ∧ KVs (iK C) xs (((sortI ((wkT sh.rows (plain sh)).map (·.1))).take i).map fun n => (n, .bool true)), rfl, Itr.list (vs := rvs) ne, R'.hd, by exact om92 hwl hil, fun F' _ f => f.1.mono ge_le, fun F' _ => ⟨[], .nil, by simpa using KVs.nil⟩, S4, ?_, ?_⟩
  · intro i acc pv D Cc h6 Kf Kt hi ev ha hD kf kt S5
    obtain ⟨n, tn, en, rfl⟩ := ints_get irs ev
    refine ts_nil ⟨fun q => Bool.noConfusion q, fun _ => ?_⟩
    walk_at "r"
    refine S_tuple S5 fun a h7 na a5 S6 => kt _ _ (S6.imp fun F' _ ⟨f, ⟨xs, h1, h2⟩, l⟩ => ⟨⟨xs ++ [(.int n tn, .bool true)], h1.snoc f, ?_⟩, l⟩)
    rw [List.take_add_one, en, List.map_append]
    exact h2.snoc (by simp [PySem.intKind, Value.isInt])
  · intro D acc h6 hD D5 ha S5
    clear S4
    obtain ⟨⟨xs, tw, kx⟩, -⟩ := S5.here
    rw [irs.length, List.take_length] at kx
    have S6 := S5.freeze (Ψ := fun F' => (At F' D (oL acc) ∧ Tw F' acc xs) ∧ Le F F') fun F' o po l e f => ⟨⟨⟨o, e, po⟩, tw.mono l⟩, f.2.2.2⟩
    clear S5
    walk_at "r"
    refine C_dictK (iK C) (xs := xs) S6 R'.hd (fun F' f => f.1) kx ?_ ?_ fun d h7 nd d5 S7 => ?_
    · rw [List.map_map, show ((fun x : Int × Value => x.1) ∘ fun n : Int => (n, Value.bool true)) = id from rfl, List.map_id]
      exact (sortI_perm _).nodup_iff.mpr (firsts_nodup hW.nd hW.th)
    · rw [List.length_map, (sortI_perm _).length_eq, List.length_map]; exact om93 hwl hil
    clear S6
    have S8 := S7.freeze (Ψ := fun F' => At F' d (oD (iK C) ((sortI ((wkT sh.rows (plain sh)).map (·.1))).map fun n => (n, Value.bool true))) ∧ Le F F') fun F' o po l e f => ⟨⟨o, e, po⟩, f.2⟩
    clear S7
    refine N_storeCell (pre := []) (post := []) S8 rfl (by kernel_rfl) (by with_unfolding_all rfl) fun h8 S9 => ?_
    clear S8
    have S9 : St C h [] L [(Str.ofString "shelf", .ref s)] [(cv, oCell (some (.ref d)))] _ h8 := S9
    walk_at "r"
    refine E_compP (h₀ := h) (M := []) (L := L) (cl := [(Str.ofString "found", cv)]) ?_ (by with_unfolding_all rfl) (by kernel_rfl) rfl (by kernel_rfl) (fun Cc => by kernel_rfl)
    walk_at "r"
    refine M_numbers S9.g (x1.mono S9.now.2) ?_
    walk_at "r"
    refine (numbers_ok S9.g R1 (fz_le _ _) (x.mono S9.here.2) fit.rows).mono fun lv h9 hq3 => ?_
    obtain ⟨⟨nl, nvs, e, n5, enl, ins⟩, k9, z9⟩ := hq3
    subst e
    have S10 := S9.newx k9 (X := fun F' => At F' nl (oL nvs)) (fun x l => x.mono l) enl
    clear S9
    refine I_list S10 (S10.now.1.mono ge_le) fun I2 h10 nI2 ne2 S11 => ?_
    clear S10
    have hnl : nvs.length = sh.rows.length := by rw [ins.length, (sortI_perm _).length_eq, List.length_map]
    have frs := fit.rows
    refine ⟨I2, _, _, oLI nl, _, _, _, _, fun i acc F' => IntsAre acc (((sortI (sh.rows.map (·.1))).take i).filter fun n => !((wkT sh.rows (plain sh)).map (·.1)).contains n), rfl, Itr.list (vs := nvs) ne2, R'.hd, by exact om94 hnl frs, fun F' _ f => f.1.mono ge_le, fun F' _ => by simpa using IntsAre.nil, S11, ?_, ?_⟩
    · intro i acc pv D Cc h12 Kf Kt hi ev ha hD kf kt S12
      obtain ⟨n, tn, en, rfl⟩ := ints_get ins ev
      refine ts_one ?_
      walk_at "r"
      refine O_notin (D_in (knd := iK C) (k := n) (by simp [PySem.intKind, Value.isInt]) (S12.now.2.2.1) d5 ⟨_, rfl, ?_⟩)
      rw [valueAt_nums, contains_perm (sortI_perm _)]
      walk_at "r"
      refine ⟨fun e => kf _ (S12.imp fun F' _ ⟨f, l⟩ => ⟨?_, l⟩), fun e => ?_⟩
      · try dsimp only at f ⊢
        rw [filter_take _ en, e]
        simpa using f
      · walk_at "r"
        refine kt _ _ (S12.imp fun F' _ ⟨f, l⟩ => ⟨?_, l⟩)
        try dsimp only at f ⊢
        rw [filter_take _ en, e]
        exact f.append (.cons _ _ .nil)
    · intro D acc h12 hD D5 ha S12
      have S13 := S12.freeze (Ψ := fun F' => At F' D (oL acc) ∧ IntsAre acc (unre sh)) fun F' o po l e f => ⟨⟨o, e, po⟩, by have := f.1; rwa [ins.length, List.take_length] at this⟩
      obtain ⟨o, e, p⟩ := S13.now.1
      exact (kq.go ⟨⟨hW, D, acc, rfl, D5, ⟨o, ge_of (Nat.le_trans S11.size hD) e, p⟩, S13.now.2⟩, S13.kb, S13.size⟩)
end
end
section
theorem bb_lookup : typeLookup (.type "bytes") "__bytes__" = pure (some (.builtin "bytes.__bytes__")) := by rw [typeLookup_type, builtinLookup_eq_fast]; kernel_rfl
theorem bb_typeCall (a : Value) : checkTypeCall "bytes" ⟨[a], []⟩ = pure () := by kernel_rfl
theorem bb_newCall (b : Array UInt8) (t : Tok) : checkBuiltinCall "bytes.__new__" ⟨[.type "bytes", .bytes b t], []⟩ = pure () := by kernel_rfl
theorem bb_bind (b : Array UInt8) (t : Tok) : Builtin.Bytes.bindOptional "bytes.__new__" "bytes" ["source", "encoding", "errors"] [.bytes b t] [] = pure [some (.bytes b t), none, none] := by kernel_rfl
theorem C_bytesB {C : Cx} {A : Around} {h : Heap} {b : Array UInt8} {t : Tok} {P : Value → Heap → Prop} (q : P (.bytes b t) h) : W C A (call (.type "bytes") [.bytes b t]) h P := W.mk fun s tk => by
  refine callType_codes (Q₁ := fun obj s₁ => obj = .bytes b t ∧ s₁ = st s h tk) F.bm_called (bb_typeCall _) F.entry_object_init ?_ fun obj s₁ h₁ => ?_
  · refine codeAny_of_tree ?_
    show wpAny _ A.in1.in1 (do checkBuiltinCall "bytes.__new__" ⟨[.type "bytes", .bytes b t], []⟩; again (.builtin "bytes.__new__" ⟨[.type "bytes", .bytes b t], []⟩)) _ _ _
    refine wpAny_bind (wpAny_of_eq (bb_newCall _ _) (wpAny_pure ⟨plainId_quiet F.bm_plain _, codeAny_builtin F.bm_entry ?_⟩))
    rw [Around.under_plainId F.bm_plain _]
    have hT : (st s h tk).TypeIs (.bytes b t) "bytes" := PySem.W.typeIs_bytes _ _ _
    unfold Builtin.«bytes.__new__»
    refine wpAny_bind (wpAny_of_eq (a := true) rfl ?_)
    refine bm_if_false rfl ?_
    refine wpAny_bind (wpAny_of_eq F.bm_sub ?_)
    refine bm_if_false rfl ?_
    refine wpAny_bind (wpAny_of_eq (bb_bind _ _) ?_)
    refine wpAny_bind (wpAny_of_eq (a := ()) rfl ?_)
    refine wpAny_bind (wpAny_of_eq (a := ()) rfl ?_)
    refine bm_if_false rfl ?_
    refine wpAny_bind (wpAny_specialOf hT bb_lookup ?_)
    repeat (any_goals (first | assumption | wp_step))
    exact ⟨rfl, rfl⟩
  · obtain ⟨rfl, rfl⟩ := h₁
    exact ⟨PySem.W.typeIs_bytes _ _ _, F.args_object_init_2 _ _, object_init_meets F.bm_called.init.lookup F.bm_called.made (by decide) PR C.w A.in1 _ _ ⟨PySem.W.typeIs_bytes _ _ _, rfl, h, tk, rfl, q⟩⟩
end
section
/-- what told_objects tells of a tree -/
noncomputable def toldN : Nat → T → Dv
  | _, .ref p => .tup [.str (Str.ofString "ref"), .int p.1, .int p.2]
  | _, .int k => .tup [.str (Str.ofString "int"), .int k]
  | _, .name s => .tup [.str (Str.ofString "name"), .str s]
  | 0, _ => .tup []
  | n + 1, .array xs => .tup (.str (Str.ofString "array") :: xs.map (toldN n))
  | n + 1, .dict ks xs => .tup (.str (Str.ofString "dict") :: (sortS ks).filterMap fun k => (getT ks xs k).map fun x => .tup [.str k, toldN n x])
  | n + 1, .stream ks xs b => .tup [.str (Str.ofString "stream"), toldN n (.dict ks xs), .byt b.toList]
noncomputable def toldW : T → Nat
  | .ref _ => 0
  | .int _ => 0
  | .name _ => 0
  | .stream ks xs b => 2 * (T.stream ks xs b).size
  | t => 2 * t.size - 1
noncomputable abbrev vD (d : Dv) : Value → Fz → Prop := fun v F => RD F v d
section
variable {C : Cx} {A : Around} {h h₀ : Heap} {F : Fz} {k : Nat} {M : List Addr} {L : Addr} {m : Loc} {σ : Led} {Φ : Fz → Prop} {P : Value → Heap → Prop}
theorem O_addT {t b : Addr} {vs ws : List Value} (S : St C h₀ M L m σ Φ h) (hF : ∀ F, Φ F → At F t (oT vs) ∧ At F b (oT ws)) (hv : vs ≠ []) (t5 : 503 ≤ t) (ht : h₀.objs.size ≤ t) (hz : vs.length + ws.length ≤ 1000)
    (y : ∀ a h', h₀.objs.size ≤ a → 503 ≤ a → St C h₀ M L m σ (fun F => At F a (oT (vs ++ ws)) ∧ Φ F) h' → P (.ref a) h') : W C A (binaryOp .Add (.ref t) (.ref b)) h P := W.mk fun s tk => by
  obtain ⟨⟨o, ho, eo⟩, ⟨o2, ho2, eo2⟩⟩ := hF _ S.now
  have eo : o = tupOf vs := eo
  have eo2 : o2 = tupOf ws := eo2
  subst eo eo2
  have e : vs.toArray ++ ws.toArray = (vs ++ ws).toArray := by simp
  have hsz : 1000 < sizeLine := by decide
  by_cases hw : ws = []
  · refine concat_meets (s := st s h tk) ⟨_, ho, rfl⟩ ⟨_, ho2, rfl⟩ noFill_tuple_add seq_tuple_add PySem.F.slot_tuple_add PySem.F.entry_tuple_add (PySem.F.args_tuple_add_2 _ _)
      (tuple_addW1 t b vs.toArray ws.toArray 0 0 none none #[] #[] (by simpa using hv) (by simp [hw])) ⟨ho, ho2, h, tk, rfl, y t h ht t5 (S.imp fun F _ f => ⟨by rw [hw, List.append_nil]; exact (hF F f).1, f⟩)⟩
  · refine concat_meets (s := st s h tk) ⟨_, ho, rfl⟩ ⟨_, ho2, rfl⟩ noFill_tuple_add seq_tuple_add PySem.F.slot_tuple_add PySem.F.entry_tuple_add (PySem.F.args_tuple_add_2 _ _)
      (tuple_addW2 t b vs.toArray ws.toArray 0 0 none none #[] #[] (by simpa using hv) (by simpa using hw) (by rw [List.size_toArray, List.size_toArray]; exact om95 hz hsz)) ⟨ho, ho2, ?_⟩
    rw [e]
    exact ⟨_, tk, rfl, y _ _ S.size S.h5 (S.pushF _ fun F e => ⟨_, e, rfl⟩)⟩
theorem toldW_le (t : T) : toldW t ≤ 2 * t.size := by cases t <;> simp [toldW]
theorem plain_null (G : GF C h) (R : Rm A (k + 1)) {tk : Tok} : W C A (call (.ref 260) [.str (Str.ofString "null") tk, .none]) h (New h (vD (.tup [.str (Str.ofString "null")]))) := by
  refine go (m := [(Str.ofString "value", .none), (Str.ofString "kind", .str (Str.ofString "null") tk)]) (In.nil (Φ := fun F' => True) G fun F' l => trivial) R rfl rfl (by kernel_rfl) (fun s e => BindsTo.of_eq rfl) rfl (by kernel_rfl) (by kernel_rfl) rfl rfl rfl fun A' L h1 R' S => ?_
  refine bodyK rfl fun Rq kq => ?_
  walk_at "r"
  refine O_eqs ?_
  walk_at "r"
  refine ⟨fun _ => ?_, no_ff (by kernel_rfl)⟩
  walk_at "r"
  refine S_tuple S fun a h2 na a5 S2 => ?_
  obtain ⟨o, e, p⟩ := S2.now.1
  exact (kq.go ⟨.tup ⟨o, ge_of (Nat.le_trans S.size na) e, p⟩ (.cons (.str _ _) .nil), S2.kb, S2.size⟩)
theorem plain_int (G : GF C h) (R : Rm A (k + 1)) {tk u : Tok} {z : Int} : W C A (call (.ref 260) [.str (Str.ofString "int") tk, .int z u]) h (New h (vD (.tup [.str (Str.ofString "int"), .int z]))) := by
  refine go (m := [(Str.ofString "value", .int z u), (Str.ofString "kind", .str (Str.ofString "int") tk)]) (In.nil (Φ := fun F' => True) G fun F' l => trivial) R rfl rfl (by kernel_rfl) (fun s e => BindsTo.of_eq rfl) rfl (by kernel_rfl) (by kernel_rfl) rfl rfl rfl fun A' L h1 R' S => ?_
  refine bodyK rfl fun Rq kq => ?_
  walk_at "r"
  refine O_eqs ?_
  walk_at "r"
  refine ⟨no_tt (by kernel_rfl), fun _ => ?_⟩
  walk_at "r"
  refine O_eqs ?_
  walk_at "r"
  refine ⟨no_tt (by kernel_rfl), fun _ => ?_⟩
  walk_at "r"
  refine O_eqs ?_
  walk_at "r"
  refine ⟨fun _ => ?_, no_ff (by kernel_rfl)⟩
  walk_at "r"
  refine S_tuple S fun a h2 na a5 S2 => ?_
  obtain ⟨o, e, p⟩ := S2.now.1
  exact (kq.go ⟨.tup ⟨o, ge_of (Nat.le_trans S.size na) e, p⟩ (.cons (.str _ _) (.cons (.int _ _) .nil)), S2.kb, S2.size⟩)
theorem plain_name (G : GF C h) (R : Rm A (k + 1)) {tk : Tok} {x dx : Addr} {u : Str} (hF : Le F h.get?) (ex : F x = some (instObj 171 dx)) (ed : At F dx (oName C u)) : W C A (call (.ref 260) [.str (Str.ofString "name") tk, .ref x]) h (New h (vD (.tup [.str (Str.ofString "name"), .str u]))) := by
  refine go (m := [(Str.ofString "value", .ref x), (Str.ofString "kind", .str (Str.ofString "name") tk)]) (In.nil (Φ := fun F' => Le F F') G fun F' l => hF.trans (by rw [fz_nil] at l; exact l)) R rfl rfl (by kernel_rfl) (fun s e => BindsTo.of_eq rfl) rfl (by kernel_rfl) (by kernel_rfl) rfl rfl rfl fun A' L h1 R' S => ?_
  refine bodyK rfl fun Rq kq => ?_
  iterate 4
    walk_at "r"
    refine O_eqs ?_
    walk_at "r"
    refine ⟨no_tt (by kernel_rfl), fun _ => ?_⟩
  walk_at "r"
  refine O_eqs ?_
  walk_at "r"
  refine ⟨fun _ => ?_, no_ff (by kernel_rfl)⟩
  walk_at "r"
  refine A_text S.g (S.now _ _ ex) (ed.mono S.now) fun tu => ?_
  walk_at "r"
  refine S_tuple S fun a h2 na a5 S2 => ?_
  obtain ⟨o, e, p⟩ := S2.now.1
  exact (kq.go ⟨.tup ⟨o, ge_of (Nat.le_trans S.size na) e, p⟩ (.cons (.str _ _) (.cons (.str _ _) .nil)), S2.kb, S2.size⟩)
theorem plain_ref (G : GF C h) (R : Rm A (k + 1)) {tk : Tok} {x dx : Addr} {p : Pr} (hF : Le F h.get?) (ex : F x = some (instObj 242 dx)) (ed : At F dx (oRef C p)) : W C A (call (.ref 260) [.str (Str.ofString "ref") tk, .ref x]) h (New h (vD (.tup [.str (Str.ofString "ref"), .int p.1, .int p.2]))) := by
  refine go (m := [(Str.ofString "value", .ref x), (Str.ofString "kind", .str (Str.ofString "ref") tk)]) (In.nil (Φ := fun F' => Le F F') G fun F' l => hF.trans (by rw [fz_nil] at l; exact l)) R rfl rfl (by kernel_rfl) (fun s e => BindsTo.of_eq rfl) rfl (by kernel_rfl) (by kernel_rfl) rfl rfl rfl fun A' L h1 R' S => ?_
  refine bodyK rfl fun Rq kq => ?_
  iterate 6
    walk_at "r"
    refine O_eqs ?_
    walk_at "r"
    refine ⟨no_tt (by kernel_rfl), fun _ => ?_⟩
  walk_at "r"
  refine A_number S.g (S.now _ _ ex) (ed.mono S.now) fun tu => ?_
  walk_at "r"
  refine A_generation S.g (S.now _ _ ex) (ed.mono S.now) fun tv => ?_
  walk_at "r"
  refine S_tuple S fun a h2 na a5 S2 => ?_
  obtain ⟨o, e, p⟩ := S2.now.1
  exact (kq.go ⟨.tup ⟨o, ge_of (Nat.le_trans S.size na) e, p⟩ (.cons (.str _ _) (.cons (.int _ _) (.cons (.int _ _) .nil))), S2.kb, S2.size⟩)
theorem told_none (G : GF C h) (R : Rm A (k + 2)) : W C A (call (.ref 265) [.none]) h (New h (vD (.tup [.str (Str.ofString "null")]))) := by
  refine go1 (k := k + 1) (m := []) (v1 := some .none) (x1 := Str.ofString "value") (In.nil (Φ := fun F' => True) G fun F' l => trivial) R rfl rfl (by kernel_rfl) (fun s e => BindsTo.of_eq rfl) (by kernel_rfl) (fun n => rfl) (fun L => rfl) (fun L => rfl) rfl rfl rfl fun A' L h1 cv R' S => ?_
  refine bodyK rfl fun Rq kq => ?_
  walk_at "r"
  refine ⟨S.g, (kind_none S.g R').mono fun u h2' hq1 => ?_⟩
  obtain ⟨tk, e, k2, z2⟩ := hq1
  subst e
  have S2 := S.keep k2
  clear S
  walk_at "s"
  intro h3' S3
  clear S2
  iterate 3
    walk_at "r"
    refine O_eqs ?_
    walk_at "r"
    refine ⟨no_tt (by kernel_rfl), fun _ => ?_⟩
  walk_at "r"
  refine ⟨S3.g, (plain_null S3.g R').mono fun u h4 hq2 => ?_⟩
  obtain ⟨x, k4, z4⟩ := hq2
  have S4 := S3.keep k4
  exact (kq.go ⟨x.mono (ge_mono Le.refl S3.size), S4.kb, S4.size⟩)
theorem told_flat {v : Value} {t : T} {n : Nat} (G : GF C h) (R : Rm A (k + 2)) (hF : Le F h.get?) (r : Rep C F v t) (hf : toldW t = 0) : W C A (call (.ref 265) [v]) h (New h (vD (toldN n t))) := by
  refine go1 (k := k + 1) (m := []) (v1 := some v) (x1 := Str.ofString "value") (In.nil (Φ := fun F' => Le F F') G fun F' l => hF.trans (by rw [fz_nil] at l; exact l)) R rfl rfl (by kernel_rfl) (fun s e => BindsTo.of_eq rfl) (by kernel_rfl) (fun n => rfl) (fun L => rfl) (fun L => rfl) rfl rfl rfl fun A' L h1 cv R' S => ?_
  refine bodyK rfl fun Rq kq => ?_
  walk_at "r"
  refine ⟨S.g, (kind_ok S.g R' (r.mono S.now)).mono fun u h2' hq3 => ?_⟩
  obtain ⟨tk, e, k2, z2⟩ := hq3
  subst e
  have S2 := S.keep k2
  clear S
  walk_at "s"
  intro h3' S3
  clear S2
  have hk : (kindS t == Str.ofString "array") = false ∧ (kindS t == Str.ofString "dict") = false ∧ (kindS t == Str.ofString "stream") = false := by
    cases t with
    | ref _ => exact ⟨by kernel_rfl, by kernel_rfl, by kernel_rfl⟩
    | int _ => exact ⟨by kernel_rfl, by kernel_rfl, by kernel_rfl⟩
    | name _ => exact ⟨by kernel_rfl, by kernel_rfl, by kernel_rfl⟩
    | array xs => simp only [toldW, T.size] at hf; omega
    | dict ks xs => simp only [toldW, T.size] at hf; omega
    | stream ks xs b => simp only [toldW, T.size] at hf; omega
  walk_at "r"
  refine O_eqs ?_
  walk_at "r"
  refine ⟨no_tt hk.1, fun _ => ?_⟩
  walk_at "r"
  refine O_eqs ?_
  walk_at "r"
  refine ⟨no_tt hk.2.1, fun _ => ?_⟩
  walk_at "r"
  refine O_eqs ?_
  walk_at "r"
  refine ⟨no_tt hk.2.2, fun _ => ?_⟩
  walk_at "r"
  have fin : W C A' (call (.ref 260) [.str (kindS t) tk, v]) h3' (New h3' (vD (toldN n t))) := by
    cases r with
    | ref a b c => unfold toldN; exact plain_ref S3.g R' S3.now a b
    | int k t => unfold toldN; exact plain_int S3.g R'
    | name a b c => unfold toldN; exact plain_name S3.g R' S3.now a b
    | array _ _ _ => simp only [toldW, T.size] at hf; omega
    | dict _ _ _ => simp only [toldW, T.size] at hf; omega
    | stream _ _ _ _ _ _ => simp only [toldW, T.size] at hf; omega
  refine ⟨S3.g, fin.mono fun u h4 hq4 => ?_⟩
  obtain ⟨x, k4, z4⟩ := hq4
  have S4 := S3.keep k4
  exact (kq.go ⟨x.mono (ge_mono Le.refl S3.size), S4.kb, S4.size⟩)
end
end
section
section
variable {C : Cx} {A : Around} {h : Heap} {F : Fz} {k : Nat}
noncomputable abbrev ToldIh (C : Cx) (n : Nat) : Prop := ∀ {A : Around} {h : Heap} {F : Fz} {v : Value} {t : T}, GF C h → Rm A (n + 2) → Le F h.get? → Rep C F v t → t.size ≤ 60 → toldW t ≤ n → W C A (call (.ref 265) [v]) h (New h (vD (toldN n t)))
theorem told_array {n : Nat} (ih : ToldIh C n) {l : Addr} {vs : List Value} {xs : List T} (G : GF C h) (R : Rm A (n + 3)) (hF : Le F h.get?) (e0 : At F l (oL vs)) (r0 : Reps C F vs xs) (l5 : 503 ≤ l) (hz : (T.array xs).size ≤ 60) (hn : toldW (.array xs) ≤ n + 1) :
    W C A (call (.ref 265) [.ref l]) h (New h (vD (toldN (n + 1) (.array xs)))) := by
  refine go1 (k := n + 2) (m := []) (v1 := some (.ref l)) (x1 := Str.ofString "value") (In.nil (Φ := fun F' => Le F F') G fun F' l => hF.trans (by rw [fz_nil] at l; exact l)) R rfl rfl (by kernel_rfl) (fun s e => BindsTo.of_eq rfl) (by kernel_rfl) (fun n => rfl) (fun L => rfl) (fun L => rfl) rfl rfl rfl fun A' L h1' cv R' S => ?_
  have R1 : Rm A' (0 + 1) := R'.le (by exact om96)
  refine bodyK rfl fun Rq kq => ?_
  walk_at "r"
  refine ⟨S.g, (kind_ok S.g R1 (.array (e0.mono S.now) (r0.mono S.now) l5)).mono fun u h2' hq1 => ?_⟩
  obtain ⟨tk, e, k2, z2⟩ := hq1
  subst e
  have S2 := S.keep k2
  clear S
  walk_at "s"
  intro h3' S3
  clear S2
  walk_at "r"
  refine O_eqs ?_
  walk_at "r"
  refine ⟨fun _ => ?_, no_ff (by kernel_rfl)⟩
  walk_at "r"
  refine S_tuple S3 fun ta h4 na ta5 S4 => ?_
  have nah := Nat.le_trans S3.size na
  clear S3
  walk_at "r"
  refine E_compP (h₀ := h) (M := []) (L := L) (cl := []) ?_ (by with_unfolding_all rfl) (by kernel_rfl) rfl (by kernel_rfl) (fun Cc => by kernel_rfl)
  walk_at "r"
  refine I_list S4 (e0.mono S4.now.2) fun I h5 nI ne S5 => ?_
  clear S4
  have hl := r0.length
  have hl2 := length_le_sizes xs
  have hsz : 1 + sizes xs ≤ 60 := hz
  refine ⟨I, _, _, oLI l, _, _, _, _, fun i acc F' => RDs (ge h.objs.size F') acc ((xs.take i).map (toldN n)), rfl, Itr.list (vs := vs) ne, R'.hd, by exact om97 hl hl2 hsz, fun h' q f => e0.mono f.2, fun F' _ => by simpa using RDs.nil, S5, ?_, ?_⟩
  · intro i acc pv D Cc h6 Kf Kt hi ev ha hD kf kt S6
    obtain ⟨t, et, rt⟩ := r0.get ev
    have ht : t.size ≤ sizes xs := size_le_sizes (List.mem_of_getElem? et)
    refine ts_nil ⟨fun q => Bool.noConfusion q, fun _ => ?_⟩
    walk_at "r"
    refine ⟨S6.g, (ih S6.g R' (fz_le _ _) (rt.mono S6.here.2.2) (by exact om98 hsz ht) (by have := toldW_le t; simp only [toldW, T.size] at hn; exact om99 hn hsz ht this)).mono fun u h7 hq2 => ?_⟩
    obtain ⟨x, k7, z7⟩ := hq2
    refine kt _ _ ((S6.newx k7 (X := fun F' => RD F' u (toldN n t)) (fun x l => x.mono l) x).imp fun F' _ ⟨x, f, l⟩ => ⟨?_, l⟩)
    try dsimp only at f ⊢
    rw [List.take_add_one, et, List.map_append]
    have hsz := S5.size
    exact f.snoc (x.mono (ge_mono Le.refl hsz))
  · intro D acc h6 hD D5 ha S6
    have S7 := S6.freeze (Ψ := fun F' => At F' D (oL acc) ∧ RDs (ge h.objs.size F') acc (xs.map (toldN n)) ∧ At F' ta (oT [.str (Str.ofString "array") _])) fun F' o po _ e f => ⟨⟨o, e, po⟩, by have := f.1; rwa [hl, List.take_length] at this, f.2.1⟩
    clear S6 S5
    walk_at "r"
    refine C_tupleL S7 S7.now.1 (by exact om100 hl hl2 hsz ha) fun tb h8 nb tb5 S8 => ?_
    clear S7
    refine O_addT S8 (fun F' f => ⟨f.2.2.2, f.1⟩) (by simp) ta5 nah (by simp; exact om101 hl hl2 hsz ha) fun tc h9 nc tc5 S9 => ?_
    obtain ⟨o, e, p⟩ := S9.now.1
    refine (kq.go ⟨?_, S9.kb, S9.size⟩)
    unfold toldN
    exact .tup ⟨o, ge_of nc e, p⟩ (.cons (.str _ _) S9.now.2.2.2.1)
theorem rep_notnone {v : Value} {t : T} (r : Rep C F v t) : (v == Value.none) = false := by cases r <;> rfl
theorem told_dict {n : Nat} (ih : ToldIh C n) {d : Addr} {kvs : List (Str × Value)} {xs : List T} (G : GF C h) (R : Rm A (n + 3)) (hF : Le F h.get?) (e0 : At F d (oD (sK C) kvs)) (r0 : Reps C F (kvs.map (·.2)) xs) (d5 : 503 ≤ d) (hz : (T.dict (kvs.map (·.1)) xs).size ≤ 60) (hn : toldW (.dict (kvs.map (·.1)) xs) ≤ n + 1) :
    W C A (call (.ref 265) [.ref d]) h (New h (vD (toldN (n + 1) (.dict (kvs.map (·.1)) xs)))) := by
  refine go1 (k := n + 2) (m := []) (v1 := some (.ref d)) (x1 := Str.ofString "value") (In.nil (Φ := fun F' => Le F F') G fun F' l => hF.trans (by rw [fz_nil] at l; exact l)) R rfl rfl (by kernel_rfl) (fun s e => BindsTo.of_eq rfl) (by kernel_rfl) (fun n => rfl) (fun L => rfl) (fun L => rfl) rfl rfl rfl fun A' L h1' cv R' S => ?_
  have R1 : Rm A' (0 + 1) := R'.le (by exact om96)
  refine bodyK rfl fun Rq kq => ?_
  walk_at "r"
  refine ⟨S.g, (kind_ok S.g R1 (.dict (e0.mono S.now) (r0.mono S.now) d5)).mono fun u h2' hq3 => ?_⟩
  obtain ⟨tk, e, k2, z2⟩ := hq3
  subst e
  have S2 := S.keep k2
  clear S
  walk_at "s"
  intro h3' S3
  clear S2
  walk_at "r"
  refine O_eqs ?_
  walk_at "r"
  refine ⟨no_tt (by kernel_rfl), fun _ => ?_⟩
  walk_at "r"
  refine O_eqs ?_
  walk_at "r"
  refine ⟨fun _ => ?_, no_ff (by kernel_rfl)⟩
  walk_at "r"
  refine S_tuple S3 fun ta h4 na ta5 S4 => ?_
  have nah := Nat.le_trans S3.size na
  clear S3
  have hl := r0.length
  rw [List.length_map] at hl
  have hl2 := length_le_sizes xs
  have hsz : 1 + sizes xs ≤ 60 := hz
  walk_at "r"
  refine E_compP (h₀ := h) (M := []) (L := L) (cl := [(Str.ofString "value", cv)]) ?_ (by with_unfolding_all rfl) (by kernel_rfl) rfl (by kernel_rfl) (fun Cc => by kernel_rfl)
  walk_at "r"
  refine sorted_dictS R'.hd (e0.mono S4.now.2) d5 (by exact om102 hl hl2 hsz) fun sl h5 vs n5 k5 e5 st5 => ?_
  have S5 := S4.keepAt k5 n5 e5
  clear S4
  refine I_list S5 S5.now.1 fun I h6 nI ne S6 => ?_
  clear S5
  have vl := strs_len st5
  have vl2 := (sortS_perm (kvs.map (·.1))).length_eq
  rw [List.length_map] at vl2
  refine ⟨I, _, _, oLI sl, _, _, _, _, fun i acc F' => RDs (ge h.objs.size F') acc (((sortS (kvs.map (·.1))).take i).filterMap fun k => (getT (kvs.map (·.1)) xs k).map fun x => .tup [.str k, toldN n x]), rfl, Itr.list (vs := vs) ne, R'.hd, by exact om103 hl hl2 hsz vl vl2, fun h' q f => f.1, fun F' _ => by simpa using RDs.nil, S6, ?_, ?_⟩
  · intro i acc pv D Cc h7 Kf Kt hi ev ha hD kf kt S7
    obtain ⟨ks, tks, ek, rfl⟩ := strs_get st5 ev
    obtain ⟨w, t, hv, hg, rt⟩ := get_rep r0 ((sortS_perm (kvs.map (·.1))).mem_iff.mp (List.mem_of_getElem? ek))
    have ht : t.size ≤ sizes xs := by
      unfold getT at hg
      obtain ⟨q, hq, e⟩ := Option.map_eq_some_iff.mp hg
      have := List.mem_of_find?_eq_some hq
      rw [← e]
      exact size_le_sizes (List.of_mem_zip this).2
    refine ts_one ?_
    walk_at "r"
    refine D_sub (knd := sK C) (k := ks) (by simp [PySem.strKind, Value.isStrOf]) (e0.mono S7.now.2.2.2) hv ?_
    walk_at "r"
    refine O_isnot ?_
    rw [rep_notnone rt]
    walk_at "r"
    refine ⟨no_ff rfl, fun _ => ?_⟩
    walk_at "r"
    refine D_sub (knd := sK C) (k := ks) (by simp [PySem.strKind, Value.isStrOf]) (e0.mono S7.now.2.2.2) hv ?_
    walk_at "r"
    refine ⟨S7.g, (ih S7.g R' (fz_le _ _) (rt.mono S7.here.2.2.2) (by exact om98 hsz ht) (by have := toldW_le t; simp only [toldW, T.size] at hn; exact om99 hn hsz ht this)).mono fun u h8 hq4 => ?_⟩
    obtain ⟨x, k8, z8⟩ := hq4
    have hs6 := S6.size
    have S8 := S7.newx k8 (X := fun F' => RD F' u (toldN n t)) (fun x l => x.mono l) x
    clear S7
    walk_at "r"
    refine S_tuple S8 fun tc h9 nc tc5 S9 => kt _ _ (S9.imp fun F' _ ⟨f, x, g, l⟩ => ⟨?_, l⟩)
    try dsimp only at g ⊢
    rw [List.take_add_one, ek, List.filterMap_append]
    have hs8 := S8.size
    obtain ⟨o, e, p⟩ := f
    have y : RD (ge h.objs.size F') (.ref tc) (.tup [.str ks, toldN n t]) := .tup ⟨o, ge_of (Nat.le_trans hs6 (Nat.le_trans hs8 nc)) e, p⟩ (.cons (.str _ _) (.cons (x.mono (ge_mono Le.refl hs6)) .nil))
    have := g.snoc y
    simpa [hg] using this
  · intro D acc h7 hD D5 ha S7
    have S8 := S7.freeze (Ψ := fun F' => At F' D (oL acc) ∧ RDs (ge h.objs.size F') acc ((sortS (kvs.map (·.1))).filterMap fun k => (getT (kvs.map (·.1)) xs k).map fun x => .tup [.str k, toldN n x]) ∧ At F' ta (oT [.str (Str.ofString "dict") _])) fun F' o po _ e f => ⟨⟨o, e, po⟩, by have := f.1; rwa [vl, List.take_length] at this, f.2.2.1⟩
    clear S7 S6
    walk_at "r"
    refine C_tupleL S8 S8.now.1 (by exact om104 hl hl2 hsz vl vl2 ha) fun tb h8 nb tb5 S9 => ?_
    clear S8
    refine O_addT S9 (fun F' f => ⟨f.2.2.2, f.1⟩) (by simp) ta5 nah (by simp; exact om105 hl hl2 hsz vl vl2 ha) fun tc h9 nc tc5 S10 => ?_
    obtain ⟨o, e, p⟩ := S10.now.1
    refine (kq.go ⟨?_, S10.kb, S10.size⟩)
    unfold toldN
    exact .tup ⟨o, ge_of nc e, p⟩ (.cons (.str _ _) S10.now.2.2.2.1)
end
end
section
section
variable {C : Cx} {A : Around} {h : Heap} {F : Fz} {k : Nat}
theorem told_stream {n : Nat} (ih : ToldIh C n) {x dx d : Addr} {kvs : List (Str × Value)} {xs : List T} {b : Array UInt8} (G : GF C h) (R : Rm A (n + 3)) (hF : Le F h.get?) (ex : F x = some (instObj 214 dx)) (ed : At F dx (oStream C d b)) (e0 : At F d (oD (sK C) kvs)) (r0 : Reps C F (kvs.map (·.2)) xs) (d5 : 503 ≤ d) (x5 : 503 ≤ x) (hz : (T.stream (kvs.map (·.1)) xs b).size ≤ 60) (hn : toldW (.stream (kvs.map (·.1)) xs b) ≤ n + 1) :
    W C A (call (.ref 265) [.ref x]) h (New h (vD (toldN (n + 1) (.stream (kvs.map (·.1)) xs b)))) := by
  refine go1 (k := n + 2) (m := []) (v1 := some (.ref x)) (x1 := Str.ofString "value") (In.nil (Φ := fun F' => Le F F') G fun F' l => hF.trans (by rw [fz_nil] at l; exact l)) R rfl rfl (by kernel_rfl) (fun s e => BindsTo.of_eq rfl) (by kernel_rfl) (fun n => rfl) (fun L => rfl) (fun L => rfl) rfl rfl rfl fun A' L h1' cv R' S => ?_
  have R1 : Rm A' (0 + 1) := R'.le (by exact om96)
  refine bodyK rfl fun Rq kq => ?_
  walk_at "r"
  refine ⟨S.g, (kind_ok S.g R1 (.stream (S.now _ _ ex) (ed.mono S.now) (e0.mono S.now) (r0.mono S.now) d5 x5)).mono fun u h2' hq1 => ?_⟩
  obtain ⟨tk, e, k2, z2⟩ := hq1
  subst e
  have S2 := S.keep k2
  clear S
  walk_at "s"
  intro h3' S3
  clear S2
  iterate 2
    walk_at "r"
    refine O_eqs ?_
    walk_at "r"
    refine ⟨no_tt (by kernel_rfl), fun _ => ?_⟩
  walk_at "r"
  refine O_eqs ?_
  walk_at "r"
  refine ⟨fun _ => ?_, no_ff (by kernel_rfl)⟩
  walk_at "r"
  refine A_head S3.g (S3.now _ _ ex) (ed.mono S3.now) ?_
  walk_at "r"
  refine ⟨S3.g, (ih S3.g R' (fz_le _ _) (.dict (e0.mono S3.here) (r0.mono S3.here) d5) (by simpa [T.size] using hz) (by simp only [toldW, T.size] at hn ⊢; exact om106 hn)).mono fun u h4 hq2 => ?_⟩
  obtain ⟨y, k4, z4⟩ := hq2
  have S4 := S3.newx k4 (X := fun F' => RD F' u (toldN n (.dict (kvs.map fun q : Str × Value => q.1) xs))) (fun x l => x.mono l) y
  clear S3
  walk_at "r"
  refine A_octets S4.g (S4.now.2 _ _ ex) (ed.mono S4.now.2) fun tb => ?_
  walk_at "r"
  refine C_bytesB ?_
  walk_at "r"
  refine S_tuple S4 fun a h5 na a5 S5 => ?_
  obtain ⟨o, e, p⟩ := S5.now.1
  refine (kq.go ⟨?_, S5.kb, S5.size⟩)
  show RD _ _ (.tup [.str (Str.ofString "stream"), toldN n (.dict (kvs.map (·.1)) xs), .byt b.toList])
  exact .tup ⟨o, ge_of (Nat.le_trans S4.size na) e, p⟩ (.cons (.str _ _) (.cons S5.now.2.1 (.cons (.byt _ _) .nil)))
theorem told_ok : ∀ (n : Nat), ToldIh C n := by
  intro n
  induction n with
  | zero =>
    intro A h F v t G R hF r hz hn
    exact told_flat G R hF r (by exact om107 hn)
  | succ n ih =>
    intro A h F v t G R hF r hz hn
    by_cases h0 : toldW t = 0
    · exact told_flat G (R.le (j := 0 + 2) (by exact om108)) hF r h0
    cases r with
    | ref a b c => exact absurd rfl h0
    | int n t => exact absurd rfl h0
    | name a b c => exact absurd rfl h0
    | array a b c => exact told_array ih G R hF a b c hz hn
    | dict a b c => exact told_dict ih G R hF a b c hz hn
    | stream a b c e f g => exact told_stream ih G R hF a b c e f g hz hn
/-- what a shelf tells -/
noncomputable def shTold (n : Nat) (sh : Sh) : Dv := .tup [.tup ((sortI (sh.rows.map (·.1))).filterMap fun k => (find sh.rows k).map fun r => .tup [.int k, .int r.1, toldN n r.2]), toldN n (.dict sh.ks sh.xs)]
theorem shtold_ok {s : Addr} {sh : Sh} (G : GF C h) (R : Rm A 124) (hF : Le F h.get?) (x : RepSh C F s sh) (fit : Fit sh) : W C A (call (.ref 365) [.ref s]) h (New h (vD (shTold 120 sh))) := by
  obtain ⟨td, rd, kvs, tvs, x1, x2, x3, x4, x5, x6⟩ := x.1
  refine go1 (k := 123) (m := []) (v1 := some (.ref s)) (x1 := Str.ofString "self") (In.nil (Φ := fun F' => Le F F') G fun F' l => hF.trans (by rw [fz_nil] at l; exact l)) R rfl rfl (by kernel_rfl) (fun s e => BindsTo.of_eq rfl) (by kernel_rfl) (fun n => rfl) (fun L => rfl) (fun L => rfl) rfl rfl rfl fun A' L h1' cv R' S => ?_
  have R1 : Rm A' (0 + 1) := R'.le (by decide)
  have R2 : Rm A' (120 + 2) := R'.le (by decide)
  have frs := fit.rows
  refine bodyK rfl fun Rq kq => ?_
  walk_at "r"
  refine E_compP (h₀ := h) (M := []) (L := L) (cl := [(Str.ofString "self", cv)]) ?_ (by with_unfolding_all rfl) (by kernel_rfl) rfl (by kernel_rfl) (fun Cc => by kernel_rfl)
  walk_at "r"
  refine M_numbers S.g (x1.mono S.now) ?_
  walk_at "r"
  refine (numbers_ok S.g R1 (fz_le _ _) (x.mono S.here) fit.rows).mono fun lv h9 hq3 => ?_
  obtain ⟨⟨nl, nvs, e, n5, enl, ins⟩, k9, z9⟩ := hq3
  subst e
  have S2 := S.newx k9 (X := fun F' => At F' nl (oL nvs)) (fun x l => x.mono l) enl
  clear S
  refine I_list S2 (S2.now.1.mono ge_le) fun I h10 nI ne S3 => ?_
  clear S2
  have hnl : nvs.length = sh.rows.length := by rw [ins.length, (sortI_perm _).length_eq, List.length_map]
  refine ⟨I, _, _, oLI nl, _, _, _, _, fun i acc F' => RDs (ge h.objs.size F') acc (((sortI (sh.rows.map (·.1))).take i).filterMap fun k => (find sh.rows k).map fun r => .tup [.int k, .int r.1, toldN 120 r.2]), rfl, Itr.list (vs := nvs) ne, R'.hd, by exact om109 frs hnl, fun h' q f => f.1.mono ge_le, fun F' _ => by simpa using RDs.nil, S3, ?_, ?_⟩
  · intro i acc pv D Cc h6 Kf Kt hi ev ha hD kf kt S4
    obtain ⟨n, tn, en, rfl⟩ := ints_get ins ev
    have hm : (valueAt kvs n).isSome = true := by
      have h1 := List.mem_of_getElem? en
      rw [(sortI_perm _).mem_iff, ← x3.keys] at h1
      obtain ⟨q, hq, e⟩ := List.mem_map.mp h1
      obtain ⟨j, hj⟩ := List.getElem?_of_mem hq
      obtain ⟨a, b⟩ := q
      simp only at e; subst e
      rw [valueAt_of_get x2.nodup hj]; rfl
    obtain ⟨ra, g, tg, w, t, e1, e2, e3, e4, e5⟩ := x3.some hm
    have hsz : t.size ≤ 60 := fit.sz _ (find_mem e2)
    have hs3 := S3.size
    refine ts_nil ⟨fun q => Bool.noConfusion q, fun _ => ?_⟩
    walk_at "r"
    refine A_table S4.g (x1.mono S4.now.2.2) ?_
    walk_at "r"
    refine D_sub (knd := iK C) (k := n) (by simp [PySem.intKind, Value.isInt]) (x2.mono S4.now.2.2) e1 ?_
    walk_at "r"
    refine O_subT (e3.mono S4.now.2.2) (by decide) (by decide) rfl ?_
    walk_at "r"
    refine A_table S4.g (x1.mono S4.now.2.2) ?_
    walk_at "r"
    refine D_sub (knd := iK C) (k := n) (by simp [PySem.intKind, Value.isInt]) (x2.mono S4.now.2.2) e1 ?_
    walk_at "r"
    refine O_subT (e3.mono S4.now.2.2) (by decide) (by decide) rfl ?_
    walk_at "r"
    refine ⟨S4.g, (told_ok 120 S4.g R2 (fz_le _ _) (e5.mono S4.here.2.2) hsz (by have := toldW_le t; exact om110 hsz this)).mono fun u h8 hq4 => ?_⟩
    obtain ⟨y, k8, z8⟩ := hq4
    have S5 := S4.newx k8 (X := fun F' => RD F' u (toldN 120 t)) (fun x l => x.mono l) y
    clear S4
    walk_at "r"
    refine S_tuple S5 fun tc h9 nc tc5 S6 => kt _ _ (S6.imp fun F' _ ⟨f, y, g, l⟩ => ⟨?_, l⟩)
    try dsimp only at g ⊢
    rw [List.take_add_one, en, List.filterMap_append]
    obtain ⟨o, e, p⟩ := f
    have hs5 := S5.size
    have y2 : RD (ge h.objs.size F') (.ref tc) _ := .tup ⟨o, ge_of (Nat.le_trans hs3 (Nat.le_trans hs5 nc)) e, p⟩ (.cons (.int _ _) (.cons (.int _ _) (.cons (y.mono (ge_mono Le.refl hs3)) .nil)))
    have := g.snoc y2
    simpa [e2] using this
  · intro D acc h6 hD D5 ha S4
    have S5 := S4.freeze (Ψ := fun F' => At F' D (oL acc) ∧ RDs (ge h.objs.size F') acc ((sortI (sh.rows.map (·.1))).filterMap fun k => (find sh.rows k).map fun r => .tup [.int k, .int r.1, toldN 120 r.2]) ∧ Le F F') fun F' o po _ e f => ⟨⟨o, e, po⟩, by have := f.1; rwa [ins.length, List.take_length] at this, f.2.2⟩
    clear S4 S3
    walk_at "r"
    refine C_tupleL S5 S5.now.1 (by exact om111 frs hnl ha) fun tb h8 nb tb5 S6 => ?_
    clear S5
    walk_at "s"
    intro h9 S7
    clear S6
    walk_at "r"
    refine A_trailer S7.g (x1.mono S7.now.2.2.2) ?_
    walk_at "r"
    refine ⟨S7.g, (told_ok 120 S7.g R2 (fz_le _ _) (x5 ▸ Rep.dict (x4.mono S7.here.2.2.2) (x6.mono S7.here.2.2.2) x1.r5) (by have := fit.tz; exact this) (by have := toldW_le (.dict sh.ks sh.xs); have := fit.tz; omega)).mono fun u h10 hq5 => ?_⟩
    obtain ⟨y, k10, z10⟩ := hq5
    have S8 := S7.newx k10 (X := fun F' => RD F' u (toldN 120 (.dict sh.ks sh.xs))) (fun x l => x.mono l) y
    clear S7
    walk_at "r"
    refine S_tuple S8 fun tc h11 nc tc5 S9 => ?_
    obtain ⟨o, e, p⟩ := S9.now.1
    obtain ⟨o2, e2, p2⟩ := S9.now.2.2.1
    exact (kq.go ⟨.tup ⟨o, ge_of (Nat.le_trans S8.size nc) e, p⟩ (.cons (.tup ⟨o2, ge_of nb e2, p2⟩ S9.now.2.2.2.2.1) (.cons S9.now.2.1 .nil)), S9.kb, S9.size⟩)
end
end
section
/-- the elder part of F, and what F' says of the rest -/
noncomputable def mix (n : Nat) (F F' : Fz) : Fz := fun a => if a < n then F a else F' a
theorem mix_mono {n : Nat} {F F' F'' : Fz} (l : Le F' F'') : Le (mix n F F') (mix n F F'') := fun a o e => by
  unfold mix at *; split at e
  · rw [if_pos ‹_›]; exact e
  · rw [if_neg ‹_›]; exact l a o e
theorem mix_new {n : Nat} {F F' : Fz} {a : Addr} {o : Obj} (h : n ≤ a) (e : F' a = some o) : mix n F F' a = some o := by
  unfold mix; rw [if_neg (Nat.not_lt.mpr h)]; exact e
theorem mix_old {h : Heap} {F F' : Fz} (l : Le F h.get?) : Le F (mix h.objs.size F F') := fun a o e => by
  unfold mix; rw [if_pos (Heap.lt_size (l a o e))]; exact e
theorem ext_mix {h0 h1 h2 : Heap} {F F' G : Fz} (l : Le F h0.get?) (z : h0.objs.size ≤ h1.objs.size) (x : Le (ext G h1 h2) F') : Le (ext F h1 h2) (mix h0.objs.size F F') := fun a o e => by
  by_cases q : a < h1.objs.size
  · unfold Mine.ext at e; rw [if_pos q] at e; exact mix_old l a o e
  · have e' := e
    unfold Mine.ext at e'; rw [if_neg q] at e'
    have q' := Nat.not_lt.mp q
    exact mix_new (Nat.le_trans z q') (x a o (ext_new q' e'))
section
variable {C : Cx} {A : Around} {h : Heap} {F : Fz} {k : Nat}
/-- a value of a tree, from what stood in F and what is new -/
noncomputable abbrev CPost (C : Cx) (F : Fz) (h : Heap) (t : T) : Value → Heap → Prop := fun u h' => Rep C (ext F h h') u t ∧ Kb [] h h' ∧ h.objs.size ≤ h'.objs.size
noncomputable abbrev CopIh (C : Cx) (n : Nat) : Prop := ∀ {A : Around} {h : Heap} {F : Fz} {v : Value} {t : T}, GF C h → Rm A (n + 3) → Le F h.get? → Rep C F v t → t.size ≤ 60 → toldW t ≤ n → W C A (call (.ref 270) [v]) h (CPost C F h t)
theorem cop_flat {v : Value} {t : T} (G : GF C h) (R : Rm A (k + 2)) (hF : Le F h.get?) (r : Rep C F v t) (hf : toldW t = 0) : W C A (call (.ref 270) [v]) h (CPost C F h t) := by
  refine go1 (k := k + 1) (m := []) (v1 := some v) (x1 := Str.ofString "value") (In.nil (Φ := fun F' => Le F F') G fun F' l => hF.trans (by rw [fz_nil] at l; exact l)) R rfl rfl (by kernel_rfl) (fun s e => BindsTo.of_eq rfl) (by kernel_rfl) (fun n => rfl) (fun L => rfl) (fun L => rfl) rfl rfl rfl fun A' L h1 cv R' S => ?_
  refine bodyK rfl fun Rq kq => ?_
  walk_at "r"
  refine ⟨S.g, (kind_ok S.g R' (r.mono S.now)).mono fun u h2' hq1 => ?_⟩
  obtain ⟨tk, e, k2, z2⟩ := hq1
  subst e
  have S2 := S.keep k2
  clear S
  walk_at "s"
  intro h3' S3
  clear S2
  have hk : (kindS t == Str.ofString "array") = false ∧ (kindS t == Str.ofString "dict") = false ∧ (kindS t == Str.ofString "stream") = false := by
    cases t with
    | ref _ => exact ⟨by kernel_rfl, by kernel_rfl, by kernel_rfl⟩
    | int _ => exact ⟨by kernel_rfl, by kernel_rfl, by kernel_rfl⟩
    | name _ => exact ⟨by kernel_rfl, by kernel_rfl, by kernel_rfl⟩
    | array xs => simp only [toldW, T.size] at hf; omega
    | dict ks xs => simp only [toldW, T.size] at hf; omega
    | stream ks xs b => simp only [toldW, T.size] at hf; omega
  walk_at "r"
  refine O_eqs ?_
  walk_at "r"
  refine ⟨no_tt hk.1, fun _ => ?_⟩
  walk_at "r"
  refine O_eqs ?_
  walk_at "r"
  refine ⟨no_tt hk.2.1, fun _ => ?_⟩
  walk_at "r"
  refine O_eqs ?_
  walk_at "r"
  refine ⟨no_tt hk.2.2, fun _ => ?_⟩
  walk_at "r"
  exact ⟨r.mono hF.ext, S3.kb, S3.size⟩
theorem cop_array {n : Nat} (ih : CopIh C n) {l : Addr} {vs : List Value} {xs : List T} (G : GF C h) (R : Rm A (n + 4)) (hF : Le F h.get?) (e0 : At F l (oL vs)) (r0 : Reps C F vs xs) (l5 : 503 ≤ l) (hz : (T.array xs).size ≤ 60) (hn : toldW (.array xs) ≤ n + 1) :
    W C A (call (.ref 270) [.ref l]) h (CPost C F h (.array xs)) := by
  refine go1 (k := n + 3) (m := []) (v1 := some (.ref l)) (x1 := Str.ofString "value") (In.nil (Φ := fun F' => Le F F') G fun F' l => hF.trans (by rw [fz_nil] at l; exact l)) R rfl rfl (by kernel_rfl) (fun s e => BindsTo.of_eq rfl) (by kernel_rfl) (fun n => rfl) (fun L => rfl) (fun L => rfl) rfl rfl rfl fun A' L h1' cv R' S => ?_
  have R1 : Rm A' (0 + 1) := R'.le (by exact om48)
  refine bodyK rfl fun Rq kq => ?_
  walk_at "r"
  refine ⟨S.g, (kind_ok S.g R1 (.array (e0.mono S.now) (r0.mono S.now) l5)).mono fun u h2' hq2 => ?_⟩
  obtain ⟨tk, e, k2, z2⟩ := hq2
  subst e
  have S2 := S.keep k2
  clear S
  walk_at "s"
  intro h3' S3
  clear S2
  walk_at "r"
  refine O_eqs ?_
  walk_at "r"
  refine ⟨fun _ => ?_, no_ff (by kernel_rfl)⟩
  walk_at "r"
  refine E_compP (h₀ := h) (M := []) (L := L) (cl := []) ?_ (by with_unfolding_all rfl) (by kernel_rfl) rfl (by kernel_rfl) (fun Cc => by kernel_rfl)
  walk_at "r"
  refine I_list S3 (e0.mono S3.now) fun I h5 nI ne S5 => ?_
  clear S3
  have hl := r0.length
  have hl2 := length_le_sizes xs
  have hsz : 1 + sizes xs ≤ 60 := hz
  refine ⟨I, _, _, oLI l, _, _, _, _, fun i acc F' => Reps C (mix h.objs.size F F') acc (xs.take i), rfl, Itr.list (vs := vs) ne, R'.hd, by exact om97 hl hl2 hsz, fun h' q f => e0.mono f, fun F' _ => by simpa using Reps.nil, S5, ?_, ?_⟩
  · intro i acc pv D Cc h6 Kf Kt hi ev ha hD kf kt S6
    obtain ⟨t, et, rt⟩ := r0.get ev
    have ht : t.size ≤ sizes xs := size_le_sizes (List.mem_of_getElem? et)
    refine ts_nil ⟨fun q => Bool.noConfusion q, fun _ => ?_⟩
    walk_at "r"
    refine ⟨S6.g, (ih S6.g R' S6.now.2 rt (by exact om98 hsz ht) (by have := toldW_le t; simp only [toldW, T.size] at hn; exact om99 hn hsz ht this)).mono fun u h7 hq3 => ?_⟩
    obtain ⟨x, k7, z7⟩ := hq3
    refine kt _ _ ((S6.keepx (Ψ := fun F' => Rep C (mix h.objs.size F F') u t) k7 fun F' l => x.mono (ext_mix hF (Nat.le_trans S5.size S6.size) l)).imp fun F' _ ⟨x, f, l⟩ => ⟨?_, l⟩)
    try dsimp only at f ⊢
    rw [List.take_add_one, et]
    exact f.snoc x
  · intro D acc h6 hD D5 ha S6
    have hs5 := S5.size
    have S7 := S6.freeze (Ψ := fun F' => At F' D (oL acc) ∧ Reps C (mix h.objs.size F F') acc xs) fun F' o po _ e f => ⟨⟨o, e, po⟩, by have := f.1; rwa [hl, List.take_length] at this⟩
    clear S6 S5
    obtain ⟨o, e, p⟩ := S7.now.1
    exact (kq.go ⟨.array ⟨o, ext_new (Nat.le_trans hs5 hD) e, p⟩ S7.now.2 D5, S7.kb, S7.size⟩)
theorem cop_dict {n : Nat} (ih : CopIh C n) {d : Addr} {kvs : List (Str × Value)} {xs : List T} (G : GF C h) (R : Rm A (n + 4)) (hF : Le F h.get?) (e0 : At F d (oD (sK C) kvs)) (r0 : Reps C F (kvs.map (·.2)) xs) (d5 : 503 ≤ d) (hz : (T.dict (kvs.map (·.1)) xs).size ≤ 60) (hn : toldW (.dict (kvs.map (·.1)) xs) ≤ n + 1) :
    W C A (call (.ref 270) [.ref d]) h (CPost C F h (.dict (kvs.map (·.1)) xs)) := by
  refine go1 (k := n + 3) (m := []) (v1 := some (.ref d)) (x1 := Str.ofString "value") (In.nil (Φ := fun F' => Le F F') G fun F' l => hF.trans (by rw [fz_nil] at l; exact l)) R rfl rfl (by kernel_rfl) (fun s e => BindsTo.of_eq rfl) (by kernel_rfl) (fun n => rfl) (fun L => rfl) (fun L => rfl) rfl rfl rfl fun A' L h1' cv R' S => ?_
  have R1 : Rm A' (0 + 1) := R'.le (by exact om48)
  refine bodyK rfl fun Rq kq => ?_
  walk_at "r"
  refine ⟨S.g, (kind_ok S.g R1 (.dict (e0.mono S.now) (r0.mono S.now) d5)).mono fun u h2' hq4 => ?_⟩
  obtain ⟨tk, e, k2, z2⟩ := hq4
  subst e
  have S2 := S.keep k2
  clear S
  walk_at "s"
  intro h3' S3
  clear S2
  walk_at "r"
  refine O_eqs ?_
  walk_at "r"
  refine ⟨no_tt (by kernel_rfl), fun _ => ?_⟩
  walk_at "r"
  refine O_eqs ?_
  walk_at "r"
  refine ⟨fun _ => ?_, no_ff (by kernel_rfl)⟩
  have hl := r0.length
  rw [List.length_map] at hl
  have hl2 := length_le_sizes xs
  have hsz : 1 + sizes xs ≤ 60 := hz
  walk_at "r"
  refine E_compP (h₀ := h) (M := []) (L := L) (cl := [(Str.ofString "value", cv)]) ?_ (by with_unfolding_all rfl) (by kernel_rfl) rfl (by kernel_rfl) (fun Cc => by kernel_rfl)
  walk_at "r"
  obtain ⟨ep, xa⟩ := e0.da
  refine I_keys S3 (xa.mono S3.now) d5 fun I h5 nI ne S5 => ?_
  clear S3
  refine ⟨I, _, _, _, _, _, _, _, fun i acc F' => ∃ (ys : List (Value × Value)) (lvs : List (Str × Value)), Tw F' acc ys ∧ KVs (sK C) ys lvs ∧ lvs.map (·.1) = (kvs.map (·.1)).take i ∧ Reps C (mix h.objs.size F F') (lvs.map (·.2)) (xs.take i), rfl, Itr.keys (knd := sK C) (kvs := kvs) (ep := ep) ne, R'.hd, by exact om97 hl hl2 hsz, fun h' q f => xa.mono f, fun F' _ => ⟨[], [], .nil, .nil, by simp, by simpa using Reps.nil⟩, S5, ?_, ?_⟩
  · rintro i acc v D Cc h6 Kf Kt hi ⟨ks, w, ek, ik⟩ ha hD kf kt S6
    obtain ⟨tks, rfl⟩ := Value.isStrOf_shape (show v.isStrOf ks = true from ik)
    obtain ⟨t, et, rt⟩ := r0.get (i := i) (v := w) (by rw [List.getElem?_map, ek]; rfl)
    have ht : t.size ≤ sizes xs := size_le_sizes (List.mem_of_getElem? et)
    refine ts_nil ⟨fun q => Bool.noConfusion q, fun _ => ?_⟩
    walk_at "r"
    refine D_sub (knd := sK C) (k := ks) ik (e0.mono S6.now.2) (v := w) (valueAt_of_get e0.nodup ek) ?_
    walk_at "r"
    refine ⟨S6.g, (ih S6.g R' S6.now.2 rt (by exact om98 hsz ht) (by have := toldW_le t; simp only [toldW, T.size] at hn; exact om99 hn hsz ht this)).mono fun u h7 hq5 => ?_⟩
    obtain ⟨x, k7, z7⟩ := hq5
    have S7 := S6.keepx (Ψ := fun F' => Rep C (mix h.objs.size F F') u t) k7 fun F' l => x.mono (ext_mix hF (Nat.le_trans S5.size S6.size) l)
    clear S6
    walk_at "r"
    refine S_tuple S7 fun tc h9 nc tc5 S8 => kt _ _ (S8.imp fun F' _ ⟨f, x, ⟨ys, lvs, h1, h2, h3, h4⟩, l⟩ => ⟨⟨ys ++ [(.str ks tks, u)], lvs ++ [(ks, u)], h1.snoc f, h2.snoc ik, ?_, ?_⟩, l⟩)
    · rw [List.map_append, h3, List.take_add_one, List.getElem?_map, ek]; rfl
    · rw [List.map_append, List.take_add_one, et]; exact h4.snoc x
  · intro D acc h6 hD D5 ha S6
    obtain ⟨⟨ys, lvs, h1, h2, h3, h4⟩, -⟩ := S6.here
    have hs5 := S5.size
    rw [← List.length_map (f := (·.1)), List.take_length] at h3
    rw [hl, List.take_length] at h4
    have S7 := S6.freeze (Ψ := fun F' => (At F' D (oL acc) ∧ Tw F' acc ys) ∧ Reps C (mix h.objs.size F F') (lvs.map (·.2)) xs) fun F' o po l e f => ⟨⟨⟨o, e, po⟩, h1.mono l⟩, h4.mono (mix_mono l)⟩
    clear S6 S5
    walk_at "r"
    refine C_dictK (sK C) (xs := ys) (kvs := lvs) S7 R'.hd (fun F' f => f.1) h2 (by rw [h3]; exact e0.nodup) (by have := congrArg List.length h3; simp only [List.length_map] at this; exact om112 hl hl2 hsz this) fun d' h8 nd d5' S8 => ?_
    have hs7 := S7.size
    clear S7
    obtain ⟨o, e, p⟩ := S8.at0
    refine (kq.go ⟨?_, S8.kb, S8.size⟩)
    rw [← h3]
    exact .dict ⟨o, ext_new (Nat.le_trans hs7 nd) e, p⟩ S8.now.2 d5'
theorem cop_stream {n : Nat} (ih : CopIh C n) {x dx d : Addr} {kvs : List (Str × Value)} {xs : List T} {b : Array UInt8} (G : GF C h) (R : Rm A (n + 4)) (hF : Le F h.get?) (ex : F x = some (instObj 214 dx)) (ed : At F dx (oStream C d b)) (e0 : At F d (oD (sK C) kvs)) (r0 : Reps C F (kvs.map (·.2)) xs) (d5 : 503 ≤ d) (x5 : 503 ≤ x) (hz : (T.stream (kvs.map (·.1)) xs b).size ≤ 60) (hn : toldW (.stream (kvs.map (·.1)) xs b) ≤ n + 1) :
    W C A (call (.ref 270) [.ref x]) h (CPost C F h (.stream (kvs.map (·.1)) xs b)) := by
  refine go1 (k := n + 3) (m := []) (v1 := some (.ref x)) (x1 := Str.ofString "value") (In.nil (Φ := fun F' => Le F F') G fun F' l => hF.trans (by rw [fz_nil] at l; exact l)) R rfl rfl (by kernel_rfl) (fun s e => BindsTo.of_eq rfl) (by kernel_rfl) (fun n => rfl) (fun L => rfl) (fun L => rfl) rfl rfl rfl fun A' L h1' cv R' S => ?_
  have R1 : Rm A' (0 + 1) := R'.le (by exact om48)
  have R2 : Rm A' (0 + 2) := R'.le (by exact om113)
  refine bodyK rfl fun Rq kq => ?_
  walk_at "r"
  refine ⟨S.g, (kind_ok S.g R1 (.stream (S.now _ _ ex) (ed.mono S.now) (e0.mono S.now) (r0.mono S.now) d5 x5)).mono fun u h2' hq6 => ?_⟩
  obtain ⟨tk, e, k2, z2⟩ := hq6
  subst e
  have S2 := S.keep k2
  clear S
  walk_at "s"
  intro h3' S3
  clear S2
  iterate 2
    walk_at "r"
    refine O_eqs ?_
    walk_at "r"
    refine ⟨no_tt (by kernel_rfl), fun _ => ?_⟩
  walk_at "r"
  refine O_eqs ?_
  walk_at "r"
  refine ⟨fun _ => ?_, no_ff (by kernel_rfl)⟩
  walk_at "r"
  refine A_head S3.g (S3.now _ _ ex) (ed.mono S3.now) ?_
  walk_at "r"
  refine ⟨S3.g, (ih S3.g R' S3.now (.dict e0 r0 d5) (by simpa [T.size] using hz) (by simp only [toldW, T.size] at hn ⊢; exact om106 hn)).mono fun u h4 hq7 => ?_⟩
  obtain ⟨y, k4, z4⟩ := hq7
  have S4 := S3.keepx (Ψ := fun F' => Rep C (mix h.objs.size F F') u (.dict (kvs.map fun q : Str × Value => q.1) xs)) k4 fun F' l => y.mono (ext_mix hF S3.size l)
  clear S3
  walk_at "r"
  refine A_octets S4.g (S4.now.2 _ _ ex) (ed.mono S4.now.2) fun tb => ?_
  walk_at "r"
  have r4 := S4.now.1
  generalize hks : kvs.map (fun q : Str × Value => q.1) = ks at r4 S4 kq
  cases r4 with
  | @dict d2 kvs2 xs2 e2 r2 d25 =>
  have hl : Le (mix h.objs.size F h4.get?) h4.get? := fun a o e => by
    unfold mix at e; split at e
    · exact S4.now.2 a o e
    · exact e
  refine ⟨S4.g, (mkStream (tb := tb) (b := b) S4.g R2 hl e2 r2 d25).mono fun u h5 hq8 => ?_⟩
  obtain ⟨y, k5, z5⟩ := hq8
  have S5 := S4.keep k5
  refine (kq.go ⟨?_, S5.kb, S5.size⟩)
  refine y.mono fun a o e => ?_
  have zz := S4.size
  by_cases q : a < h4.objs.size
  · unfold Mine.ext at e; rw [if_pos q] at e
    unfold mix at e; unfold Mine.ext
    split at e
    · rw [if_pos ‹_›]; exact e
    · rw [if_neg ‹_›]; exact k5 a o e (by simp)
  · unfold Mine.ext at e; rw [if_neg q] at e
    exact ext_new (Nat.le_trans zz (Nat.not_lt.mp q)) e
theorem cop_ok : ∀ (n : Nat), CopIh C n := by
  intro n
  induction n with
  | zero =>
    intro A h F v t G R hF r hz hn
    exact cop_flat (k := 1) G R hF r (by exact om107 hn)
  | succ n ih =>
    intro A h F v t G R hF r hz hn
    by_cases h0 : toldW t = 0
    · exact cop_flat G (R.le (j := 0 + 2) (by exact om114)) hF r h0
    cases r with
    | ref a b c => exact absurd rfl h0
    | int n t => exact absurd rfl h0
    | name a b c => exact absurd rfl h0
    | array a b c => exact cop_array ih G R hF a b c hz hn
    | dict a b c => exact cop_dict ih G R hF a b c hz hn
    | stream a b c e f g => exact cop_stream ih G R hF a b c e f g hz hn
end
end
section
section
variable {C : Cx} {A : Around} {h : Heap} {k : Nat} {s td rd : Addr}
/-- Shelf(table, trailer) -/
theorem mkShelf (G : GF C h) (R : Rm A (k + 2)) (t5 : 503 ≤ td) (r5 : 503 ≤ rd) : W C A (call (.ref 368) [.ref td, .ref rd]) h (New h (fun v F => ∃ s, v = .ref s ∧ ShA C F s td rd)) := by
  refine make (fI := 297) G R (by kernel_rfl) (by kernel_rfl) (by kernel_rfl) fun A' R' => ?_
  have I := made_in (c0 := 368) (Φ := fun F => True) G fun F l => trivial
  refine goC (m := [(Str.ofString "trailer", .ref rd), (Str.ofString "table", .ref td), (Str.ofString "self", .ref (h.objs.size + 1))]) (binds := [(Str.ofString "self", .ref (h.objs.size + 1)), (Str.ofString "table", .ref td), (Str.ofString "trailer", .ref rd)]) I R' rfl rfl (by kernel_rfl) (fun s e => BindsTo.of_defaults (o := ⟨.type "tuple", none, .seq [.none, .none].toArray 0, [].toArray⟩) (items := [.none, .none].toArray) (n := 0) rfl (by rw [e]; exact I.G.x 290 _ (by kernel_rfl)) rfl rfl rfl) rfl (by kernel_rfl) (by kernel_rfl) rfl rfl rfl fun A'' L h1 R'' S => ?_
  refine bodyK rfl fun Rq kq => ?_
  walk_at "r"
  refine O_is ?_
  walk_at "r"
  refine ⟨no_tt rfl, fun _ => ?_⟩
  walk_at "r"
  refine A_set S (S.now.1) (by kernel_rfl) (by kernel_rfl) (by kernel_rfl) (by kernel_rfl) rfl (by decide) fun h2 t1 (S2 : St C _ _ _ _ [(h.objs.size, oI [en C (Str.ofString "table") t1 (.ref td)])] _ h2) => ?_
  clear S
  walk_at "r"
  refine O_is ?_
  walk_at "r"
  refine ⟨no_tt rfl, fun _ => ?_⟩
  walk_at "r"
  refine A_set S2 (S2.now.1) (by kernel_rfl) (by kernel_rfl) (by kernel_rfl) (by kernel_rfl) (by kernel_rfl) (by simp) fun h3 t2 (S3 : St C _ _ _ _ [(h.objs.size, oI [en C (Str.ofString "table") t1 (.ref td), en C (Str.ofString "trailer") t2 (.ref rd)])] _ h3) => ?_
  clear S2
  walk_at "r"
  obtain ⟨o, e, n, rfl⟩ := S3.at0
  exact ⟨rfl, ⟨_, rfl, Nat.le_succ_of_le G.size, t5, r5, _, t1, t2, ge_of (Nat.le_succ _) S3.now.1, _, ge_of (Nat.le_refl _) e, n, rfl⟩, made_kb S3.kb, made_sz S3.size⟩
/-- Shelf() -/
theorem mkShelf0 (G : GF C h) (R : Rm A (k + 2)) : W C A (call (.ref 368) []) h (fun v h' => ∃ s dx td rd t1 t2, v = .ref s ∧ h.objs.size ≤ s ∧ h.objs.size ≤ dx ∧ h.objs.size ≤ td ∧ h.objs.size ≤ rd ∧ dx ≠ td ∧ dx ≠ s ∧ td ≠ s ∧ h'.get? s = some (instObj 368 dx) ∧ At h'.get? dx (oI [en C (Str.ofString "table") t1 (.ref td), en C (Str.ofString "trailer") t2 (.ref rd)]) ∧ At h'.get? td (oD (iK C) []) ∧ Kb [] h h' ∧ h.objs.size ≤ h'.objs.size) := by
  refine make (fI := 297) G R (by kernel_rfl) (by kernel_rfl) (by kernel_rfl) fun A' R' => ?_
  have I := made_in (c0 := 368) (Φ := fun F => True) G fun F l => trivial
  refine goC (m := [(Str.ofString "trailer", .none), (Str.ofString "table", .none), (Str.ofString "self", .ref (h.objs.size + 1))]) (binds := [(Str.ofString "self", .ref (h.objs.size + 1)), (Str.ofString "table", .none), (Str.ofString "trailer", .none)]) I R' rfl rfl (by kernel_rfl) (fun s e => BindsTo.of_defaults (o := ⟨.type "tuple", none, .seq [.none, .none].toArray 0, [].toArray⟩) (items := [.none, .none].toArray) (n := 0) rfl (by rw [e]; exact I.G.x 290 _ (by kernel_rfl)) rfl rfl rfl) rfl (by kernel_rfl) (by kernel_rfl) rfl rfl rfl fun A'' L h1 R'' S => ?_
  refine bodyK rfl fun Rq kq => ?_
  walk_at "r"
  refine O_is ?_
  walk_at "r"
  refine ⟨fun _ => ?_, no_ff rfl⟩
  refine S_dict S (O := oD (iK C) []) (oD_new _) fun td h2 nt t5 S2 => ?_
  have zt := S.size
  clear S
  walk_at "r"
  have S2' := S2.perm (σ' := [(h.objs.size, oI []), (td, oD (iK C) [])]) (List.Perm.swap _ _ _)
  clear S2
  refine A_set S2' (S2'.now.1) (by kernel_rfl) (by kernel_rfl) (by kernel_rfl) (by kernel_rfl) rfl (by decide) fun h3 t1 (S3 : St C _ _ _ _ [(h.objs.size, oI [en C (Str.ofString "table") t1 (.ref td)]), (td, oD (iK C) [])] _ h3) => ?_
  clear S2'
  walk_at "r"
  refine O_is ?_
  walk_at "r"
  refine ⟨fun _ => ?_, no_ff rfl⟩
  refine S_dict S3 (O := oD (sK C) []) (oD_new _) fun rd h4 nr r5 S4 => ?_
  have zr := S3.size
  clear S3
  walk_at "r"
  have S4' := S4.perm (σ' := [(h.objs.size, oI [en C (Str.ofString "table") t1 (.ref td)]), (rd, oD (sK C) []), (td, oD (iK C) [])]) (List.Perm.swap _ _ _)
  clear S4
  refine A_set S4' (S4'.now.1) (by kernel_rfl) (by kernel_rfl) (by kernel_rfl) (by kernel_rfl) (by kernel_rfl) (by simp) fun h5 t2 (S5 : St C _ _ _ _ [(h.objs.size, oI [en C (Str.ofString "table") t1 (.ref td), en C (Str.ofString "trailer") t2 (.ref rd)]), (rd, oD (sK C) []), (td, oD (iK C) [])] _ h5) => ?_
  clear S4'
  walk_at "r"
  have z : h.objs.size + 1 < h1.objs.size := by
    have := zt
    rw [Heap.size_push, Heap.size_push] at this
    exact om115 this
  have z2 := made_sz zr
  refine ⟨rfl, _, _, td, rd, t1, t2, rfl, Nat.le_succ _, Nat.le_refl _, by exact om116 nt z, Nat.le_trans z2 nr, by exact om117 nt z, by exact om118, by exact om119 nt z, S5.now.1, S5.at0, S5.at2, made_kb S5.kb, made_sz S5.size⟩
/-- put -/
theorem put_ok {kvs : List (Int × Value)} {n g : Int} {tn tg : Tok} {v : Value} (G : GF C h) (R : Rm A (k + 1)) (x : ShA C (fz [td] h) s td rd) (e : At h.get? td (oD (iK C) kvs)) (hz : kvs.length ≤ 1000) :
    W C A (call (.ref 332) [.ref s, .int n tn, .int g tg, v]) h (fun u h' => ∃ a, At (nw h h') a (oT [.int g tg, v]) ∧ 503 ≤ a ∧ At h'.get? td (oD (iK C) (stored kvs n (.ref a))) ∧ Kb [td] h h' ∧ h.objs.size ≤ h'.objs.size) := by
  obtain ⟨o, e, p⟩ := e
  refine go (m := [(Str.ofString "value", v), (Str.ofString "generation", .int g tg), (Str.ofString "number", .int n tn), (Str.ofString "self", .ref s)]) (In.one (R := oD (iK C) kvs) (Φ := fun F => ShA C F s td rd) G e p x.t5 fun F l => x.mono l) R rfl rfl (by kernel_rfl) (fun s e => BindsTo.of_eq rfl) rfl (by kernel_rfl) (by kernel_rfl) rfl rfl rfl fun A' L h1 R' S => ?_
  refine bodyK rfl fun Rq kq => ?_
  walk_at "r"
  refine S_tuple S fun a h2 na a5 S2 => ?_
  have nah := Nat.le_trans S.size na
  clear S
  walk_at "r"
  refine A_table S2.g S2.now.2 ?_
  walk_at "r"
  refine D_set (knd := iK C) (k := n) (by simp [PySem.intKind, Value.isInt]) S2.at0 (by exact om120 hz) fun h3 k3 e3 => ?_
  have S3 := S2.put0 k3 e3
  walk_at "r"
  obtain ⟨o2, e2, p2⟩ := S3.now.1
  exact ⟨a, ⟨o2, ge_of nah e2, p2⟩, a5, e3, S3.kb, S3.size⟩
theorem M_dict {d : Addr} {name : Str} {id : String} {pl : Sem Bool} {R : Value × List Value → Heap → Prop} {K : Type} [DecidableEq K] {knd : PySem.KeyKind PR C.w K} {kvs : List (K × Value)} (e : At h.get? d (oD knd kvs)) (slot : Slot "dict" name id) (hty : typeOf (.builtin id) = pure (.type "method_descriptor")) (x : R (.builtin id, [.ref d]) h) :
    W C A (getMethod (.ref d) name pl) h R := W.mk fun s tk => by
  obtain ⟨o, ho, ep, es, c, _⟩ := e
  exact getMethod_builtin (s := st s h tk) ⟨_, ho, c.1⟩ PySem.F.plainAttrs_dict slot hty (fun a q => by cases q; exact ⟨_, ho, c.2.1⟩) ⟨h, tk, rfl, x⟩
/-- drop -/
theorem drop_ok {kvs : List (Int × Value)} {n : Int} {tn : Tok} (G : GF C h) (R : Rm A (k + 1)) (x : ShA C (fz [td] h) s td rd) (e : At h.get? td (oD (iK C) kvs)) (hz : kvs.length ≤ 1000) :
    W C A (call (.ref 346) [.ref s, .int n tn]) h (fun u h' => At h'.get? td (oD (iK C) (without kvs n)) ∧ Kb [td] h h' ∧ h.objs.size ≤ h'.objs.size) := by
  obtain ⟨o, e, p⟩ := e
  refine go (m := [(Str.ofString "number", .int n tn), (Str.ofString "self", .ref s)]) (In.one (R := oD (iK C) kvs) (Φ := fun F => ShA C F s td rd) G e p x.t5 fun F l => x.mono l) R rfl rfl (by kernel_rfl) (fun s e => BindsTo.of_eq rfl) rfl (by kernel_rfl) (by kernel_rfl) rfl rfl rfl fun A' L h1 R' S => ?_
  refine bodyK rfl fun Rq kq => ?_
  walk_at "r"
  refine A_table S.g S.now ?_
  refine D_in (knd := iK C) (k := n) (by simp [PySem.intKind, Value.isInt]) S.at0 x.t5 ?_
  walk_at "r"
  refine ⟨fun c => ?_, fun c => ?_⟩
  · walk_at "r"
    refine A_table S.g S.now ?_
    refine M_dict (knd := iK C) S.at0 PySem.F.slot_dict_pop (by kernel_rfl) ?_
    walk_at "r"
    obtain ⟨v, ev⟩ := Option.isSome_iff_exists.mp c
    have S1 := S
    have pop : ∀ (Q : Value → Heap → Prop) (hh : Heap), At hh.get? td (oD (iK C) kvs) → (∀ h', Kb [td] hh h' → At h'.get? td (oD (iK C) (without kvs n)) → Q v h') → W C A' (call (.builtin "dict.pop") [.ref td, .int n tn]) hh Q := fun Q hh e y => W.mk fun s tk => by
      refine call_meetsIn (s := st s hh tk) PySem.F.slot_dict_pop (Heap.DictOf.typeIs (s := st s hh tk) e.dict) PySem.F.entry_dict_pop (PySem.F.args_dict_pop_2 _ _) (meets_dict_pop_there (iK C) td (k := n) (key := .int n tn) (by simp [PySem.intKind, Value.isInt]) [] (.inl rfl) rfl) ⟨kvs, v, e.dict, Nat.le_trans hz (by decide), ev, fun h' hd hs => ⟨h', tk + 1, rfl, y h' (kb_same hs) (At.of_dict hd)⟩⟩
    refine pop _ _ S.at0 fun h3 k3 e3 => ?_
    have S3 := S.put0 k3 e3
    walk_at "r"
    exact ⟨e3, S3.kb, S3.size⟩
  · walk_at "r"
    have : without kvs n = kvs := by
      unfold without
      refine List.filter_eq_self.mpr fun q hq => ?_
      rw [decide_eq_true_eq]
      rintro rfl
      obtain ⟨j, hj⟩ := List.getElem?_of_mem hq
      rw [valueAt_of_get (At.nodup S.at0) hj] at c
      simp at c
    rw [this]
    exact ⟨S.at0, S.kb, S.size⟩
end
end
section
section
variable {C : Cx} {A : Around} {h h₀ h' : Heap} {F : Fz} {k : Nat} {s td rd : Addr} {M : List Addr} {L : Addr} {m : Loc} {σ : Led} {Φ Ψ : Fz → Prop}
/-- a new object of the ledger, and facts of all else that is new -/
theorem St.newK {a : Addr} {P : Obj → Prop} (S : St C h₀ M L m σ Φ h) (k : Kb [] h h') (ha : h.objs.size ≤ a) (e : At h'.get? a P) (f : ∀ F', Le (mix h.objs.size (fz (L :: ads σ) h) (fz [a] h')) F' → Ψ F') : St C h₀ M L m ((a, P) :: σ) (fun F => Ψ F ∧ Φ F) h' := by
  obtain ⟨o, e, p⟩ := e
  have lt := S.lt
  refine (S.new k ha e p).add fun F l => f F (Le.trans (fun b x eb => ?_) l)
  unfold mix at eb
  by_cases q : b < h.objs.size
  · rw [if_pos q] at eb
    obtain ⟨n, eb⟩ := fz_some eb
    refine fz_of (fun z => ?_) (k b x eb (by simp))
    rcases List.mem_cons.mp z with z | z
    · exact n (z ▸ .head _)
    · rcases List.mem_cons.mp z with z | z
      · exact absurd q (by rw [z]; exact Nat.not_lt.mpr ha)
      · exact n (.tail _ z)
  · rw [if_neg q] at eb
    obtain ⟨n, eb⟩ := fz_some eb
    refine fz_of (fun z => ?_) eb
    rcases List.mem_cons.mp z with z | z
    · exact q (lt b (z ▸ .head _))
    · rcases List.mem_cons.mp z with z | z
      · exact n (by rw [z]; exact .head _)
      · exact q (lt b (.tail _ z))
theorem Rows.snoc {F : Fz} {n g : Int} {tg : Tok} {a : Addr} {v : Value} {t : T} {kvs : List (Int × Value)} {rs : List Row} (x : Rows C F kvs rs) (e : At F a (oT [.int g tg, v])) (a5 : 503 ≤ a) (r : Rep C F v t) : Rows C F (kvs ++ [(n, .ref a)]) (rs ++ [(n, g, t)]) := by
  induction x with
  | nil => exact .cons e a5 r .nil
  | cons a b c _ ih => exact .cons a b c ih
theorem Rows.at : ∀ {kvs : List (Int × Value)} {rs : List Row} {i : Nat} {n : Int} {v : Value}, Rows C F kvs rs → kvs[i]? = Option.some (n, v) → ∃ a g tg w t, v = .ref a ∧ rs[i]? = Option.some (n, g, t) ∧ At F a (oT [.int g tg, w]) ∧ 503 ≤ a ∧ Rep C F w t
  | _, _, 0, _, _, .cons a b c d, e => by simp at e; obtain ⟨rfl, rfl⟩ := e; exact ⟨_, _, _, _, _, rfl, rfl, a, b, c⟩
  | _, _, i + 1, _, _, .cons a b c d, e => by simp at e; obtain ⟨a, g, tg, w, t, h1, h2, h3⟩ := d.at e; exact ⟨a, g, tg, w, t, h1, by simpa using h2, h3⟩
/-- a shelf whose table may still be turned -/
structure Shx (C : Cx) (F : Fz) (s td rd : Addr) (kvs : List (Int × Value)) (rows : List Row) (ks : List Str) (xs : List T) : Prop where
  a : ShA C F s td rd
  r : Rows C F kvs rows
  t : ∃ tvs, At F rd (oD (sK C) tvs) ∧ tvs.map (·.1) = ks ∧ Reps C F (tvs.map (·.2)) xs
theorem Shx.mono {F F' : Fz} {kvs : List (Int × Value)} {rows : List Row} {ks : List Str} {xs : List T} (x : Shx C F s td rd kvs rows ks xs) (l : Le F F') : Shx C F' s td rd kvs rows ks xs := ⟨x.a.mono l, x.r.mono l, let ⟨tvs, a, b, c⟩ := x.t; ⟨tvs, a.mono l, b, c.mono l⟩⟩
theorem Shx.rep {F : Fz} {kvs : List (Int × Value)} {rows : List Row} {ks : List Str} {xs : List T} (x : Shx C F s td rd kvs rows ks xs) (e : At F td (oD (iK C) kvs)) : RepSh C F s ⟨rows, ks, xs⟩ := let ⟨tvs, a, b, c⟩ := x.t; ⟨td, rd, kvs, tvs, x.a, e, x.r, a, b, c⟩
noncomputable abbrev scT : Option (Value × Value × Value) → Loc
  | none => []
  | some (n, g, v) => [(Str.ofString "number", n), (Str.ofString "generation", g), (Str.ofString "value", v)]
noncomputable abbrev gvT : Option (Value × Value) → Loc
  | none => []
  | some (g, v) => [(Str.ofString "generation", g), (Str.ofString "value", v)]
noncomputable abbrev ShCopy (C : Cx) (F : Fz) (h : Heap) (sh : Sh) : Value → Heap → Prop := fun u h' => ∃ s2 td2 rd2 kvs2, u = .ref s2 ∧ h.objs.size ≤ td2 ∧ At h'.get? td2 (oD (iK C) kvs2) ∧ Shx C (mix h.objs.size F (fz [td2] h')) s2 td2 rd2 kvs2 sh.rows sh.ks sh.xs ∧ Kb [] h h' ∧ h.objs.size ≤ h'.objs.size
theorem shcopied_ok {sh : Sh} (G : GF C h) (R : Rm A 124) (hF : Le F h.get?) (x : RepSh C F s sh) (fit : Fit sh) : W C A (call (.ref 377) [.ref s]) h (ShCopy C F h sh) := by
  obtain ⟨td, rd, kvs, tvs, x1, x2, x3, x4, x5, x6⟩ := x.1
  refine go (k := 123) (m := [(Str.ofString "shelf", .ref s)]) (In.nil (Φ := fun F' => Le F F') G fun F' l => hF.trans (by rw [fz_nil] at l; exact l)) R rfl rfl (by kernel_rfl) (fun s e => BindsTo.of_eq rfl) rfl (by kernel_rfl) (by kernel_rfl) rfl rfl rfl fun A' L h1 R' S => ?_
  have R2 : Rm A' (120 + 3) := R'
  have R3 : Rm A' (0 + 2) := R'.le (by decide)
  have frs := fit.rows
  have hkl := x3.length
  refine bodyK rfl fun Rq kq => ?_
  refine X_assign ?_
  refine S_dict S (O := oD (iK C) []) (oD_new _) fun ta h2 na a5 S2 => ?_
  have nah := Nat.le_trans S.size na
  clear S
  walk_at "s"
  intro h3 S3
  clear S2
  refine X_forI (h₀ := h) (M := []) (L := L) ?_
  walk_at "r"
  refine A_table S3.g (x1.mono S3.now) ?_
  obtain ⟨ep, xa⟩ := x2.da
  refine I_keys S3 (xa.mono S3.now) x1.t5 fun I h4 nI ne S4 => ?_
  clear S3
  refine ⟨I, kvs.length, _, oKI td kvs.length ep, _, fun i hh => ∃ (o : Option (Value × Value × Value)) (lvs : List (Int × Value)), lvs.map (·.1) = (kvs.map (·.1)).take i ∧ St C h [] L ((Str.ofString "shelf", .ref s) :: (Str.ofString "table", .ref ta) :: scT o) [(I, oKI td kvs.length ep i), (ta, oD (iK C) lvs)] (fun F' => Rows C (mix h.objs.size F F') lvs (sh.rows.take i) ∧ Le F F') hh, rfl, Itr.keys (knd := iK C) (kvs := kvs) (ep := ep) ne, R'.hd, ⟨none, [], by simp, S4.imp fun F' _ l => ⟨by simpa using Rows.nil, l⟩⟩, ?_, ?_⟩
  · rintro i hh hi ⟨o, lvs, el, S5⟩
    refine ⟨_, _, _, S5, xa.mono S5.now.2, fun Rr kr v h6 hq1 S6 => ?_⟩
    obtain ⟨n, w, ek, ik⟩ := hq1
    clear S5 S4
    obtain ⟨tn, rfl⟩ := Value.isInt_shape (show v.isInt n = true from ik)
    obtain ⟨ra, g, tg, w', t, rfl, er, ea, ra5, rt⟩ := x3.at ek
    have hsz : t.size ≤ 60 := fit.sz _ (List.mem_of_getElem? er)
    walk_at "w"
    walk_at "s"
    intro h7 S7'
    clear S6
    have S7 := S7'.lo (m' := (Str.ofString "shelf", .ref s) :: (Str.ofString "table", .ref ta) :: (Str.ofString "number", .int n tn) :: gvT (o.map (·.2))) (by rcases o with _ | ⟨a, b, c⟩ <;> with_unfolding_all rfl)
    clear S7'
    refine X_unpack ?_
    walk_at "r"
    refine A_table S7.g (x1.mono S7.now.2) ?_
    walk_at "r"
    refine D_sub (knd := iK C) (k := n) ik (x2.mono S7.now.2) (valueAt_of_get x2.nodup ek) ?_
    refine A_two S7 R'.hd (ea.mono S7.now.2) rfl (by kernel_rfl) (by kernel_rfl) fun h8 S8 => ?_
    clear S7
    have S9 := S8.lo (m' := (Str.ofString "shelf", .ref s) :: (Str.ofString "table", .ref ta) :: scT (some (.int n tn, .int g tg, w'))) (by rcases o with _ | ⟨a, b, c⟩ <;> with_unfolding_all rfl)
    clear S8
    walk_at "r"
    refine ⟨S9.g, (cop_ok 120 S9.g R2 S9.now.2 rt hsz (by have := toldW_le t; exact om110 hsz this)).mono fun u h10 hq2 => ?_⟩
    obtain ⟨y, k10, z10⟩ := hq2
    have S10 := S9.keepx (Ψ := fun F' => Rep C (mix h.objs.size F F') u t) k10 fun F' l => y.mono (ext_mix hF S9.size l)
    clear S9
    walk_at "r"
    refine S_tuple S10 fun tb h11 nb tb5 S11 => ?_
    have nbh := Nat.le_trans S10.size nb
    clear S10
    walk_at "r"
    have hll : lvs.length ≤ 60 := by have := congrArg List.length el; simp only [List.length_map, List.length_take] at this; omega
    have hn : n ∉ lvs.map (·.1) := by rw [el]; exact nodup_take x2.nodup (by rw [List.getElem?_map, ek]; rfl)
    refine D_set (knd := iK C) (k := n) ik S11.at1 (by exact om54 hll) fun h12 k12 e12 => ?_
    have S12 := S11.put1 k12 e12
    clear S11
    rw [stored_new hn] at S12
    walk_at "r"
    refine ⟨_, _, by rw [List.map_append, el, List.take_add_one, List.getElem?_map, ek]; rfl, S12.imp fun F' _ ⟨f, y, r, l⟩ => ⟨?_, l⟩⟩
    rw [List.take_add_one, er]
    obtain ⟨o, e, p⟩ := f
    exact r.snoc ⟨o, mix_new nbh e, p⟩ tb5 y
  · rintro hh ⟨o, lvs, el, S5⟩
    refine ⟨_, _, _, S5, xa.mono S5.now.2, fun h6 S6 => ?_⟩
    clear S5 S4
    rw [← List.length_map (f := (·.1)), List.take_length] at el
    rw [hkl, List.take_length] at S6
    walk_at "r"
    refine A_trailer S6.g (x1.mono S6.now.2) ?_
    walk_at "r"
    refine ⟨S6.g, (cop_ok 120 S6.g R2 S6.now.2 (x5 ▸ Rep.dict x4 x6 x1.r5) (by have := fit.tz; exact this) (by have := toldW_le (.dict sh.ks sh.xs); have := fit.tz; omega)).mono fun u h7 hq3 => ?_⟩
    obtain ⟨y, k7, z7⟩ := hq3
    have S7 := S6.keepx (Ψ := fun F' => Rep C (mix h.objs.size F F') u (.dict sh.ks sh.xs)) k7 fun F' l => y.mono (ext_mix hF S6.size l)
    clear S6
    walk_at "r"
    have r7 := S7.here.1
    generalize hks : sh.ks = ks at r7
    cases r7 with
    | @dict d2 kvs2 xs2 e2 r2 d25 =>
    refine ⟨S7.g, (mkShelf S7.g R3 a5 d25).mono fun u h8 hq4 => ?_⟩
    obtain ⟨⟨s2, e, sa⟩, k8, z8⟩ := hq4
    subst e
    have S8 := S7.keepx (Ψ := fun F' => ShA C (mix h.objs.size F F') s2 ta d2) k8 fun F' l => sa.mono fun a o e => mix_new (Nat.le_trans S7.size (ge_some e).1) (l a o (nw_ext a o e))
    have lk := S8.φ (fz [ta] h8) (fun a o e => let ⟨n, e⟩ := fz_some e; fz_of (fun q => n (by rw [List.mem_singleton.mp q]; simp)) e)
    have lk2 : Le (fz (L :: ads [(ta, oD (iK C) lvs)]) h7) (fz [ta] h8) := fun a o e => let ⟨n, e⟩ := fz_some e; fz_of (fun q => n (by rw [List.mem_singleton.mp q]; simp)) (k8 a o e (by simp))
    exact (kq.go ⟨s2, ta, d2, lvs, rfl, nah, S8.at0, ⟨lk.1, lk.2.2.1, kvs2, e2.mono (mix_mono lk2), hks ▸ rfl, r2.mono (mix_mono lk2)⟩, S8.kb, S8.size⟩)
end
end
section
/-- the pen -/
noncomputable def oPen (a c : Int) : Obj → Prop := fun o => ∃ ta tc, oLw [.int a ta, .int c tc] o
theorem small_div {a b : Int} (h1 : 1 ≤ b) (h2 : b ≤ 8) : Builtin.divisionGoesByPylong a b = false := by
  obtain rfl | rfl | rfl | rfl | rfl | rfl | rfl | rfl : b = 1 ∨ b = 2 ∨ b = 3 ∨ b = 4 ∨ b = 5 ∨ b = 6 ∨ b = 7 ∨ b = 8 := by exact om121 h1 h2
  all_goals (unfold Builtin.divisionGoesByPylong; simp [show Nat.log2 1 = 0 by decide, show Nat.log2 2 = 1 by decide, show Nat.log2 3 = 1 by decide, show Nat.log2 4 = 2 by decide, show Nat.log2 5 = 2 by decide, show Nat.log2 6 = 2 by decide, show Nat.log2 7 = 2 by decide, show Nat.log2 8 = 3 by decide])
theorem small_mul {a : Int} (h0 : 0 ≤ a) (h1 : a < 1000000) : IntMulOk a a := IntMulOk.of_left (intBits_le_iff.mpr (Nat.lt_of_lt_of_le (show a.natAbs < 1000000 by omega) (by decide)))
theorem draw_ok {C : Cx} {A : Around} {h : Heap} {p : Addr} {a c many : Int} {tm : Tok} {k : Nat} (G : GF C h) (R : Rm A (k + 1)) (hp : At h.get? p (oPen a c)) (h5 : 503 ≤ p) (ha : 0 ≤ a) (hc : 0 ≤ c) (hc2 : c < 900000) (hm : 1 ≤ many) (hm2 : many ≤ 8) :
    W C A (call (.ref 480) [.ref p, .int many tm]) h (fun v h' => ∃ d t a', v = .int d t ∧ 0 ≤ d ∧ d < many ∧ 0 ≤ a' ∧ At h'.get? p (oPen a' (c + 1)) ∧ Kb [p] h h' ∧ h.objs.size ≤ h'.objs.size) := by
  obtain ⟨o, hp, ta, tc, hl⟩ := hp
  refine go (m := [(Str.ofString "many", .int many tm), (Str.ofString "pen", .ref p)]) (In.one (Φ := fun _ => True) G hp hl h5 fun _ _ => trivial) R rfl rfl (by kernel_rfl) (fun s e => BindsTo.of_eq rfl) rfl (by kernel_rfl) (by kernel_rfl) rfl rfl rfl fun A' L h1 R' S => ?_
  refine bodyK rfl fun Rq kq => ?_
  walk_at "r"
  refine O_subL (At.listw (S.at0)) (by decide) (by decide) rfl ?_
  walk_at "r"
  refine O_add fun t1 => ?_
  walk_at "r"
  refine O_setL (S.at0) (by decide) (by decide) (by simp) fun h2 k2 e2 => ?_
  have S2 := S.put0 (P' := oLw [.int a ta, .int (c + 1) t1]) k2 e2
  clear S
  walk_at "r"
  refine O_subL (At.listw (S2.at0)) (by decide) (by decide) rfl ?_
  walk_at "r"
  refine O_gt ?_
  walk_at "w"
  have hm0 : (many == 0) = false := by simp; exact om122 hm hm2
  constructor
  · intro c1
    have c1 : 0 < a := by simpa using c1
    walk_at "r"
    refine O_subL (At.listw (S2.at0)) (by decide) (by decide) rfl ?_
    walk_at "r"
    refine O_mod hm0 fun t2 => ?_
    walk_at "s"
    intro h3 S3
    clear S2
    walk_at "r"
    refine O_subL (At.listw (S3.at0)) (by decide) (by decide) rfl ?_
    walk_at "r"
    refine O_div hm0 (small_div hm hm2) fun t3 => ?_
    walk_at "r"
    refine O_setL (S3.at0) (by decide) (by decide) (by simp) fun h4 k4 e4 => ?_
    have S4 := S3.put0 (P' := oLw [.int (a.fdiv many) t3, .int (c + 1) t1]) k4 e4
    clear S3
    walk_at "r"
    refine ⟨_, _, a.fdiv many, rfl, ?_, ?_, ?_, ?_, S4.kb, S4.size⟩
    · rw [Int.fmod_eq_emod_of_nonneg _ (by exact om123 hm hm2)]; exact Int.emod_nonneg _ (by exact om124 hm hm2)
    · rw [Int.fmod_eq_emod_of_nonneg _ (by exact om123 hm hm2)]; exact Int.emod_lt_of_pos _ (by exact om125 hm hm2)
    · rw [Int.fdiv_eq_ediv_of_nonneg _ (by exact om123 hm hm2)]; exact Int.ediv_nonneg (by exact om126 c1) (by exact om123 hm hm2)
    · obtain ⟨o', z, z2⟩ := S4.at0; exact ⟨o', z, t3, t1, z2⟩
  · intro c1
    have c1 : a = 0 := by simp at c1; exact om127 ha c1
    walk_at "r"
    refine O_subL (At.listw (S2.at0)) (by decide) (by decide) rfl ?_
    walk_at "r"
    refine O_subL (At.listw (S2.at0)) (by decide) (by decide) rfl ?_
    refine O_mul (small_mul (by exact om128 hc hc2) (by exact om129 hc hc2)) fun t2 => ?_
    walk_at "r"
    refine O_add fun t3 => ?_
    walk_at "r"
    refine O_mod hm0 fun t4 => ?_
    refine (kq.go ⟨_, _, a, rfl, ?_, ?_, ha, ?_, S2.kb, S2.size⟩)
    · rw [Int.fmod_eq_emod_of_nonneg _ (by exact om123 hm hm2)]; exact Int.emod_nonneg _ (by exact om124 hm hm2)
    · rw [Int.fmod_eq_emod_of_nonneg _ (by exact om123 hm hm2)]; exact Int.emod_lt_of_pos _ (by exact om125 hm hm2)
    · obtain ⟨o', z, z2⟩ := S2.at0; exact ⟨o', z, ta, t1, z2⟩
section
variable {C : Cx} {A : Around} {h h₀ : Heap} {k : Nat} {M : List Addr} {L : Addr} {m : Loc} {σ : Led} {Φ : Fz → Prop} {p : Addr} {a c many : Int} {tm : Tok} {P : Value → Heap → Prop}
theorem draw0 (S : St C h₀ M L m ((p, oPen a c) :: σ) Φ h) (R : Rm A (k + 1)) (h5 : 503 ≤ p) (ha : 0 ≤ a) (hc : 0 ≤ c) (hc2 : c < 900000) (hm : 1 ≤ many) (hm2 : many ≤ 8)
    (y : ∀ dg t a' h', 0 ≤ dg → dg < many → 0 ≤ a' → St C h₀ M L m ((p, oPen a' (c + 1)) :: σ) Φ h' → h.objs.size ≤ h'.objs.size → P (.int dg t) h') : W C A (call (.ref 480) [.ref p, .int many tm]) h P :=
  (draw_ok S.g R S.at0 h5 ha hc hc2 hm hm2).mono fun v h' ⟨dg, t, a', e, h1, h2, h3, h4, k, hs⟩ => e ▸ y dg t a' h' h1 h2 h3 (S.put0 k h4) hs
theorem draw2 {x0 x1 : Addr × (Obj → Prop)} (S : St C h₀ M L m (x0 :: x1 :: (p, oPen a c) :: σ) Φ h) (R : Rm A (k + 1)) (h5 : 503 ≤ p) (ha : 0 ≤ a) (hc : 0 ≤ c) (hc2 : c < 900000) (hm : 1 ≤ many) (hm2 : many ≤ 8)
    (y : ∀ dg t a' h', 0 ≤ dg → dg < many → 0 ≤ a' → St C h₀ M L m (x0 :: x1 :: (p, oPen a' (c + 1)) :: σ) Φ h' → h.objs.size ≤ h'.objs.size → P (.int dg t) h') : W C A (call (.ref 480) [.ref p, .int many tm]) h P :=
  (draw_ok S.g R S.at2 h5 ha hc hc2 hm hm2).mono fun v h' ⟨dg, t, a', e, h1, h2, h3, h4, k, hs⟩ => e ▸ y dg t a' h' h1 h2 h3 (S.put2 k h4) hs
theorem draw3 {x0 x1 x2 : Addr × (Obj → Prop)} (S : St C h₀ M L m (x0 :: x1 :: x2 :: (p, oPen a c) :: σ) Φ h) (R : Rm A (k + 1)) (h5 : 503 ≤ p) (ha : 0 ≤ a) (hc : 0 ≤ c) (hc2 : c < 900000) (hm : 1 ≤ many) (hm2 : many ≤ 8)
    (y : ∀ dg t a' h', 0 ≤ dg → dg < many → 0 ≤ a' → St C h₀ M L m (x0 :: x1 :: x2 :: (p, oPen a' (c + 1)) :: σ) Φ h' → h.objs.size ≤ h'.objs.size → P (.int dg t) h') : W C A (call (.ref 480) [.ref p, .int many tm]) h P :=
  (draw_ok S.g R S.at3 h5 ha hc hc2 hm hm2).mono fun v h' ⟨dg, t, a', e, h1, h2, h3, h4, k, hs⟩ => e ▸ y dg t a' h' h1 h2 h3 (S.put3 k h4) hs
theorem draw4 {x0 x1 x2 x3 : Addr × (Obj → Prop)} (S : St C h₀ M L m (x0 :: x1 :: x2 :: x3 :: (p, oPen a c) :: σ) Φ h) (R : Rm A (k + 1)) (h5 : 503 ≤ p) (ha : 0 ≤ a) (hc : 0 ≤ c) (hc2 : c < 900000) (hm : 1 ≤ many) (hm2 : many ≤ 8)
    (y : ∀ dg t a' h', 0 ≤ dg → dg < many → 0 ≤ a' → St C h₀ M L m (x0 :: x1 :: x2 :: x3 :: (p, oPen a' (c + 1)) :: σ) Φ h' → h.objs.size ≤ h'.objs.size → P (.int dg t) h') : W C A (call (.ref 480) [.ref p, .int many tm]) h P :=
  (draw_ok S.g R S.at4 h5 ha hc hc2 hm hm2).mono fun v h' ⟨dg, t, a', e, h1, h2, h3, h4, k, hs⟩ => e ▸ y dg t a' h' h1 h2 h3 (S.put4 k h4) hs
end
end
section
variable {C : Cx} {A : Around} {h h₀ : Heap} {k : Nat} {M : List Addr} {L : Addr} {m : Loc} {σ : Led} {Φ : Fz → Prop} {p : Addr} {a c many : Int} {tm : Tok} {P : Value → Heap → Prop}
/-- a dict's values, one stored -/
noncomputable def storeT (ks : List Str) (ts : List T) (k : Str) (t : T) : List T := if k ∈ ks then (ks.zip ts).map (fun q => if q.1 = k then t else q.2) else ts ++ [t]
theorem storeT_rep {F : Fz} {k : Str} {v : Value} {t : T} (y : Rep C F v t) : ∀ {kvs : List (Str × Value)} {ts : List T}, Reps C F (kvs.map (·.2)) ts → Reps C F ((stored kvs k v).map (·.2)) (storeT (kvs.map (·.1)) ts k t) := by
  intro kvs ts x
  have key : ∀ (kvs : List (Str × Value)) (ts : List T), Reps C F (kvs.map (·.2)) ts → Reps C F ((kvs.map fun kv => if kv.1 = k then (kv.1, v) else kv).map (·.2)) (((kvs.map (·.1)).zip ts).map fun q => if q.1 = k then t else q.2) := by
    intro kvs
    induction kvs with
    | nil => intro ts x; cases x; exact .nil
    | cons kv r ih =>
      intro ts x
      cases x with
      | cons a b =>
        simp only [List.map_cons, List.zip_cons_cons]
        refine .cons ?_ (ih _ b)
        by_cases e : kv.1 = k
        · rw [if_pos e, if_pos e]; exact y
        · rw [if_neg e, if_neg e]; exact a
  unfold stored storeT
  by_cases e : k ∈ kvs.map (·.1)
  · rw [if_pos e, if_pos (by
      obtain ⟨q, hq, rfl⟩ := List.mem_map.mp e
      exact List.any_eq_true.mpr ⟨q, hq, by simp⟩)]
    exact key kvs ts x
  · rw [if_neg e, if_neg (by
      intro q
      obtain ⟨kv, hq, e2⟩ := List.any_eq_true.mp q
      exact e (of_decide_eq_true e2 ▸ List.mem_map_of_mem (f := (·.1)) hq)), List.map_append]
    exact x.append (.cons y .nil)
theorem storeT_size {k : Str} {t : T} : ∀ {ks : List Str} {ts : List T}, ks.Nodup → sizes (storeT ks ts k t) ≤ sizes ts + t.size := by
  intro ks ts n
  unfold storeT
  split
  · rename_i hk
    clear hk
    have none' : ∀ (ks : List Str) (ts : List T), k ∉ ks → sizes ((ks.zip ts).map fun q => if q.1 = k then t else q.2) ≤ sizes ts := by
      intro ks
      induction ks with
      | nil => intro ts _; simp [sizes]
      | cons a r ih =>
        intro ts h
        cases ts with
        | nil => simp [sizes]
        | cons b u =>
          have h1 : ¬ a = k := fun e => h (e ▸ .head _)
          simp only [List.zip_cons_cons, List.map_cons, sizes, if_neg h1]
          have := ih u fun q => h (.tail _ q)
          exact om86 this
    induction ks generalizing ts with
    | nil => simp [sizes]
    | cons a r ih =>
      cases ts with
      | nil => simp [sizes]
      | cons b u =>
        obtain ⟨n1, n2⟩ := List.nodup_cons.mp n
        simp only [List.zip_cons_cons, List.map_cons, sizes]
        by_cases e : a = k
        · rw [if_pos e]
          have := none' r u (e ▸ n1)
          exact om130 this
        · rw [if_neg e]
          have := @ih u n2
          exact om131 this
  · rw [sizes_append]; simp [sizes]
noncomputable def cost : Nat → Int
  | 0 => 8
  | d + 1 => 8 * cost d
theorem cost_ge : ∀ d, 8 ≤ cost d
  | 0 => by decide
  | d + 1 => by have := cost_ge d; simp only [cost]; exact om132 this
noncomputable def wide : Nat → Nat
  | 0 => 1
  | d + 1 => 1 + 3 * wide d
theorem wide_ge : ∀ d, 1 ≤ wide d
  | 0 => by decide
  | d + 1 => by simp only [wide]; exact om133
/-- what a drawn value is -/
noncomputable def VPost (C : Cx) (h : Heap) (p : Addr) (c : Int) (d : Nat) : Value → Heap → Prop := fun v h' => ∃ t a' c', Rep C (nw h h') v t ∧ t.size ≤ wide d ∧ 0 ≤ a' ∧ c ≤ c' ∧ c' ≤ c + cost d ∧ At h'.get? p (oPen a' c') ∧ Kb [p] h h' ∧ h.objs.size ≤ h'.objs.size
theorem value_step (d : Nat) (hw : wide d ≤ 1000) (ih : ∀ d', d = d' + 1 → wide d' ≤ 1000 → ∀ {A : Around} {h : Heap} {p : Addr} {a c : Int} {td : Tok} {k : Nat}, GF C h → Rm A (k + 4 * d' + 6) → At h.get? p (oPen a c) → 503 ≤ p → 0 ≤ a → 0 ≤ c → c + cost d' ≤ 800000 →
    W C A (call (.ref 485) [.ref p, .int d' td]) h (VPost C h p c d')) {A : Around} {h : Heap} {p : Addr} {a c : Int} {td : Tok} {k : Nat} (G : GF C h) (R : Rm A (k + 4 * d + 6)) (hp : At h.get? p (oPen a c)) (hp5 : 503 ≤ p) (ha : 0 ≤ a) (hc : 0 ≤ c) (hc2 : c + cost d ≤ 800000) :
    W C A (call (.ref 485) [.ref p, .int d td]) h (VPost C h p c d) := by
  obtain ⟨o, hp, po⟩ := hp
  refine go2 (k := k + 4 * d + 5) (m := []) (v1 := some (.ref p)) (v2 := some (.int (d : Int) td)) (x1 := Str.ofString "pen") (x2 := Str.ofString "deep") (In.one (Φ := fun _ => True) G hp po hp5 fun _ _ => trivial) R rfl rfl (by kernel_rfl) (fun s e => BindsTo.of_eq rfl) (by kernel_rfl) (fun n => rfl) (by kernel_rfl) (fun L => rfl) (fun L => rfl) (fun L => rfl) rfl rfl rfl fun A' L h1 cp cd R' S => ?_
  have R1 : Rm A' (0 + 1) := R'.le (by exact om134)
  have R2 : Rm A' (0 + 2) := R'.le (by exact om135)
  have cg := cost_ge d
  have wg := wide_ge d
  refine bodyK rfl fun Rq kq => ?_
  walk_at "w"
  walk_at "w"
  walk_at "n"
  walk_at "c"
  walk_at "w"
  walk_at "n"
  walk_at "w"
  refine W.mono (P := fun v h' => h' = h1 ∧ ∃ t, v = .int (if 0 < d then 8 else 5) t) ?_ ?_
  · walk_at "r"
    refine O_gt ?_
    walk_at "r"
    refine ⟨fun c1 => ?_, fun c1 => ?_⟩
    · walk_at "r"
      exact ⟨rfl, _, by rw [if_pos (by simpa using c1)]⟩
    · walk_at "r"
      exact ⟨rfl, _, by rw [if_neg (by simpa using c1)]⟩
  rintro v h' ⟨rfl, t0, rfl⟩
  walk_at "r"
  refine ⟨S.g, draw2 S R1 hp5 ha hc (by exact om136 hc2 cg) (by split <;> omega) (by split <;> omega) fun way tw a1 h2 w0 w1 ha1 S2 _ => ?_⟩
  clear S
  walk_at "s"
  intro h3 S3
  clear S2
  have l3 := S3.size
  walk_at "r"
  refine O_lt ?_
  walk_at "r"
  refine ⟨fun c1 => ?_, fun c1 => ?_⟩
  · walk_at "r"
    refine ⟨S3.g, draw2 S3 R1 hp5 ha1 (by exact om137 hc) (by exact om138 hc2 cg) (by decide) (by decide) fun d1 t1 a2 h4 d10 d11 ha2 S4 _ => ?_⟩
    clear S3
    refine O_add fun t2 => ?_
    walk_at "r"
    refine ⟨S4.g, draw2 S4 R1 hp5 ha2 (by exact om139 hc) (by exact om140 hc2 cg) (by decide) (by decide) fun d2 t3 a3 h5 d20 d21 ha3 S5 _ => ?_⟩
    clear S4
    walk_at "r"
    refine O_div (by decide) (small_div (by decide) (by decide)) fun t4 => ?_
    walk_at "r"
    refine ⟨S5.g, (mkRef (p := (1 + d1, d2.fdiv 5)) S5.g R2).mono fun v h6 hq1 => ?_⟩
    obtain ⟨rp, k6, z6⟩ := hq1
    have S6 := S5.keep k6
    exact (kq.go ⟨_, a3, c + 1 + 1 + 1, rp.mono (ge_mono Le.refl S5.size), wg, ha3, by exact om141, by exact om142 cg, S6.at2, S6.kb, S6.size⟩)
  · walk_at "r"
    refine O_eq ?_
    walk_at "r"
    refine ⟨fun c2 => ?_, fun c2 => ?_⟩
    · walk_at "r"
      refine ⟨S3.g, draw2 S3 R1 hp5 ha1 (by exact om137 hc) (by exact om138 hc2 cg) (by decide) (by decide) fun d1 t1 a2 h4 d10 d11 ha2 S4 _ => ?_⟩
      exact (kq.go ⟨.int d1, a2, c + 1 + 1, .int _ _, wg, ha2, by exact om143, by exact om144 cg, S4.at2, S4.kb, S4.size⟩)
    · walk_at "r"
      refine O_eq ?_
      walk_at "r"
      refine ⟨fun c3 => ?_, fun c3 => ?_⟩
      · walk_at "r"
        rename_i x1' x2'
        refine S_tuple S3 fun tt h4 n4 t5 S4 => ?_
        clear S3
        walk_at "r"
        refine ⟨S4.g, draw2 S4 R1 hp5 ha1 (by exact om137 hc) (by exact om138 hc2 cg) (by decide) (by decide) fun d1 t1 a2 h5 d10 d11 ha2 S5 _ => ?_⟩
        clear S4
        have hx : ∃ s ts, ([Value.str (Str.ofString "M") x1', Value.str (Str.ofString "N") x2'] : List Value)[d1.toNat]? = some (.str s ts) := by
          obtain rfl | rfl : d1 = 0 ∨ d1 = 1 := by exact om145 d10 d11
          · exact ⟨_, _, rfl⟩
          · exact ⟨_, _, rfl⟩
        obtain ⟨s, ts, hx⟩ := hx
        refine O_subT S5.now.1 d10 (by exact om146 d10 d11) hx ?_
        walk_at "r"
        refine ⟨S5.g, (mkName S5.g R2).mono fun v h6 hq2 => ?_⟩
        obtain ⟨rp, k6, z6⟩ := hq2
        have S6 := S5.keep k6
        exact (kq.go ⟨_, a2, c + 1 + 1, rp.mono (ge_mono Le.refl S5.size), wg, ha2, by exact om143, by exact om144 cg, S6.at2, S6.kb, S6.size⟩)
      · walk_at "r"
        refine O_eq ?_
        walk_at "r"
        have hd : ∃ d', d = d' + 1 := by
          have : 0 < d := by
            rcases Nat.eq_zero_or_pos d with h0 | h0
            · exfalso; subst h0; simp at c1 c2 c3 w1; exact om147 c1 c2 c3 w1
            · exact h0
          exact ⟨d - 1, by exact om148 this⟩
        obtain ⟨d', rfl⟩ := hd
        have cg' := cost_ge d'
        have ec : cost (d' + 1) = 8 * cost d' := rfl
        have ew : wide (d' + 1) = 1 + 3 * wide d' := rfl
        have ih := @ih d' rfl (by exact om149 hw wg ew)
        refine ⟨fun c4 => ?_, fun c4 => ?_⟩
        · walk_at "r"
          refine E_comp (h₀ := h) (M := ads [(p, oPen a c)]) (L := L) (cl := [(Str.ofString "pen", cp), (Str.ofString "deep", cd)]) ?_ (by with_unfolding_all rfl) (by kernel_rfl) rfl (by kernel_rfl)
          walk_at "r"
          refine ⟨S3.g, draw2 S3 R1 hp5 ha1 (by exact om137 hc) (by exact om150 hc2 cg' ec) (by decide) (by decide) fun n t1 a2 h4 n0 n1 ha2 S4 _ => ?_⟩
          clear S3
          walk_at "r"
          refine C_range1 S4 fun r h5 S5 => ?_
          clear S4
          obtain ⟨n, rfl⟩ := Int.eq_ofNat_of_zero_le n0
          refine S_range S5 n (by exact om151) (by decide) (by exact om152 n0 n1) fun I h6 _ S6 => ?_
          have S7 := S6.imp (Ψ := fun F => Reps C (ge h.objs.size F) [] []) fun F l _ => .nil
          clear S5 S6
          have l6 := S7.size
          refine ⟨I, n, _, _, _, _, _, _, fun D Cc i acc hh => ∃ a' c' ts m', St C h6 [L, I, cd, cp, p] Cc m' ((D, oL acc) :: (I, oRI 0 n i) :: (L, oNs (upd [] (Str.ofString "way") (.int way tw))) :: (cd, oCell (some (Value.int (↑(d' + 1)) td))) :: (cp, oCell (some (Value.ref p))) :: (p, oPen a' c') :: []) (fun F => Reps C (ge h.objs.size F) acc ts) hh ∧ 0 ≤ a' ∧ c + 2 ≤ c' ∧ c' ≤ c + 2 + (i : Int) * cost d' ∧ ts.length ≤ i ∧ sizes ts ≤ i * wide d', rfl, Itr.range, R'.hd, fun _ _ _ => trivial, S7, ?_, ?_, ?_⟩
          · intro D Cc hh hD S8
            exact ⟨a2, c + 1 + 1, [], [], S8, ha2, by exact om153, by simp; exact om154, by simp, by simp [sizes]⟩
          · intro D Cc hD
            refine ⟨fun i acc hh hi ⟨a', c', ts, m', S8, ha', hc', hc'', hts, hsz⟩ => ⟨m', _, _, S8, trivial, fun v h9 pv S9 => ?_⟩⟩
            clear S8
            walk_at "w"
            walk_at "s"
            intro h10 S10
            clear S9
            refine ts_nil ⟨fun q => Bool.noConfusion q, fun _ => ?_⟩
            walk_at "r"
            refine O_sub fun t9 => ?_
            walk_at "r"
            have e1 : ((d' + 1 : Nat) : Int) - 1 = (d' : Int) := by omega
            rw [e1]
            have i3 : (i : Int) * cost d' + cost d' ≤ 3 * cost d' := by
              have : ((i : Int) + 1) * cost d' ≤ 3 * cost d' := Int.mul_le_mul_of_nonneg_right (by omega) (by omega)
              rw [Int.add_mul, Int.one_mul] at this; exact this
            refine ⟨S10.g, (ih (k := k) S10.g (R'.le (by omega)) S10.at5 hp5 ha' (by omega) (by omega)).mono fun v2 h11 hq3 => ?_⟩
            obtain ⟨t, a3, c3, rp, sz, ha3, hc3, hc3', pen3, k3, z3⟩ := hq3
            have lt := S10.lt
            have s10 := S10.size
            have S11 := (S10.put5 k3 pen3).add (Ψ := fun F => Rep C (ge h.objs.size F) v2 t) fun F l => rp.mono (fresh_le l lt (by omega))
            clear S10
            refine ⟨_, _, _, S11, by have e5 := Reps.length S11.now.2; omega, fun h12 S12 => ⟨a3, c3, ts ++ [t], _, S12.imp fun F l x => x.2.snoc x.1, ha3, by omega, ?_, ?_, ?_⟩⟩
            · push_cast; rw [Int.add_mul, Int.one_mul]; omega
            · simp; omega
            · rw [sizes_append]; simp [sizes]; rw [Nat.add_mul, Nat.one_mul]; omega
          · intro D Cc acc hh hD ⟨a', c', ts, m', S8, ha', hc', hc'', hts, hsz⟩
            refine ⟨m', (cd, oCell _) :: (cp, oCell _) :: (p, oPen a' c') :: [], _, rfl, S8, trivial, fun h9 S9 => ?_⟩
            have S10 := S9.freeze (Ψ := fun F => Rep C (ge h.objs.size F) (.ref D) (.array ts)) fun F o po _ e x => .array ⟨o, ge_of (by exact om155 l6 hD) e, po⟩ x (Nat.le_trans S9.s5 (by exact om155 l6 hD))
            have l10 := Reps.length S9.now
            have i3 : (n : Int) * cost d' ≤ 2 * cost d' := Int.mul_le_mul_of_nonneg_right (by exact om156 n0 n1) (by exact om157 cg')
            have i4 : n * wide d' ≤ 2 * wide d' := Nat.mul_le_mul_right _ (by exact om158 n0 n1)
            exact (kq.go ⟨.array ts, a', c', S10.now, by simp only [T.size]; exact om159 ew hsz i4, ha', by exact om160 hc', by exact om161 cg' ec hc' hc'' i3, S10.at2, S10.kb, S10.size⟩)
        · walk_at "r"
          refine S_dict S3 (oD_new (sK C)) fun hd h4 n4 hd5 S4 => ?_
          clear S3
          walk_at "s"
          intro h5 S5
          clear S4
          refine X_forI (h₀ := h) (M := ads [(p, oPen a c)]) (L := L) ?_
          walk_at "r"
          refine ⟨S5.g, draw3 S5 R1 hp5 ha1 (by exact om137 hc) (by exact om150 hc2 cg' ec) (by decide) (by decide) fun n t1 a2 h6 n0 n1 ha2 S6 _ => ?_⟩
          clear S5
          walk_at "r"
          refine C_range1 S6 fun r h7 S7 => ?_
          clear S6
          obtain ⟨n, rfl⟩ := Int.eq_ofNat_of_zero_le n0
          refine S_range S7 n (by exact om151) (by decide) (by exact om162 n0 n1) fun I h8 _ S8 => ?_
          have S9 := S8.imp (Ψ := fun F => Reps C (ge h.objs.size F) [] []) fun F l _ => .nil
          clear S7 S8
          refine ⟨I, n, _, oRI 0 n, _, fun i hh => ∃ (o : Option Value) (a' c' : Int) (kvs : List (Str × Value)) (ts : List T), St C h [p] L ([(Str.ofString "way", .int way tw), (Str.ofString "head", .ref hd)] ++ (o.map fun v => (Str.ofString "turn", v)).toList) ((I, oRI 0 n i) :: (hd, oD (sK C) kvs) :: (cd, oCell (some (Value.int (↑(d' + 1)) td))) :: (cp, oCell (some (Value.ref p))) :: (p, oPen a' c') :: []) (fun F => Reps C (ge h.objs.size F) (kvs.map (·.2)) ts) hh ∧ 0 ≤ a' ∧ c + 2 ≤ c' ∧ c' ≤ c + 2 + (i : Int) * (cost d' + 1) ∧ sizes ts ≤ i * wide d', rfl, Itr.range, R'.hd, ?_, ?_, ?_⟩
          · exact ⟨none, a2, c + 1 + 1, [], [], S9, ha2, by exact om153, by simp; exact om154, by simp [sizes]⟩
          · rintro i hh hi ⟨o, a', c', kvs, ts, S10, ha', hc', hc'', hsz⟩
            refine ⟨_, _, _, S10, trivial, fun Rr kr v h11 pv S11 => ?_⟩
            clear S10 S9
            walk_at "w"
            walk_at "s"
            intro h12 S12
            have S13 := S12.lo (m' := [(Str.ofString "way", .int way tw), (Str.ofString "head", .ref hd), (Str.ofString "turn", v)]) (by cases o <;> kernel_rfl)
            clear S12 S11
            walk_at "r"
            refine O_sub fun t9 => ?_
            walk_at "r"
            have e1 : ((d' + 1 : Nat) : Int) - 1 = (d' : Int) := by exact om163
            rw [e1]
            have i3 : (i : Int) * (cost d' + 1) + (cost d' + 1) ≤ 4 * (cost d' + 1) := by
              have : ((i : Int) + 1) * (cost d' + 1) ≤ 4 * (cost d' + 1) := Int.mul_le_mul_of_nonneg_right (by exact om164 n0 n1 hi) (by exact om165 cg')
              rw [Int.add_mul, Int.one_mul] at this; exact this
            refine ⟨S13.g, (ih (k := k) S13.g (R'.le (by exact om166)) S13.at4 hp5 ha' (by exact om167 hc hc') (by exact om168 hc hc2 cg' ec hc' hc'' i3)).mono fun v2 h14 hq4 => ?_⟩
            obtain ⟨t, a3, c3, rp, sz, ha3, hc3, hc3', pen3, k3, z3⟩ := hq4
            have lt := S13.lt
            have s13 := S13.size
            have S14 := (S13.put4 k3 pen3).add (Ψ := fun F => Rep C (ge h.objs.size F) v2 t) fun F l => rp.mono (fresh_le l lt (by exact om169 s13))
            clear S13
            walk_at "r"
            rename_i xA xB xC
            refine S_tuple S14 fun tt h15 n15 t15 S15 => ?_
            clear S14
            walk_at "r"
            refine ⟨S15.g, draw4 S15 R1 hp5 ha3 (by exact om170 hc hc' hc3) (by exact om171 hc2 ec hc'' i3 hc3 hc3') (by decide) (by decide) fun d1 t16 a4 h16 d10 d11 ha4 S16 _ => ?_⟩
            clear S15
            have hx : ∃ s ts, ([Value.str (Str.ofString "B") xA, Value.str (Str.ofString "A") xB, Value.str (Str.ofString "C") xC] : List Value)[d1.toNat]? = some (.str s ts) := by
              obtain rfl | rfl | rfl : d1 = 0 ∨ d1 = 1 ∨ d1 = 2 := by exact om172 d10 d11
              · exact ⟨_, _, rfl⟩
              · exact ⟨_, _, rfl⟩
              · exact ⟨_, _, rfl⟩
            obtain ⟨s, tks, hx⟩ := hx
            refine O_subT S16.now.1 d10 (by exact om173 d10 d11) hx ?_
            have nd := At.nodup (F := h16.get?) S16.at1
            have l10 := Reps.length S16.now.2.2
            have l11 := length_le_sizes ts
            have i4 : i * wide d' + wide d' ≤ 4 * wide d' := by
              have : (i + 1) * wide d' ≤ 4 * wide d' := Nat.mul_le_mul_right _ (by exact om174 n0 n1 hi)
              rw [Nat.add_mul, Nat.one_mul] at this; exact this
            refine D_set (knd := sK C) (k := s) (by simp [PySem.strKind, Value.isStrOf]) S16.at1 (by rw [List.length_map] at l10; exact om175 hw wg ew hsz l10 l11 i4) fun h17 k17 e17 => ?_
            have S17 := (S16.imp (Ψ := fun F => Reps C (ge h.objs.size F) ((stored kvs s v2).map (·.2)) (storeT (kvs.map (·.1)) ts s t)) fun F l x => storeT_rep x.2.1 x.2.2).put1 k17 e17
            clear S16
            walk_at "r"
            have := storeT_size (k := s) (t := t) (ts := ts) nd
            refine ⟨some v, a4, c3 + 1, stored kvs s v2, _, S17, ha4, by exact om176 hc' hc3, ?_, ?_⟩
            · push_cast; rw [Int.add_mul, Int.one_mul]; exact om177 hc'' hc3'
            · rw [Nat.add_mul, Nat.one_mul]; exact om178 hsz sz this
          · rintro hh ⟨o, a', c', kvs, ts, S10, ha', hc', hc'', hsz⟩
            refine ⟨_, _, _, S10, trivial, fun h11 S11 => ?_⟩
            clear S10 S9
            walk_at "r"
            refine O_eq ?_
            walk_at "r"
            have l10 := length_le_sizes ts
            have i3 : (n : Int) * (cost d' + 1) ≤ 3 * (cost d' + 1) := Int.mul_le_mul_of_nonneg_right (by exact om179 n0 n1) (by exact om165 cg')
            have i4 : n * wide d' ≤ 3 * wide d' := Nat.mul_le_mul_right _ (by exact om180 n0 n1)
            refine ⟨fun c5 => ?_, fun c5 => ?_⟩
            · walk_at "r"
              have s11 := S11.size
              have S12 := S11.freeze (Ψ := fun F => Rep C (ge h.objs.size F) (.ref hd) (.dict (kvs.map (·.1)) ts)) fun F o po _ e x => .dict ⟨o, ge_of (by exact om155 l3 n4) e, po⟩ x hd5
              exact ⟨.dict _ ts, a', c', S12.now, by simp only [T.size]; exact om181 ew hsz i4, ha', by exact om160 hc', by exact om182 hc hc2 cg' ec hc' hc'' i3, S12.at2, S12.kb, S12.size⟩
            · walk_at "r"
              refine ⟨S11.g, draw3 S11 R1 hp5 ha' (by exact om167 hc hc') (by exact om183 hc2 ec hc' hc'' i3) (by decide) (by decide) fun d1 t12 a4 h12 d10 d11 ha4 S12 _ => ?_⟩
              walk_at "r"
              refine S_listF S12 fun lb h13 n13 l13 S13 => ?_
              walk_at "r"
              refine C_bytes1 R'.hd S13.now.1 d10 (by exact om184 d10 d11) fun h14 u14 k14 => ?_
              have S14 := S13.keep k14
              walk_at "r"
              have s14 := S14.size
              have s11 := S11.size
              obtain ⟨oh, eh, ph⟩ := S14.at0
              refine ⟨S14.g, (mkStream (F := ge h.objs.size h14.get?) (kvs := kvs) (xs := ts) S14.g R2 ge_le ⟨oh, ge_of (by exact om155 l3 n4) eh, ph⟩ S14.now.2 hd5).mono fun v h15 hq5 => ?_⟩
              obtain ⟨rp, k15, z15⟩ := hq5
              have S15 := S14.keep k15
              refine (kq.go ⟨_, a4, c' + 1, rp.mono fun x ox ex => ?_, by simp only [T.size]; exact om181 ew hsz i4, ha4, by exact om185 hc', by exact om186 hc hc2 cg' ec hc' hc'' i3, S15.at3, S15.kb, S15.size⟩)
              unfold ext at ex
              split at ex
              · exact ge_of (ge_some ex).1 (k15 x ox (ge_some ex).2 (by simp))
              · rename_i nx; exact ge_of (Nat.le_trans s14 (Nat.not_lt.mp nx)) ex
theorem value_ok : ∀ (d : Nat), wide d ≤ 1000 → ∀ {A : Around} {h : Heap} {p : Addr} {a c : Int} {td : Tok} {k : Nat}, GF C h → Rm A (k + 4 * d + 6) → At h.get? p (oPen a c) → 503 ≤ p → 0 ≤ a → 0 ≤ c → c + cost d ≤ 800000 →
    W C A (call (.ref 485) [.ref p, .int d td]) h (VPost C h p c d) := by
  intro d
  induction d with
  | zero => exact fun hw A h p a c td k G R hp h5 ha hc hc2 => value_step 0 hw (fun d' e => by omega) G R hp h5 ha hc hc2
  | succ d ih => exact fun hw A h p a c td k G R hp h5 ha hc hc2 => value_step (d + 1) hw (fun d' e => (show d = d' by exact om187 e) ▸ ih) G R hp h5 ha hc hc2
end
section
section
variable {C : Cx} {A : Around} {h h₀ : Heap} {F : Fz} {k : Nat} {env : Env}
theorem E_sliceTo {v e : Expr} {p pos : Pos} {P : Value → Heap → Prop} (x : W C A (eval v env) h (fun o h1 => W C A (eval e env) h1 (fun hi h2 => ∃ l vs z t, o = .ref l ∧ hi = .int z t ∧ At h2.get? l (oLw vs) ∧ vs.length ≤ 1000 ∧ P (.ref (h2.objs.size + 1)) ((h2.push { cls := .type "slice", data := .fields #[.none, .int z t, .none] }).push { cls := .type "list", data := .seq (slicePick vs.toArray none (some z) none) }))))
    (hs : ∀ a b, subscripted (.Slice none (some e) none p) false (.ref a) (.ref b) = operate [.ref b, .ref a] (getItem (.ref a) (.ref b)) := by intro _ _; with_unfolding_all rfl)
    (ht : ∀ a r, letTemporaryGo v (.ref a) r = pure () := by intro _ _; with_unfolding_all rfl) : W C A (eval (.Subscript v (.Slice none (some e) none p) pos) env) h P := E_sub <| x.mono fun o h1 x => W.mk fun s tk => by
  refine wpAny_Slice (wpAny_pure (s := st s h1 tk) ?_)
  show wpAny _ A (eval e env) _ _ _
  refine x.run fun hi h2 t2 y => ?_
  obtain ⟨l, vs, z, t, rfl, rfl, el, hz, y⟩ := y
  refine wpAny_pure ⟨_, t2, rfl, W.mk fun s t3 => ?_⟩
  exact slice_listK (s := st s h2 t3) el.listw .none (.int _ _) ⟨_, t3, rfl, y⟩ (hs _ _) (ht _) (by rw [List.size_toArray]; exact Nat.le_trans hz (by decide))
noncomputable abbrev clT : Option Value → Loc
  | none => []
  | some v => [(Str.ofString "cell", v)]
theorem pen_ok {l : Addr} {vs : List Value} {ns : List Int} (G : GF C h) (R : Rm A (k + 1)) (hF : Le F h.get?) (e : At F l (oLw vs)) (hi : IntsAre vs ns) (hz : vs.length ≤ 1000) :
    W C A (call (.ref 473) [.ref l]) h (fun u h' => ∃ p a, u = .ref p ∧ 503 ≤ p ∧ h.objs.size ≤ p ∧ 0 ≤ a ∧ At h'.get? p (oPen a 0) ∧ Kb [] h h' ∧ h.objs.size ≤ h'.objs.size) := by
  refine go (m := [(Str.ofString "script", .ref l)]) (In.nil (Φ := fun F' => Le F F') G fun F' l => hF.trans (by rw [fz_nil] at l; exact l)) R rfl rfl (by kernel_rfl) (fun s e => BindsTo.of_eq rfl) rfl (by kernel_rfl) (by kernel_rfl) rfl rfl rfl fun A' L h1 R' S => ?_
  refine bodyK rfl fun Rq kq => ?_
  walk_at "r"
  rename_i t0
  walk_at "s"
  intro h2 S2
  clear S
  refine X_forI (h₀ := h) (M := []) (L := L) ?_
  refine E_sliceTo ?_
  walk_at "r"
  rename_i t24
  refine ⟨l, vs, 24, t24, rfl, rfl, e.mono S2.now, hz, ?_⟩
  have hp := hi.pick none (some 24) none
  generalize hws : slicePick vs.toArray none (some 24) none = ws at hp
  have S3 := S2.keep (kb_push (M := []) h2 { cls := .type "slice", data := .fields #[.none, .int 24 t24, .none] })
  clear S2
  have e3 : ∀ F : Fz, F (h2.push { cls := .type "slice", data := .fields #[.none, .int 24 t24, .none] }).objs.size = some { cls := .type "list", data := .seq ws } → At F (h2.objs.size + 1) (oL ws.toList) := fun F e => ⟨_, by rw [Heap.size_push] at e; exact e, 0, by simp [lstOf, W.listOf]⟩
  have S4 := S3.pushF { cls := .type "list", data := .seq ws } (Ψ := fun F => At F (h2.objs.size + 1) (oL ws.toList)) e3
  clear S3
  refine I_list S4 S4.now.1 fun I h5 nI ne S5 => ?_
  clear S4
  refine ⟨I, _, _, oLI _, _, fun i hh => ∃ (o : Option Value) (a : Int) (ta : Tok), 0 ≤ a ∧ St C h [] L ((Str.ofString "script", .ref l) :: (Str.ofString "number", .int a ta) :: clT o) [(I, oLI (h2.objs.size + 1) i)] (fun F' => At F' (h2.objs.size + 1) (oL ws.toList) ∧ Le F F') hh, rfl, Itr.list (vs := ws.toList) ne, R'.hd, ⟨none, 0, t0, Int.le_refl _, S5⟩, ?_, ?_⟩
  · rintro i hh hi' ⟨o, a, ta, ha, S6⟩
    refine ⟨_, _, _, S6, S6.now.1, fun Rr kr v h6 ev S7 => ?_⟩
    clear S6 S5
    obtain ⟨n, tn, en, rfl⟩ := ints_get hp ev
    walk_at "w"
    walk_at "s"
    intro h7 S8'
    clear S7
    have S8 := S8'.lo (m' := (Str.ofString "script", .ref l) :: (Str.ofString "number", .int a ta) :: clT (some (.int n tn))) (by rcases o with _ | c <;> with_unfolding_all rfl)
    clear S8'
    walk_at "r"
    refine O_mul (IntMulOk.of_right (by decide +kernel)) fun t1 => ?_
    walk_at "r"
    refine O_abs fun t2 => ?_
    refine O_mul (IntMulOk.of_left (by decide +kernel)) fun t3 => ?_
    refine O_add fun t4 => ?_
    walk_at "r"
    refine O_lt ?_
    walk_at "r"
    refine ⟨fun c => ?_, fun c => ?_⟩
    · walk_at "r"
      refine O_add fun t5 => ?_
      walk_at "r"
      refine O_add fun t6 => ?_
      walk_at "s"
      intro h8 S9
      clear S8
      walk_at "r"
      exact ⟨_, _, _, by split <;> omega, S9⟩
    · walk_at "r"
      refine O_add fun t5 => ?_
      walk_at "r"
      refine O_add fun t6 => ?_
      walk_at "s"
      intro h8 S9
      clear S8
      walk_at "r"
      exact ⟨_, _, _, by split <;> omega, S9⟩
  · rintro hh ⟨o, a, ta, ha, S6⟩
    refine ⟨_, _, _, S6, S6.now.1, fun h6 S7 => ?_⟩
    walk_at "r"
    rename_i tz
    refine S_list S7 fun p h7 np p5 S8 => ?_
    obtain ⟨q, e, z⟩ := S8.at0
    exact (kq.go ⟨p, a, rfl, p5, Nat.le_trans S7.size np, ha, ⟨q, e, ta, tz, z.w⟩, S8.kb, S8.size⟩)
end
end
section
section
variable {C : Cx} {A : Around} {h h₀ h' : Heap} {F : Fz} {k : Nat} {env : Env} {M : List Addr} {L : Addr} {m : Loc} {σ : Led} {Φ Ψ : Fz → Prop}
/-- new objects of the ledger, and facts of all else that is new -/
theorem St.newL (S : St C h₀ M L m σ Φ h) (k : Kb [] h h') (ν : Led) (hν : ∀ q ∈ ν, h.objs.size ≤ q.1 ∧ ∃ o, h'.get? q.1 = some o ∧ q.2 o) (nd : (ads ν).Nodup) (f : ∀ F', Le (mix h.objs.size (fz (L :: ads σ) h) (fz (ads ν) h')) F' → Ψ F') :
    St C h₀ M L m (ν ++ σ) (fun F => Ψ F ∧ Φ F) h' := by
  have S' := S.keep k
  have lt := S.lt
  have big : ∀ a ∈ ads ν, h.objs.size ≤ a := fun a ha => by
    obtain ⟨q, hq, rfl⟩ := List.mem_map.mp ha
    exact (hν q hq).1
  have ead : ads (ν ++ σ) = ads ν ++ ads σ := List.map_append
  refine ⟨S'.g0, S'.ns, S'.kb, fun q hq => (List.mem_append.mp hq).elim (fun z => (hν q z).2) (S'.own q), ?_, fun q hq => (List.mem_append.mp hq).elim (fun z => .inr (Nat.le_trans S.size (hν q z).1)) (S.hi q), S.l0, S.s5, S.mm,
    fun F l => ⟨f F (Le.trans (fun b x eb => ?_) l), S.φ F ((fz_kb k (by simp) fun b q => ?_).trans l)⟩⟩
  · rw [ead]
    refine List.nodup_cons.mpr ⟨fun q => ?_, List.nodup_append.mpr ⟨nd, S.ndσ, fun a ha b hb e => ?_⟩⟩
    · rcases List.mem_append.mp q with q | q
      · exact absurd (lt L (.head _)) (Nat.not_lt.mpr (big L q))
      · exact (List.nodup_cons.mp S.nd).1 q
    · exact absurd (lt b (.tail _ hb)) (Nat.not_lt.mpr (e ▸ big a ha))
  · rw [ead]
    unfold mix at eb
    by_cases q : b < h.objs.size
    · rw [if_pos q] at eb
      obtain ⟨n, eb⟩ := fz_some eb
      refine fz_of (fun z => ?_) (k b x eb (by simp))
      rcases List.mem_cons.mp z with z | z
      · exact n (z ▸ .head _)
      · rcases List.mem_append.mp z with z | z
        · exact absurd q (Nat.not_lt.mpr (big b z))
        · exact n (.tail _ z)
    · rw [if_neg q] at eb
      obtain ⟨n, eb⟩ := fz_some eb
      refine fz_of (fun z => ?_) eb
      rcases List.mem_cons.mp z with z | z
      · exact q (lt b (z ▸ .head _))
      · rcases List.mem_append.mp z with z | z
        · exact n z
        · exact q (lt b (.tail _ z))
  · rw [ead] at q
    rcases List.mem_cons.mp q with q | q
    · exact .inl (q ▸ .head _)
    · rcases List.mem_append.mp q with q | q
      · exact .inr (big b q)
      · exact .inl (.tail _ q)
-- a dict that is written out
theorem P_nil {pos : Pos} {R : List (Value × Value) → Heap → Prop} (x : R [] h) : W C A (evalPairs (pairTrees [] [] env pos)) h R := W.mk fun s tk => evalPairs_nil ⟨h, tk, rfl, x⟩
theorem P_cons {key v : Expr} {ks : List (Option Expr)} {vs : List Expr} {pos : Pos} {R : List (Value × Value) → Heap → Prop} (x : W C A (eval key env) h (fun kv h1 => W C A (eval v env) h1 (fun vv h2 => W C A (evalPairs (pairTrees ks vs env pos)) h2 (fun l h3 => R ((kv, vv) :: l) h3)))) :
    W C A (evalPairs (pairTrees (some key :: ks) (v :: vs) env pos)) h R := W.mk fun s tk =>
  evalPairs_cons (x.run fun kv h1 t1 y => wpAny_bind (y.run fun vv h2 t2 z => wpAny_bind (wpAny_standAt (wpAny_pure (z.run fun l h3 t3 u => ⟨h3, t3, rfl, u⟩)))))
theorem E_dict {keys : List (Option Expr)} {values : List Expr} {pos : Pos} {P : Value → Heap → Prop} (x : W C A (evalPairs (pairTrees keys values env pos)) (h.push emptyDict) (fun vs h1 => W C A (storeAll h.objs.size vs) h1 (fun _ h2 => P (.ref h.objs.size) h2)))
    (hall : keys.all (·.isSome) = true := by rfl) (hl : keys.length = values.length := by rfl) (h0 : keys ≠ [] := by simp) (hlen : keys.length ≤ 15 := by decide) : W C A (eval (.Dict keys values pos) env) h P := W.mk fun s tk =>
  wpAny_Dict_any hall hl h0 hlen (x.run fun vs h1 t1 y => y.run fun _ h2 t2 z => ⟨h2, t2, rfl, z⟩)
theorem SA_nil {d : Addr} {R : Unit → Heap → Prop} (x : R () h) : W C A (storeAll d []) h R := W.mk fun s tk => wpAny_pure ⟨h, tk, rfl, x⟩
theorem SA_cons {d : Addr} {key v : Value} {vs : List (Value × Value)} {R : Unit → Heap → Prop} (x : W C A (dictSet d key v) h (fun _ h1 => W C A (storeAll d vs) h1 R)) : W C A (storeAll d ((key, v) :: vs)) h R := W.mk fun s tk => by
  unfold storeAll
  rw [List.forIn_cons]
  exact wpAny_bind (wpAny_bind (x.run fun _ h1 t1 y => wpAny_pure (y.run fun _ h2 t2 z => ⟨h2, t2, rfl, z⟩)))
theorem D_dset {K : Type} [DecidableEq K] {knd : PySem.KeyKind PR C.w K} {kvs : List (K × Value)} {kk : K} {key v : Value} {d : Addr} {R : Unit → Heap → Prop} (hk : knd.is kk key = true) (e : At h.get? d (oD knd kvs)) (hz : kvs.length ≤ 1000) (x : ∀ h', Kb [d] h h' → At h'.get? d (oD knd (stored kvs kk v)) → R () h') : W C A (dictSet d key v) h R := W.mk fun s tk =>
  wpAny_dictSet_pairs (s := st s h tk) hk e.dict (fun h' hm hs => ⟨h', tk + 1, rfl, x h' (kb_same hs) (At.of_dict hm)⟩) (Nat.le_trans hz (by decide))
-- a value is drawn
variable {p : Addr} {a c : Int} {td : Tok} {P : Value → Heap → Prop}
theorem val3 {x0 x1 x2 : Addr × (Obj → Prop)} (d : Nat) (hw : wide d ≤ 1000) (S : St C h₀ M L m (x0 :: x1 :: x2 :: (p, oPen a c) :: σ) Φ h) (R : Rm A (k + 4 * d + 6)) (h5 : 503 ≤ p) (ha : 0 ≤ a) (hc : 0 ≤ c) (hc2 : c + cost d ≤ 800000)
    (y : ∀ v t a' c' h', t.size ≤ wide d → 0 ≤ a' → c ≤ c' → c' ≤ c + cost d → St C h₀ M L m (x0 :: x1 :: x2 :: (p, oPen a' c') :: σ) (fun F => Rep C (ge h₀.objs.size F) v t ∧ Φ F) h' → P v h') : W C A (call (.ref 485) [.ref p, .int d td]) h P :=
  (value_ok d hw S.g R S.at3 h5 ha hc hc2).mono fun v h' ⟨t, a', c', rp, sz, h1, h2, h3, e, k, z⟩ => y v t a' c' h' sz h1 h2 h3 ((S.put3 k e).add fun F l => rp.mono (fresh_le l S.lt S.size))
theorem val0 (d : Nat) (hw : wide d ≤ 1000) (S : St C h₀ M L m ((p, oPen a c) :: σ) Φ h) (R : Rm A (k + 4 * d + 6)) (h5 : 503 ≤ p) (ha : 0 ≤ a) (hc : 0 ≤ c) (hc2 : c + cost d ≤ 800000)
    (y : ∀ v t a' c' h', t.size ≤ wide d → 0 ≤ a' → c ≤ c' → c' ≤ c + cost d → St C h₀ M L m ((p, oPen a' c') :: σ) (fun F => Rep C (ge h₀.objs.size F) v t ∧ Φ F) h' → P v h') : W C A (call (.ref 485) [.ref p, .int d td]) h P :=
  (value_ok d hw S.g R S.at0 h5 ha hc hc2).mono fun v h' ⟨t, a', c', rp, sz, h1, h2, h3, e, k, z⟩ => y v t a' c' h' sz h1 h2 h3 ((S.put0 k e).add fun F l => rp.mono (fresh_le l S.lt S.size))
theorem stored_rows {F : Fz} {n g : Int} {tg : Tok} {ra : Addr} {v : Value} {t : T} {kvs : List (Int × Value)} {rs : List Row} (hn : n ∉ rs.map (·.1)) (x : Rows C F kvs rs) (e : At F ra (oT [.int g tg, v])) (r5 : 503 ≤ ra) (r : Rep C F v t) : Rows C F (stored kvs n (.ref ra)) (rs ++ [(n, g, t)]) := by
  rw [stored_new (by rw [x.keys]; exact hn)]
  exact x.snoc e r5 r
end
end
section
section
variable {C : Cx} {A : Around} {h : Heap} {F : Fz} {k : Nat} {p : Addr} {a c : Int}
noncomputable abbrev numT : Option Value → Loc
  | none => []
  | some v => [(Str.ofString "number", v)]
noncomputable abbrev shI (C : Cx) (t1 t2 : Tok) (td rd : Addr) : Obj → Prop := oI [en C (Str.ofString "table") t1 (.ref td), en C (Str.ofString "trailer") t2 (.ref rd)]
inductive SLJ (C : Cx) (h₀ : Heap) (L I s dx td rd p : Addr) (t1 t2 : Tok) (n : Nat) (c : Int) (i : Nat) (h : Heap) : Prop
  | mk (o : Option Value) (a' c' : Int) (kvs : List (Int × Value)) (rs : List Row) (z0 : 0 ≤ a') (z1 : c ≤ c') (z2 : c' ≤ c + 1 + 600 * i) (z3 : rs.length ≤ i) (z4 : (∀ r ∈ rs, r.1 ≤ i ∧ r.2.2.size ≤ 13)) (z5 : St C h₀ [p] L ((Str.ofString "pen", .ref p) :: (Str.ofString "shelf", .ref s) :: numT o) [(I, oRI 1 n i), (td, oD (iK C) kvs), (dx, shI C t1 t2 td rd), (p, oPen a' c')] (fun F => Rows C (ge h₀.objs.size F) kvs rs ∧ F s = some (instObj 368 dx)) h)
noncomputable abbrev ShPost (C : Cx) (h : Heap) (p : Addr) (c : Int) : Value → Heap → Prop := fun u h' => ∃ s sh a' c', u = .ref s ∧ RepSh C (nw h h') s sh ∧ Fit sh ∧ 0 ≤ a' ∧ c ≤ c' ∧ c' ≤ c + 20000 ∧ At h'.get? p (oPen a' c') ∧ Kb [p] h h' ∧ h.objs.size ≤ h'.objs.size
theorem shelf_ok (G : GF C h) (R : Rm A (k + 16)) (hp : At h.get? p (oPen a c)) (h5 : 503 ≤ p) (ha : 0 ≤ a) (hc : 0 ≤ c) (hc2 : c ≤ 1000) : W C A (call (.ref 492) [.ref p]) h (ShPost C h p c) := by
  obtain ⟨o, e, z⟩ := hp
  refine go (k := k + 15) (m := [(Str.ofString "pen", .ref p)]) (In.one (R := oPen a c) (Φ := fun F => True) G e z h5 fun F l => trivial) R rfl rfl (by kernel_rfl) (fun s e => BindsTo.of_eq rfl) rfl (by kernel_rfl) (by kernel_rfl) rfl rfl rfl fun A' L h1 R' S => ?_
  have R1 : Rm A' (0 + 1) := R'.le (by exact om188)
  have R2 : Rm A' (0 + 2) := R'.le (by exact om189)
  have R14 : Rm A' (k + 4 * 2 + 6) := R'.le (by exact om190)
  have R10 : Rm A' (k + 4 * 1 + 6) := R'.le (by exact om191)
  have w2 : wide 2 = 13 := rfl
  have w1 : wide 1 = 4 := rfl
  have c2 : cost 2 = 512 := rfl
  have c1 : cost 1 = 64 := rfl
  refine bodyK rfl fun Rq kq => ?_
  walk_at "r"
  refine (mkShelf0 S.g R2).mono fun u h2 hq1 => ?_
  obtain ⟨s, dx, td, rd, t1, t2, e, zs, zdx, ztd, zrd, n1, n2, n3, es, edx, etd, k2, z2⟩ := hq1
  subst e
  have zh := S.size
  have s503 := S.h5
  have S2 := S.newL k2 [(td, oD (iK C) []), (dx, shI C t1 t2 td rd)] (fun q hq => by
      rcases List.mem_cons.mp hq with rfl | hq
      · exact ⟨ztd, etd⟩
      · rw [List.mem_singleton.mp hq]; exact ⟨zdx, edx⟩) (by simp [ads]; exact fun q => n1 q.symm) (Ψ := fun F => F s = some (instObj 368 dx)) fun F' l => l _ _ (mix_new zs (fz_of (by simp [ads]; exact ⟨fun q => n3 q.symm, fun q => n2 q.symm⟩) es))
  clear S
  walk_at "s"
  intro h3 S3
  clear S2
  refine X_forI (h₀ := h) (M := [p]) (L := L) ?_
  walk_at "r"
  refine ⟨S3.g, draw2 S3 R1 h5 ha hc (by exact om192 hc hc2) (by decide) (by decide) fun d td1 a2 h4 d0 d1 ha2 S4 _ => ?_⟩
  clear S3
  walk_at "r"
  refine O_add fun tt => ?_
  walk_at "r"
  obtain ⟨d, rfl⟩ := Int.eq_ofNat_of_zero_le d0
  refine C_range2 S4 fun rg h5' S5 => ?_
  clear S4
  refine S_range S5 (1 + d) (by exact om193) (by decide) (by exact om194 d0 d1) fun I h6 nI S6 => ?_
  clear S5
  have sha : ∀ {hh : Heap} {kvs a' c' Φ m i} , St C h [p] L m [(I, oRI 1 (1 + d) i), (td, oD (iK C) kvs), (dx, shI C t1 t2 td rd), (p, oPen a' c')] Φ hh → (∀ F, Φ F → F s = some (instObj 368 dx)) → ShA C (fz [td] hh) s td rd := fun {hh kvs a' c' Φ m i} SS f => by
    refine ⟨Nat.le_trans s503 zs, Nat.le_trans s503 ztd, Nat.le_trans s503 zrd, dx, t1, t2, fz_of (by simp; exact fun q => n3 q.symm) (f _ SS.now), ?_⟩
    obtain ⟨o, e, q⟩ := SS.at2
    exact ⟨o, fz_of (by simp; exact n1) e, q⟩
  refine ⟨I, 1 + d, _, oRI 1 (1 + d), _, SLJ C h L I s dx td rd p t1 t2 (1 + d) c, rfl, Itr.range, R'.hd, ⟨none, a2, c + 1, [], [], ha2, by exact om195, by exact om196, Nat.le_refl _, fun _ q => (List.not_mem_nil q).elim, S6.imp fun F' _ f => ⟨.nil, f.1⟩⟩, ?_, ?_⟩
  · rintro i hh hi ⟨o, a', c', kvs, rs, ha', hc', hc'', hl, hr, S7⟩
    refine ⟨_, _, _, S7, trivial, fun Rr kr v h7 hq2 S8 => ?_⟩
    obtain ⟨tv, ev⟩ := hq2
    clear S7 S6
    subst ev
    walk_at "w"
    walk_at "s"
    intro h8 S9'
    clear S8
    have S9 := S9'.lo (m' := (Str.ofString "pen", .ref p) :: (Str.ofString "shelf", .ref s) :: numT (some (.int (1 + (i : Int) * 1) tv))) (by rcases o with _ | q <;> with_unfolding_all rfl)
    clear S9'
    walk_at "r"
    refine ⟨S9.g, draw3 S9 R1 h5 ha' (by exact om197 hc hc2 hc') (by exact om198 hc hc2 d0 d1 hi hc'') (by decide) (by decide) fun dd td2 a3 h9 d0' d1' ha3 S10 _ => ?_⟩
    clear S9
    walk_at "r"
    refine O_gt ?_
    walk_at "r"
    refine ⟨fun _ => ?_, fun _ => ?_⟩
    · walk_at "r"
      refine M_put S10.g ((sha S10 fun F f => f.2).mono (fz_le _ _)) ?_
      walk_at "r"
      refine ⟨S10.g, draw3 S10 R1 h5 ha3 (by exact om199 hc hc2 hc') (by exact om200 hc hc2 d0 d1 hi hc'') (by decide) (by decide) fun dg td3 a4 h10 d0'' d1'' ha4 S11 _ => ?_⟩
      clear S10
      walk_at "r"
      refine O_div (by decide) (small_div (by decide) (by decide)) fun tg => ?_
      walk_at "r"
      refine ⟨S11.g, val3 2 (by exact om201 w2) S11 R14 h5 ha4 (by exact om202 hc hc2 hc') (by exact om203 hc hc2 c2 d0 d1 hi hc'') fun v t a5 c5 h11 sz ha5 hc5 hc5' S12 => ?_⟩
      clear S11
      walk_at "r"
      have hkl := S12.now.2.1.length
      refine ⟨S12.g, (put_ok S12.g R1 (sha S12 fun F f => f.2.2) S12.at1 (by exact om204 d0 d1 hi hl hkl)).mono fun u h12 hq3 => ?_⟩
      obtain ⟨ra, era, ra5, etd2, k12, z12⟩ := hq3
      have hn : (1 + (i : Int) * 1) ∉ rs.map (·.1) := fun q => by
        obtain ⟨r, hr', e⟩ := List.mem_map.mp q
        have := (hr r hr').1
        exact om205 e this
      have lt := S12.lt
      have z := S12.size
      have S13 := (S12.put1 k12 etd2).imp (Ψ := fun F => Rows C (ge h.objs.size F) (stored kvs (1 + (i : Int) * 1) (.ref ra)) (rs ++ [(1 + (i : Int) * 1, dg.fdiv 5, t)]) ∧ F s = some (instObj 368 dx)) fun F' l f => ⟨stored_rows hn f.2.1 (era.mono (fresh_le l lt z)) ra5 f.1, f.2.2⟩
      clear S12
      walk_at "r"
      refine ⟨_, a5, c5, _, _, ha5, by exact om206 c2 hc' hc5 hc5', by exact om207 c2 hc'' hc5 hc5', by simp; exact om208 hl hkl, fun r hr' => ?_, S13⟩
      rcases List.mem_append.mp hr' with q | q
      · have := hr r q; exact ⟨by exact om209 this, this.2⟩
      · rw [List.mem_singleton.mp q]; exact ⟨by simp; exact om210, by show t.size ≤ 13; exact om211 w2 sz⟩
    · walk_at "r"
      exact ⟨_, a3, c' + 1, _, _, ha3, by exact om212 hc', by exact om213 hc'', by exact om214 hl, fun r hr' => ⟨by have := (hr r hr').1; exact om215 this, (hr r hr').2⟩, S10⟩
  · rintro hh ⟨o, a', c', kvs, rs, ha', hc', hc'', hl, hr, S7⟩
    refine ⟨_, _, _, S7, trivial, fun h7 S8 => ?_⟩
    clear S7 S6 sha
    refine X_setattr ?_
    refine E_dict ?_
    have S9 := S8.push (P := oD (sK C) []) emptyDict (oD_new _)
    have zd := S8.size
    have zd5 := S8.h5
    generalize hd : h7.objs.size = d0 at S9 zd zd5
    clear S8
    refine P_cons ?_
    walk_at "r"
    rename_i tk1
    walk_at "r"
    refine ⟨S9.g, draw3 S9 R1 h5 ha' (by exact om197 hc hc2 hc') (by omega) (by decide) (by decide) fun dd td2 a3 h9 d0' d1' ha3 S10 _ => ?_⟩
    clear S9
    walk_at "r"
    refine O_add fun tt => ?_
    walk_at "r"
    refine ⟨S10.g, (mkRef (p := (1 + dd, 0)) S10.g R2).mono fun v1 h10 hq4 => ?_⟩
    obtain ⟨r1, k10, z10⟩ := hq4
    have S11 := S10.newx k10 (X := fun F' => Rep C F' v1 (.ref (1 + dd, 0))) (fun x l => x.mono l) r1
    clear S10
    refine P_cons ?_
    walk_at "r"
    rename_i tk2
    walk_at "r"
    refine ⟨S11.g, val3 1 (by exact om216 w1) S11 R10 h5 ha3 (by exact om199 hc hc2 hc') (by omega) fun v2 t2' a5 c5 h11 sz ha5 hc5 hc5' S12 => ?_⟩
    clear S11
    refine P_cons ?_
    walk_at "r"
    rename_i tk3 tv3
    refine P_cons ?_
    walk_at "r"
    rename_i tk4 tv4
    refine P_nil ?_
    refine SA_cons ?_
    refine D_dset (knd := sK C) (kk := Str.ofString "Root") (by simp [PySem.strKind, Value.isStrOf]) S12.at0 (by simp) fun h12 k12 e12 => ?_
    have S13 := S12.put0 k12 e12
    clear S12
    refine SA_cons ?_
    refine D_dset (knd := sK C) (kk := Str.ofString "Info") (by simp [PySem.strKind, Value.isStrOf]) S13.at0 (by exact Nat.le_trans (PySem.stored_length_le _ _ _) (by simp)) fun h13 k13 e13 => ?_
    have S14 := S13.put0 k13 e13
    clear S13
    refine SA_cons ?_
    refine D_dset (knd := sK C) (kk := Str.ofString "Size") (by simp [PySem.strKind, Value.isStrOf]) S14.at0 (by exact Nat.le_trans (PySem.stored_length_le _ _ _) (Nat.le_trans (Nat.succ_le_succ (PySem.stored_length_le _ _ _)) (by simp))) fun h14 k14 e14 => ?_
    have S15 := S14.put0 k14 e14
    clear S14
    refine SA_cons ?_
    refine D_dset (knd := sK C) (kk := Str.ofString "Prev") (by simp [PySem.strKind, Value.isStrOf]) S15.at0 (by exact Nat.le_trans (PySem.stored_length_le _ _ _) (Nat.le_trans (Nat.succ_le_succ (PySem.stored_length_le _ _ _)) (Nat.le_trans (Nat.succ_le_succ (Nat.succ_le_succ (PySem.stored_length_le _ _ _))) (by simp)))) fun h15 k15 e15 => ?_
    have S16 := S15.put0 k15 e15
    clear S15
    refine SA_nil ?_
    have ekv : stored (stored (stored (stored ([] : List (Str × Value)) (Str.ofString "Root") v1) (Str.ofString "Info") v2) (Str.ofString "Size") (.int 7 tv3)) (Str.ofString "Prev") (.int 40 tv4) = [(Str.ofString "Root", v1), (Str.ofString "Info", v2), (Str.ofString "Size", .int 7 tv3), (Str.ofString "Prev", .int 40 tv4)] := by kernel_rfl
    rw [ekv] at S16
    clear e12 e13 e14 e15
    walk_at "r"
    have S17 := S16.perm (σ' := [(dx, shI C t1 t2 td rd), (d0, oD (sK C) [(Str.ofString "Root", v1), (Str.ofString "Info", v2), (Str.ofString "Size", .int 7 tv3), (Str.ofString "Prev", .int 40 tv4)]), (td, oD (iK C) kvs), (p, oPen a5 c5)]) (List.perm_middle (l₁ := [_, _]) (l₂ := [_])).symm
    clear S16
    refine A_set S17 S17.now.2.2.2 (by kernel_rfl) (by kernel_rfl) (by kernel_rfl) (by kernel_rfl) (by kernel_rfl) (by simp) fun h16 t3 S18 => ?_
    clear S17
    have S19 := S18.freeze (Ψ := fun F' => F' s = some (instObj 368 dx) ∧ At F' dx (shI C t1 t2 td d0) ∧ Rows C (ge h.objs.size F') kvs rs ∧ Rep C (ge h.objs.size F') v1 (.ref (1 + dd, 0)) ∧ Rep C (ge h.objs.size F') v2 t2') fun F' o po _ e f => ⟨f.2.2.2, ⟨o, e, po⟩, f.2.2.1, f.2.1, f.1⟩
    clear S18
    have S20 := S19.freeze (Ψ := fun F' => At F' d0 (oD (sK C) [(Str.ofString "Root", v1), (Str.ofString "Info", v2), (Str.ofString "Size", .int 7 tv3), (Str.ofString "Prev", .int 40 tv4)]) ∧ F' s = some (instObj 368 dx) ∧ At F' dx (shI C t1 t2 td d0) ∧ Rows C (ge h.objs.size F') kvs rs ∧ Rep C (ge h.objs.size F') v1 (.ref (1 + dd, 0)) ∧ Rep C (ge h.objs.size F') v2 t2') fun F' o po _ e f => ⟨⟨o, e, po⟩, f⟩
    clear S19
    have S21 := S20.freeze (Ψ := fun F' => At F' td (oD (iK C) kvs) ∧ At F' d0 (oD (sK C) [(Str.ofString "Root", v1), (Str.ofString "Info", v2), (Str.ofString "Size", .int 7 tv3), (Str.ofString "Prev", .int 40 tv4)]) ∧ F' s = some (instObj 368 dx) ∧ At F' dx (shI C t1 t2 td d0) ∧ Rows C (ge h.objs.size F') kvs rs ∧ Rep C (ge h.objs.size F') v1 (.ref (1 + dd, 0)) ∧ Rep C (ge h.objs.size F') v2 t2') fun F' o po _ e f => ⟨⟨o, e, po⟩, f⟩
    clear S20
    walk_at "r"
    obtain ⟨⟨o1, e1, p1⟩, ⟨o2, e2, p2⟩, e3, ⟨o4, e4, p4⟩, e5, e6, e7⟩ := S21.now
    have zz := S21.size
    refine ⟨s, ⟨rs, [Str.ofString "Root", Str.ofString "Info", Str.ofString "Size", Str.ofString "Prev"], [.ref (1 + dd, 0), t2', .int 7, .int 40]⟩, a5, c5, rfl, ⟨td, d0, kvs, _, ⟨Nat.le_trans s503 zs, Nat.le_trans s503 ztd, zd5, dx, t1, t2, ge_of (Nat.le_trans zh zs) e3, o4, ge_of (Nat.le_trans zh zdx) e4, p4⟩, ⟨o1, ge_of (Nat.le_trans zh ztd) e1, p1⟩, e5, ⟨o2, ge_of zd e2, p2⟩, rfl, .cons e6 (.cons e7 (.cons (.int _ _) (.cons (.int _ _) .nil)))⟩, ?_, ha5, by exact om217 c1 hc' hc5 hc5', by omega, S21.at0, S21.kb, S21.size⟩
    refine ⟨by show rs.length ≤ 20; omega, fun r hr' => Nat.le_trans (hr r hr').2 (by decide), by simp, ?_⟩
    simp only [T.size, sizes]
    exact om218 w1 sz
end
end
section
noncomputable abbrev IsZ (h : Heap) (z TI TO : Addr) (f0 : Value) (b : Bool) : Prop :=
  h.get? z = some { cls := .type "zip", dict := none, data := .fields #[f0, .bool b, .bool false, .ref TI, .ref TO], slots := #[] }
section
variable {prog : Program} {w : World} {A : Around} {E : Value → Shared → Prop} {s : Shared}
theorem zfree_out {z TI TO T0 : Addr} {b : Bool} {o : Obj} {Q : Bool → Shared → Prop} (hz : IsZ s.heap z TI TO (rawInt T0) b) (ha : s.heap.get? T0 = some o)
    (hQ : ∀ h', IsZ h' z TI TO (rawInt T0) true → Heap.SameBut z s.heap h' → Q false { s with heap := h' }) : wpAny (model prog w) A (Builtin.SmallTypes.ownedTupleIsFree (.ref z)) Q E s := by
  unfold Builtin.SmallTypes.ownedTupleIsFree
  refine wpAny_bind (wpAny_field hz rfl (x := rawInt T0) rfl ?_)
  show wpAny _ _ (loadIfAlive (T0 : Int).toNat >>= _) _ _ _
  rw [Int.toNat_natCast]
  refine wpAny_bind (kdx_alive ha ?_)
  rw [if_neg (by simp)]
  refine wpAny_bind (wpAny_field hz rfl (x := .bool b) rfl ?_)
  cases b with
  | true =>
    rw [if_neg (by decide)]
    exact wpAny_pure (hQ s.heap hz (Heap.SameBut.refl ..))
  | false =>
    rw [if_pos (by decide)]
    refine wpAny_bind (wpAny_setField_rec hz (by simp) fun h₁ hz₁ hs₁ => ?_)
    exact wpAny_pure (hQ h₁ hz₁ hs₁)
theorem znext_out {z TI TO T0 i1 i2 l1 l2 : Addr} {b : Bool} {o : Obj} {k1 k2 : Nat} {xs ys : Array Value} {x y : Value} {Q : Value → Shared → Prop} (D : ZipApart z TI TO i1 i2 l1 l2)
    (hz : IsZ s.heap z TI TO (rawInt T0) b) (ha : s.heap.get? T0 = some o) (hTI : IsPair s.heap TI (.ref i1) (.ref i2))
    (h1 : s.heap.IsListIter i1 l1 k1) (h2 : s.heap.IsListIter i2 l2 k2) (hl1 : s.heap.IsList l1 xs) (hl2 : s.heap.IsList l2 ys) (hx : xs[k1]? = some x) (hy : ys[k2]? = some y)
    (hQ : ∀ h', IsZ h' z TI TO (rawInt T0) true → h'.IsListIter i1 l1 (k1 + 1) → h'.IsListIter i2 l2 (k2 + 1) → IsPair h' s.heap.objs.size x y → h'.objs.size = s.heap.objs.size + 1 →
      (∀ c o, c ≠ z → c ≠ i1 → c ≠ i2 → s.heap.get? c = some o → h'.get? c = some o) → Q (.ref s.heap.objs.size) { s with heap := h' }) :
    wpAny (model prog w) A (Builtin.«zip.__next__» ⟨[.ref z], []⟩) (fun fin s' => ∃ v, fin = .done (.ret v) ∧ Q v s') E s := by
  show wpAny _ _ (field (.ref z) 2 >>= _) _ _ _
  refine wpAny_bind (wpAny_field hz rfl (x := .bool false) rfl ?_)
  show wpAny _ _ (field (.ref z) 3 >>= _) _ _ _
  refine wpAny_bind (wpAny_field hz rfl (x := .ref TI) rfl ?_)
  refine wpAny_bind (wpAny_seqItems hTI rfl ?_)
  show wpAny _ _ (Builtin.SmallTypes.ownedTupleIsFree (.ref z) >>= _) _ _ _
  refine wpAny_bind (zfree_out hz ha fun h₁ hz₁ hs₁ => ?_)
  rw [if_neg Bool.false_ne_true]
  refine wpAny_bind ?_
  rw [← Array.forIn_toList]
  simp only [List.forIn_cons, List.forIn_nil]
  refine wpAny_bind (wpAny_bind (wpAny_holding ?_))
  show wpAny _ _ (Builtin.SmallTypes.nextOf (.ref i1) >>= _) _ _ _
  refine wpAny_bind (wpAny_nextOf_list_item (h1.extBut hs₁.extBut D.i1z) (hl1.extBut hs₁.extBut D.l1z) hx fun h₂ h1₂ hs₂ => wpAny_pure ?_)
  refine wpAny_pure ?_
  refine wpAny_bind (wpAny_bind (wpAny_holding ?_))
  show wpAny _ _ (Builtin.SmallTypes.nextOf (.ref i2) >>= _) _ _ _
  refine wpAny_bind (wpAny_nextOf_list_item ((h2.extBut hs₁.extBut D.i2z).extBut hs₂.extBut D.i12.symm) ((hl2.extBut hs₁.extBut D.l2z).extBut hs₂.extBut D.l2i1) hy fun h₃ h2₃ hs₃ => wpAny_pure ?_)
  refine wpAny_pure (wpAny_pure ?_)
  show wpAny _ _ (newTuple [x, y] >>= _) _ _ _
  refine wpAny_bind (wpAny_newTuple ?_)
  have hsz : h₃.objs.size = s.heap.objs.size := by rw [hs₃.1, hs₂.1, hs₁.1]
  have hz₃ : IsZ h₃ z TI TO (rawInt T0) true := hs₃.extBut _ _ D.i2z.symm (hs₂.extBut _ _ D.i1z.symm hz₁)
  have h1₃ : h₃.IsListIter i1 l1 (k1 + 1) := h1₂.extBut hs₃.extBut D.i12
  refine wpAny_pure ⟨_, rfl, ?_⟩
  show Q (.ref h₃.objs.size) _
  rw [hsz]
  have up : ∀ c o, h₃.get? c = some o → (h₃.push { cls := .type "tuple", data := .seq #[x, y] }).get? c = some o := fun c o e => Heap.get?_push_of_some _ e
  exact hQ (h₃.push { cls := .type "tuple", data := .seq #[x, y] }) (up _ _ hz₃) (h1₃.at fun o e => up _ o e) (h2₃.at fun o e => up _ o e) (by rw [← hsz]; exact Heap.get?_push_size _ rfl) (by rw [Heap.size_push, hsz]) fun c o c1 c3 c4 e => up c o (hs₃.extBut _ _ c4 (hs₂.extBut _ _ c3 (hs₁.extBut _ _ c1 e)))
theorem znext_out_end {z TI TO T0 i1 i2 l1 l2 : Addr} {b : Bool} {o : Obj} {k1 : Nat} {xs : Array Value} {Q : Fin → Shared → Prop} (hh : A.handled = none) (D : ZipApart z TI TO i1 i2 l1 l2)
    (hz : IsZ s.heap z TI TO (rawInt T0) b) (ha : s.heap.get? T0 = some o) (hTI : IsPair s.heap TI (.ref i1) (.ref i2))
    (h1 : s.heap.IsListIter i1 l1 k1) (hl1 : s.heap.IsList l1 xs) (hx : xs[k1]? = none)
    (hE : ∀ h' e, (∀ c o, c ≠ z → c ≠ i1 → s.heap.get? c = some o → h'.get? c = some o) → (∃ o, h'.get? e = some o ∧ o.cls = .type "StopIteration") → E (.ref e) { s with heap := h' }) :
    wpAny (model prog w) A (Builtin.«zip.__next__» ⟨[.ref z], []⟩) Q E s := by
  show wpAny _ _ (field (.ref z) 2 >>= _) _ _ _
  refine wpAny_bind (wpAny_field hz rfl (x := .bool false) rfl ?_)
  show wpAny _ _ (field (.ref z) 3 >>= _) _ _ _
  refine wpAny_bind (wpAny_field hz rfl (x := .ref TI) rfl ?_)
  refine wpAny_bind (wpAny_seqItems hTI rfl ?_)
  show wpAny _ _ (Builtin.SmallTypes.ownedTupleIsFree (.ref z) >>= _) _ _ _
  refine wpAny_bind (zfree_out hz ha fun h₁ hz₁ hs₁ => ?_)
  rw [if_neg Bool.false_ne_true]
  refine wpAny_bind ?_
  rw [← Array.forIn_toList]
  simp only [List.forIn_cons, List.forIn_nil]
  refine wpAny_bind (wpAny_bind (wpAny_holding ?_))
  show wpAny _ _ (Builtin.SmallTypes.nextOf (.ref i1) >>= _) _ _ _
  exact wpAny_bind (wpAny_nextOf_list_end hh (h1.extBut hs₁.extBut D.i1z) (hl1.extBut hs₁.extBut D.l1z) hx fun h₂ e hs₂ he => hE h₂ e (fun c o c1 c3 x => hs₂ _ _ c3 (hs₁.extBut _ _ c1 x)) he)
theorem zpy_out {z TI TO T0 i1 i2 l1 l2 : Addr} {b : Bool} {o : Obj} {k1 k2 : Nat} {xs ys : Array Value} {x y : Value} {Q : Option Value → Shared → Prop} (D : ZipApart z TI TO i1 i2 l1 l2)
    (hz : IsZ s.heap z TI TO (rawInt T0) b) (ha : s.heap.get? T0 = some o) (hTI : IsPair s.heap TI (.ref i1) (.ref i2))
    (h1 : s.heap.IsListIter i1 l1 k1) (h2 : s.heap.IsListIter i2 l2 k2) (hl1 : s.heap.IsList l1 xs) (hl2 : s.heap.IsList l2 ys) (hx : xs[k1]? = some x) (hy : ys[k2]? = some y)
    (hQ : ∀ h', IsZ h' z TI TO (rawInt T0) true → h'.IsListIter i1 l1 (k1 + 1) → h'.IsListIter i2 l2 (k2 + 1) → IsPair h' s.heap.objs.size x y → h'.objs.size = s.heap.objs.size + 1 →
      (∀ c o, c ≠ z → c ≠ i1 → c ≠ i2 → s.heap.get? c = some o → h'.get? c = some o) → Q (some (.ref s.heap.objs.size)) { s with heap := h' }) :
    wpAny (model prog w) A (pyNext (.ref z)) Q E s := by
  have hT : s.TypeIs (.ref z) "zip" := ⟨_, hz, rfl⟩
  unfold pyNext
  exact wpAny_bind (wpAny_attempt (wpAny_callSpecial?_slot (name := Str.ofString "__next__") hT PySem.F.slot_zip_next
    (wpAny_call_entry PySem.F.slot_zip_next hT PySem.F.entry_zip_next
      (znext_out D hz ha hTI h1 h2 hl1 hl2 hx hy fun h' a1 a3 a4 a5 a6 a7 => wpAny_pure (hQ h' a1 a3 a4 a5 a6 a7)) (PySem.F.args_zip_next_1 _))))
theorem zpy_out_end {z TI TO T0 i1 i2 l1 l2 : Addr} {b : Bool} {o : Obj} {k1 : Nat} {xs : Array Value} {Q : Option Value → Shared → Prop} (hh : A.handled = none) (D : ZipApart z TI TO i1 i2 l1 l2)
    (hz : IsZ s.heap z TI TO (rawInt T0) b) (ha : s.heap.get? T0 = some o) (hTI : IsPair s.heap TI (.ref i1) (.ref i2))
    (h1 : s.heap.IsListIter i1 l1 k1) (hl1 : s.heap.IsList l1 xs) (hx : xs[k1]? = none)
    (hQ : ∀ h', (∀ c o, c ≠ z → c ≠ i1 → s.heap.get? c = some o → h'.get? c = some o) → Q none { s with heap := h' }) : wpAny (model prog w) A (pyNext (.ref z)) Q E s := by
  have hT : s.TypeIs (.ref z) "zip" := ⟨_, hz, rfl⟩
  unfold pyNext
  refine wpAny_bind (wpAny_attempt (wpAny_callSpecial?_slot (name := Str.ofString "__next__") hT PySem.F.slot_zip_next
    (wpAny_call_entry PySem.F.slot_zip_next hT PySem.F.entry_zip_next (znext_out_end hh D hz ha hTI h1 hl1 hx fun h' e hk he => ?_) (PySem.F.args_zip_next_1 _))))
  obtain ⟨o, ho, hc⟩ := he
  refine wpAny_bind (wpAny_isInstance (T := "StopIteration") (b := true) ⟨o, ho, hc⟩ isSubtype_stop ?_)
  exact wpAny_pure (hQ _ hk)
end
end
section
noncomputable def oZ (TI TO : Addr) (f0 : Value) (b : Bool) : Obj → Prop := fun o => o = { cls := .type "zip", dict := none, data := .fields #[f0, .bool b, .bool false, .ref TI, .ref TO], slots := #[] }
noncomputable def oPp : Obj → Prop := fun o => ∃ a b, o = { cls := .type "tuple", data := .seq #[a, b] }
theorem zno_len : typeLookup (.type "zip") "__len__" = pure none := by rw [typeLookup_type, builtinLookup_eq_fast]; kernel_rfl
theorem zno_hint : typeLookup (.type "zip") "__length_hint__" = pure none := by rw [typeLookup_type, builtinLookup_eq_fast]; kernel_rfl
section
variable {C : Cx} {A : Around} {h h₀ : Heap} {M : List Addr} {L : Addr} {m : Loc} {σ : Led} {Φ : Fz → Prop} {P : Value → Heap → Prop}
noncomputable abbrev zipL (z TI TO i1 i2 l1 l2 l : Addr) (f0 : Value) (b : Bool) (k : Nat) (vs : List Value) (σ : Led) : Led := (z, oZ TI TO f0 b) :: (TO, oPp) :: (i1, oLI l1 k) :: (i2, oLI l2 k) :: (l, oL vs) :: σ
theorem zapart (n l1 l2 : Nat) (h1 : l1 < n) (h2 : l2 < n) : ZipApart (n + 4) (n + 2) (n + 3) n (n + 1) l1 l2 := by
  have e1 : ∀ a b : Nat, a < b → a ≠ b := fun a b h => Nat.ne_of_lt h
  have e2 : ∀ a b : Nat, b < a → a ≠ b := fun a b h => Nat.ne_of_gt h
  constructor <;> first | exact e1 _ _ (by omega) | exact e2 _ _ (by omega)
/-- zip(a, b), made behind a list that is own -/
theorem C_zip {l l1 l2 : Addr} {vs xs ys : List Value} (S : St C h₀ M L m ((l, oL vs) :: σ) Φ h) (h1 : At h.get? l1 (oL xs)) (h2 : At h.get? l2 (oL ys)) (hl1 : l1 ≠ l) (hl2 : l2 ≠ l)
    (y : ∀ z TI TO i1 i2 h', ZipApart z TI TO i1 i2 l1 l2 → St C h₀ M L m (zipL z TI TO i1 i2 l1 l2 l .none false 0 vs σ) (fun F => F TI = some { cls := .type "tuple", data := .seq #[.ref i1, .ref i2] } ∧ Φ F) h' → P (.ref z) h') : W C A (call (.type "zip") [.ref l1, .ref l2]) h P := W.mk fun s tk => by
  refine call_zip_2 (s := st s h tk) h1.list h2.list fun h' a1 a2 a3 a4 a5 a6 a7 => ?_
  have n1 := h1.lt
  have n2 := h2.lt
  have D := zapart _ _ _ n1 n2
  refine ⟨h', tk, rfl, y _ (h.objs.size + 2) (h.objs.size + 3) h.objs.size (h.objs.size + 1) h' D ?_⟩
  · have S' := S.newL (h' := h') (Ψ := fun F => F (h.objs.size + 2) = some { cls := .type "tuple", data := .seq #[.ref h.objs.size, .ref (h.objs.size + 1)] }) (fun b o e _ => a7 b o e) [(h.objs.size + 4, oZ (h.objs.size + 2) (h.objs.size + 3) .none false), (h.objs.size + 3, oPp), (h.objs.size, oLI l1 0), (h.objs.size + 1, oLI l2 0)] (fun q hq => ?_) (by simp [ads]) fun F' l => l _ _ (mix_new (by exact om219) (fz_of (by simp [ads]) a2))
    · exact S'
    · simp only [List.mem_cons, List.not_mem_nil, or_false] at hq
      rcases hq with rfl | rfl | rfl | rfl
      · exact ⟨by simp, _, a1, rfl⟩
      · exact ⟨by simp, _, a3, _, _, rfl⟩
      · obtain ⟨o, e, c, d⟩ := a4; exact ⟨by simp, o, e, c, d⟩
      · obtain ⟨o, e, c, d⟩ := a5; exact ⟨by simp, o, e, c, d⟩
theorem zip_turn {z TI TO i1 i2 l1 l2 l : Addr} {f0 f0' : Value} {b b' : Bool} {k : Nat} {vs : List Value} {x y : Value} {h' : Heap} (S : St C h₀ M L m (zipL z TI TO i1 i2 l1 l2 l f0 b k vs σ) Φ h)
    (ez : IsZ h' z TI TO f0' b') (eo : ∃ a b, IsPair h' TO a b) (e1 : h'.IsListIter i1 l1 (k + 1)) (e2 : h'.IsListIter i2 l2 (k + 1)) (et : IsPair h' h.objs.size x y) (hk : ∀ c o, c ≠ z → c ≠ TO → c ≠ i1 → c ≠ i2 → h.get? c = some o → h'.get? c = some o) :
    St C h₀ M L m (zipL z TI TO i1 i2 l1 l2 l f0' b' (k + 1) vs σ) (fun F => At F h.objs.size (oT [x, y]) ∧ Φ F) h' := by
  have kb : Kb [z, TO, i1, i2] h h' := fun c o e n => by
    simp only [List.mem_cons, List.not_mem_nil, or_false, not_or] at n
    exact hk c o n.1 n.2.1 n.2.2.1 n.2.2.2 e
  have nd := S.ndσ
  have S2 : St C h₀ M L m (zipL z TI TO i1 i2 l1 l2 l f0' b' (k + 1) vs σ) Φ h' := by
    refine S.turn kb (by simp [ads]) rfl fun q hq => ?_
    have rest : ∀ q ∈ ((l, oL vs) :: σ : Led), ∃ o, h'.get? q.1 = some o ∧ q.2 o := fun q hq => by
      obtain ⟨o, e, p⟩ := S.own q (.tail _ (.tail _ (.tail _ (.tail _ hq))))
      have hm : q.1 ∈ ads ((l, oL vs) :: σ) := List.mem_map_of_mem hq
      simp only [ads, List.map_cons] at nd hm
      have d1 := List.nodup_cons.mp nd
      have d2 := List.nodup_cons.mp d1.2
      have d3 := List.nodup_cons.mp d2.2
      have d4 := List.nodup_cons.mp d3.2
      exact ⟨o, hk _ _ (fun e => d1.1 (by rw [← e]; exact .tail _ (.tail _ (.tail _ hm)))) (fun e => d2.1 (by rw [← e]; exact .tail _ (.tail _ hm))) (fun e => d3.1 (by rw [← e]; exact .tail _ hm)) (fun e => d4.1 (by rw [← e]; exact hm)) e, p⟩
    rcases List.mem_cons.mp hq with rfl | hq
    · exact ⟨_, ez, rfl⟩
    rcases List.mem_cons.mp hq with rfl | hq
    · obtain ⟨a, b, e⟩ := eo; exact ⟨_, e, a, b, rfl⟩
    rcases List.mem_cons.mp hq with rfl | hq
    · obtain ⟨o, e, c, d⟩ := e1; exact ⟨o, e, c, d⟩
    rcases List.mem_cons.mp hq with rfl | hq
    · obtain ⟨o, e, c, d⟩ := e2; exact ⟨o, e, c, d⟩
    · exact rest q hq
  refine S2.add fun F l => ⟨_, l _ _ (fz_of (fun q => ?_) et), rfl⟩
  exact absurd (S.lt _ q) (Nat.lt_irrefl _)
theorem St.dropN {h' : Heap} (ν : Led) (S : St C h₀ M L m (ν ++ σ) Φ h) (k : Kb (ads ν) h h') : St C h₀ M L m σ Φ h' := by
  have ead : ads (ν ++ σ) = ads ν ++ ads σ := List.map_append
  have nd := S.nd
  rw [ead] at nd
  have nd1 := List.nodup_cons.mp nd
  have nd2 := List.nodup_append.mp nd1.2
  refine ⟨S.g0, Ns_kb S.ns k fun q => nd1.1 (List.mem_append.mpr (.inl q)), fun b o e nb => k b o (S.kb b o e nb) fun q => ?_, fun q hq => ?_, List.nodup_cons.mpr ⟨fun q => nd1.1 (List.mem_append.mpr (.inr q)), nd2.2.1⟩, fun q hq => S.hi q (List.mem_append.mpr (.inr hq)), S.l0, S.s5, S.mm,
    fun F l => S.φ F ((fz_kb k (fun a q => ?_) fun a q => .inl ?_).trans l)⟩
  · obtain ⟨p, hp, rfl⟩ := List.mem_map.mp q
    rcases S.hi p (List.mem_append.mpr (.inl hp)) with z | z
    · exact nb z
    · exact absurd (Heap.lt_size e) (Nat.not_lt.mpr z)
  · obtain ⟨o, e, p⟩ := S.own q (List.mem_append.mpr (.inr hq))
    exact ⟨o, k _ _ e fun z => nd2.2.2 _ z _ (List.mem_map_of_mem hq) rfl, p⟩
  · rw [ead]; exact .tail _ (List.mem_append.mpr (.inl q))
  · rw [ead]
    rcases List.mem_cons.mp q with q | q
    · exact q ▸ .head _
    · exact .tail _ (List.mem_append.mpr (.inr q))
/-- the zip's own tuple: not yet handed out, or handed out and alive -/
noncomputable def ZOk (Φ : Fz → Prop) (f0 : Value) (k : Nat) : Prop := (f0 = .none ∧ k = 0) ∨ ∃ T0 : Addr, f0 = rawInt T0 ∧ ∀ F, Φ F → ∃ o, F T0 = some o
theorem zip_loop {z TI TO i1 i2 l1 l2 l : Addr} {xs ys : List Value} {Φ₀ : Fz → Prop} (hh : A.handled = none) (D : ZipApart z TI TO i1 i2 l1 l2) (hxy : xs.length = ys.length)
    {res : Value} {R : Result → Shared → Prop} (s : Shared) : ∀ (n k : Nat) (Φ : Fz → Prop) (f0 : Value) (b : Bool) (vs : List Value) (h : Heap) (tk : Nat), xs.length - k = n → k ≤ xs.length → (∀ F, Φ F → Φ₀ F) → (∀ F, Φ₀ F → F TI = some { cls := .type "tuple", data := .seq #[.ref i1, .ref i2] } ∧ At F l1 (oL xs) ∧ At F l2 (oL ys)) →
    (f0 = .none → b = false) → ZOk Φ f0 k → St C h₀ M L m (zipL z TI TO i1 i2 l1 l2 l f0 b k vs σ) Φ h → vs.length + n ≤ 1000000 →
    (∀ ws h' tk', ws.length = n → St C h₀ M L m ((l, oL (vs ++ ws)) :: σ) (fun F => Tw (ge h₀.objs.size F) ws ((xs.zip ys).drop k) ∧ Φ F) h' → R (.ok (.ret res)) (st s h' tk')) →
    codeAny (model PR C.w) A (.builtin "list.extend.loop" ⟨[.ref l, .ref z, res], []⟩) R (st s h tk) := by
  intro n
  induction n with
  | zero =>
    intro k Φ f0 b vs h tk hn hk hΦ hF hb zo S hz y
    obtain rfl : k = xs.length := by exact om220 hxy hn hk
    have f := hF _ (hΦ _ S.now)
    refine codeAny_builtin PySem.F.entry_extend_loop ?_
    rw [Around.under_plainId PySem.F.plain_extend_loop _]
    show wpAny _ A.in1 (pyNext (.ref z) >>= _) _ _ _
    have fin : ∀ h', (∀ c o, c ≠ z → c ≠ TO → c ≠ i1 → c ≠ i2 → h.get? c = some o → h'.get? c = some o) → R (.ok (.ret res)) (st s h' tk) := fun h' hk => by
      have kb : Kb [z, TO, i1, i2] h h' := fun c o e n => by
        simp only [List.mem_cons, List.not_mem_nil, or_false, not_or] at n
        exact hk c o n.1 n.2.1 n.2.2.1 n.2.2.2 e
      have S2 := St.dropN [(z, oZ TI TO f0 b), (TO, oPp), (i1, oLI l1 xs.length), (i2, oLI l2 xs.length)] S kb
      refine y [] h' tk rfl ((by rw [List.append_nil]; exact S2 : St C h₀ M L m ((l, oL (vs ++ [])) :: σ) Φ h').imp fun F _ f => ⟨?_, f⟩)
      rw [List.drop_eq_nil_of_le (by simp; omega)]
      exact .nil
    have ez := S.at0
    obtain ⟨_, ez, rfl⟩ := ez
    have e1 : h.IsListIter i1 l1 xs.length := let ⟨o, e, p⟩ := S.at2; ⟨o, e, p⟩
    have e2 : h.IsListIter i2 l2 xs.length := let ⟨o, e, p⟩ := S.at3; ⟨o, e, p⟩
    have ex : xs.toArray[xs.length]? = none := by simp
    refine wpAny_bind (wpAny_mono (Q := fun r s' => r = none ∧ ∃ h', s' = st s h' tk ∧ ∀ c o, c ≠ z → c ≠ TO → c ≠ i1 → c ≠ i2 → h.get? c = some o → h'.get? c = some o) (E := fun _ _ => False) ?_ (fun r s' hr => ?_) (fun _ _ q => q.elim))
    · rcases zo with ⟨rfl, -⟩ | ⟨T0, rfl, ht⟩
      · obtain ⟨_, eo, a, b', rfl⟩ := S.at1
        rw [hb rfl] at ez
        exact wpAny_pyNext_zip_end (s := st s h tk) hh D ez f.1 eo e1 e2 f.2.1.list f.2.2.list (.inl ex) fun h' hk => ⟨rfl, h', rfl, hk⟩
      · obtain ⟨o, eo⟩ := ht _ S.now
        exact zpy_out_end (s := st s h tk) hh D ez eo f.1 e1 f.2.1.list ex fun h' hk => ⟨rfl, h', rfl, fun c o c1 _ c3 _ e => hk c o c1 c3 e⟩
    · obtain ⟨rfl, h', rfl, hk⟩ := hr
      exact wpAny_pure (fin h' hk)
  | succ n ih =>
    intro k Φ f0 b vs h tk hn hk hΦ hF hb zo S hz y
    have f := hF _ (hΦ _ S.now)
    have hkx : k < xs.length := by exact om221 hxy hn hk
    have hky : k < ys.length := by exact om64 hxy hkx
    refine codeAny_builtin PySem.F.entry_extend_loop ?_
    rw [Around.under_plainId PySem.F.plain_extend_loop _]
    show wpAny _ A.in1 (pyNext (.ref z) >>= _) _ _ _
    obtain ⟨_, ez, rfl⟩ := S.at0
    obtain ⟨_, eo, ao, bo, rfl⟩ := S.at1
    have e1 : h.IsListIter i1 l1 k := let ⟨o, e, p⟩ := S.at2; ⟨o, e, p⟩
    have e2 : h.IsListIter i2 l2 k := let ⟨o, e, p⟩ := S.at3; ⟨o, e, p⟩
    have ex : xs.toArray[k]? = some xs[k] := by simp [hkx]
    have ey : ys.toArray[k]? = some ys[k] := by simp [hky]
    refine wpAny_bind (wpAny_mono (Q := fun r s' => r = some (.ref h.objs.size) ∧ ∃ h' f0' b', s' = st s h' tk ∧ (f0' = .none → b' = false) ∧ ZOk (fun F => At F h.objs.size (oT [xs[k], ys[k]]) ∧ Φ F) f0' (k + 1) ∧ St C h₀ M L m (zipL z TI TO i1 i2 l1 l2 l f0' b' (k + 1) vs σ) (fun F => At F h.objs.size (oT [xs[k], ys[k]]) ∧ Φ F) h') (E := fun _ _ => False) ?_ (fun r s' hr => ?_) (fun _ _ q => q.elim))
    · rcases zo with ⟨rfl, -⟩ | ⟨T0, rfl, ht⟩
      · rw [hb rfl] at ez
        exact wpAny_pyNext_zip_item (s := st s h tk) D ez f.1 eo e1 e2 f.2.1.list f.2.2.list ex ey fun h' a1 a2 a3 a4 a5 a6 a7 =>
          ⟨rfl, h', rawInt h.objs.size, false, rfl, fun _ => rfl, .inr ⟨_, rfl, fun F q => let ⟨o, e, _⟩ := q.1; ⟨o, e⟩⟩, zip_turn S a1 ⟨_, _, a2⟩ a3 a4 a5 a7⟩
      · obtain ⟨o, eT⟩ := ht _ S.now
        exact zpy_out (s := st s h tk) D ez eT f.1 e1 e2 f.2.1.list f.2.2.list ex ey fun h' a1 a3 a4 a5 a6 a7 =>
          ⟨rfl, h', rawInt T0, true, rfl, (fun q => by cases q), .inr ⟨T0, rfl, fun F q => ht F q.2⟩, zip_turn S a1 ⟨_, _, a7 _ _ D.TOz D.TOi1 D.TOi2 eo⟩ a3 a4 a5 fun c o c1 _ c3 c4 e => a7 c o c1 c3 c4 e⟩
    · obtain ⟨rfl, h', f0', b', rfl, hb', zo', S2⟩ := hr
      obtain ⟨o, ho, c, rfl⟩ := S2.at4
      show wpAny _ A.in1 (updateSeq l (·.push (.ref h.objs.size)) >>= _) _ _ _
      refine wpAny_bind ?_
      refine wpAny_updateSeq ho rfl (wpAny_pure ⟨plainId_quiet PySem.F.plain_extend_loop _, ?_⟩) (by rw [List.size_toArray]; exact Nat.le_trans (show vs.length ≤ 1000000 by exact om31 hz) (by decide)) (by
        show (vs.toArray.push (.ref h.objs.size)).size ≤ sizeLine + 1
        rw [Array.size_push, List.size_toArray]; exact Nat.le_trans (show vs.length + 1 ≤ 1000000 by exact om32 hz) (by decide))
      have S3 := S2.put4 (P' := oL (vs ++ [.ref h.objs.size])) (upd_kb (f := Obj.mapSeq (·.push (.ref h.objs.size)))) (upd_at (f := (·.push (.ref h.objs.size))) ho (by simp))
      refine ih (k + 1) _ f0' b' (vs ++ [.ref h.objs.size]) _ _ (by exact om222 hxy hn hkx) (by exact om223 hxy hkx) (fun F q => hΦ F q.2) hF hb' zo' S3 (by simp; exact om35 hz) fun ws h'' tk'' hw S4 => y (.ref h.objs.size :: ws) h'' tk'' (by simp [hw]) ?_
      rw [List.append_assoc] at S4
      refine S4.imp fun F _ q => ⟨?_, q.2.2⟩
      have ez : (xs.zip ys)[k]? = some (xs[k], ys[k]) := by simp [List.getElem?_zip_eq_some, hkx, hky]
      rw [List.drop_eq_getElem_cons (by simp; omega)]
      have e3 : (xs.zip ys)[k]'(by simp; omega) = (xs[k], ys[k]) := by simp
      rw [e3]
      exact .cons (let ⟨o, e, p⟩ := q.2.1; ⟨o, ge_of S.size e, p⟩) q.1
theorem O_extendZip {z TI TO i1 i2 l1 l2 l : Addr} {vs xs ys : List Value} (hh : A.handled = none) (D : ZipApart z TI TO i1 i2 l1 l2) (hxy : xs.length = ys.length) (S : St C h₀ M L m (zipL z TI TO i1 i2 l1 l2 l .none false 0 vs σ) Φ h)
    (hF : ∀ F, Φ F → F TI = some { cls := .type "tuple", data := .seq #[.ref i1, .ref i2] } ∧ At F l1 (oL xs) ∧ At F l2 (oL ys)) (hz : vs.length + xs.length ≤ 100000)
    (y : ∀ ws h', St C h₀ M L m ((l, oL (vs ++ ws)) :: σ) (fun F => Tw (ge h₀.objs.size F) ws (xs.zip ys) ∧ Φ F) h' → P .none h') : W C A (call (.builtin "list.extend") [.ref l, .ref z]) h P := W.mk fun s tk => by
  obtain ⟨o, ho, c, rfl⟩ := S.at4
  obtain ⟨_, ez, rfl⟩ := S.at0
  have hlz : l ≠ z := fun e => (List.nodup_cons.mp S.ndσ).1 (by rw [← e]; exact .tail _ (.tail _ (.tail _ (.head _))))
  have hT : (st s h tk).TypeIs (.ref z) "zip" := ⟨_, ez, rfl⟩
  refine call_meetsIn (s := st s h tk) PySem.F.slot_list_extend ⟨_, ho, rfl⟩ PySem.F.entry_list_extend (PySem.F.args_list_extend_2 _ _) (S := fun A' R s' => A' = A ∧ s' = st s h tk ∧ ∀ ws h' tk', St C h₀ M L m ((l, oL (vs ++ ws)) :: σ) (fun F => Tw (ge h₀.objs.size F) ws (xs.zip ys) ∧ Φ F) h' → R (.ok (.ret .none)) (st s h' tk')) ?_ ⟨rfl, rfl, fun ws h' tk' S' => ⟨h', tk', rfl, y ws h' S'⟩⟩
  rintro A' R s' ⟨rfl, rfl, fin⟩
  show wpAny _ A'.in1 (Builtin.List.listExtendWith (.ref l) (.ref z) .none) _ _ _
  unfold Builtin.List.listExtendWith
  refine wpAny_bind (wpAny_typeOf hT ?_)
  have h1 : Builtin.List.listSameRef (.ref l) (.ref z) = false := by simp [Builtin.List.listSameRef, hlz]
  rw [if_neg (by rw [h1]; decide)]
  refine wpAny_bind (wpAny_pyIter_zip (s := st s h tk) ez ?_)
  refine wpAny_bind (wpAny_holding ?_)
  unfold Builtin.List.listLengthHint
  refine wpAny_bind (wpAny_specialOf hT zno_len ?_)
  show wpAny _ A'.in1 (specialOf (Value.ref z) (Str.ofString "__length_hint__") >>= _) _ _ _
  refine wpAny_bind (wpAny_specialOf hT zno_hint ?_)
  refine wpAny_pure ?_
  show wpAny _ A'.in1 (rule "list.extend.makes-room" >>= fun _ => Builtin.List.listTouch (.ref l) >>= fun _ =>
    again (.builtin "list.extend.loop" ⟨[.ref l, .ref z, .none], []⟩)) _ _ _
  refine wpAny_bind (wpAny_rule ?_)
  refine wpAny_bind ?_
  show wpAny _ A'.in1 (updateSeq l (·.push .none) >>= fun _ => updateSeq l (·.pop)) _ _ _
  have b6 : 200000 ≤ sizeLine := by decide
  refine wpAny_bind (wpAny_updateSeq ho rfl ?_ (by rw [List.size_toArray]; exact om224 hxy hz b6) (by show (vs.toArray.push Value.none).size ≤ sizeLine + 1; rw [Array.size_push, List.size_toArray]; exact om225 hxy hz b6))
  have S2 := S.put4 (P' := oL (vs ++ [.none])) (upd_kb (f := Obj.mapSeq (·.push .none))) (upd_at (f := (·.push .none)) ho (by simp))
  obtain ⟨o2, ho2, c2, rfl⟩ := S2.at4
  refine wpAny_updateSeq ho2 rfl ?_ (by rw [List.size_toArray, List.length_append]; simp; exact om226 hxy hz b6) (by show ((vs ++ [Value.none]).toArray.pop).size ≤ sizeLine + 1; rw [Array.size_pop, List.size_toArray, List.length_append]; simp; exact om227 hxy hz b6)
  have S3 := S2.put4 (P' := oL vs) (upd_kb (f := Obj.mapSeq (·.pop))) (upd_at (f := (·.pop)) ho2 (by simp))
  refine wpAny_pure ⟨plainId_quiet PySem.F.plain_extend_loop _, zip_loop hh D hxy s xs.length 0 Φ .none false vs _ _ rfl (Nat.zero_le _) (fun F f => f) hF (fun _ => rfl) (.inl ⟨rfl, rfl⟩) S3 (by exact om228 hxy hz) fun ws h' tk' hw S4 => fin ws h' tk' (by rw [List.drop_zero] at S4; exact S4)⟩
end
end
section
noncomputable def seenB (rs : List Row) : T → Bool
  | .ref p => there rs p
  | _ => true
/-- the keys under which something stands -/
noncomputable def solid (rs : List Row) (ks : List Str) (xs : List T) : List Str := (sortS ks).filter fun k => match getT ks xs k with
  | some t => seenB rs t
  | none => false
section
variable {C : Cx} {A : Around} {h : Heap} {s : Addr} {F : Fz} {k : Nat} {sh : Sh}
noncomputable abbrev seenV (rs : List Row) (t : T) (v : Value) : Value := if seenB rs t = true then v else .none
theorem seen_ok {v : Value} {t : T} (G : GF C h) (R : Rm A (k + 2)) (hF : Le F h.get?) (x : RepSh C F s sh) (r : Rep C F v t) : W C A (call (.ref 412) [.ref s, v]) h (fun u h' => u = seenV sh.rows t v ∧ Kb [] h h' ∧ h.objs.size ≤ h'.objs.size) := by
  refine go (k := k + 1) (m := [(Str.ofString "value", v), (Str.ofString "shelf", .ref s)]) (In.nil (Φ := fun F' => Le F F') G fun F' l => hF.trans (by rw [fz_nil] at l; exact l)) R rfl rfl (by kernel_rfl) (fun s e => BindsTo.of_eq rfl) rfl (by kernel_rfl) (by kernel_rfl) rfl rfl rfl fun A' L h1 R' S => ?_
  refine bodyK rfl fun Rq kq => ?_
  walk_at "r"
  refine is_ref S.g (r.mono S.now) ?_
  walk_at "r"
  refine ⟨fun e => ?_, fun e => ?_⟩
  · obtain ⟨p, rfl⟩ := isRef_eq e
    have r2 := r
    cases r with
    | @ref ax dx _ ex ed x5 =>
    walk_at "r"
    refine M_pair S.g (S.now _ _ ex) (ed.mono S.now) ?_
    walk_at "r"
    refine (pair_ok S.g R' S.now r2).mono fun pv h2 hq1 => ?_
    obtain ⟨tp, k2, z2⟩ := hq1
    have S2 := S.newx k2 (X := vTp p pv) (fun x l => vTp.mono x l) tp
    clear S
    walk_at "r"
    refine ⟨S2.g, (there_ok S2.g R' (fz_le _ _) (x.mono S2.here.2) (vTp.mono S2.here.1 ge_le)).mono fun u h3 hq2 => ?_⟩
    obtain ⟨e, k3, z3⟩ := hq2
    subst e
    have S3 := S2.keep k3
    clear S2
    walk_at "r"
    refine ⟨fun c => ?_, fun c => ?_⟩
    · walk_at "r"
      refine ⟨fun c2 => ?_, fun c2 => ?_⟩
      · walk_at "r"
        refine ⟨?_, S3.kb, S3.size⟩
        unfold seenV seenB
        rw [if_neg (by simpa using c)]
      · exact Bool.noConfusion c2
    · refine ⟨no_tt rfl, fun _ => ?_⟩
      walk_at "r"
      refine ⟨?_, S3.kb, S3.size⟩
      unfold seenV seenB
      rw [if_pos (by simpa using c)]
  · refine ⟨no_tt rfl, fun _ => ?_⟩
    walk_at "r"
    refine ⟨?_, S.kb, S.size⟩
    unfold seenV
    rw [if_pos (by cases t <;> first | rfl | (simp [isRef] at e))]
noncomputable abbrev vSs (ss : List Str) : Value → Fz → Prop := fun v F => ∃ l vs, v = .ref l ∧ 503 ≤ l ∧ At F l (oL vs) ∧ StrsAre vs ss
theorem strs_append {vs ws : List Value} {ss ts : List Str} (x : StrsAre vs ss) (y : StrsAre ws ts) : StrsAre (vs ++ ws) (ss ++ ts) := by
  induction x with
  | nil => exact y
  | cons a t _ ih => exact .cons a t ih
theorem seenV_none {C : Cx} {F : Fz} {rs : List Row} {v : Value} {t : T} (r : Rep C F v t) : (!(seenV rs t v == .none)) = seenB rs t := by
  unfold seenV
  cases h : seenB rs t with
  | true => rw [if_pos rfl, rep_notnone r]; rfl
  | false => rfl
theorem solid_ok {d : Addr} {kvs : List (Str × Value)} {xs : List T} (G : GF C h) (R : Rm A (k + 3)) (hF : Le F h.get?) (x : RepSh C F s sh) (e0 : At F d (oD (sK C) kvs)) (r0 : Reps C F (kvs.map (·.2)) xs) (d5 : 503 ≤ d) (hz : kvs.length ≤ 60) :
    W C A (call (.ref 417) [.ref s, .ref d]) h (New h (vSs (solid sh.rows (kvs.map (·.1)) xs))) := by
  refine go2 (k := k + 2) (m := []) (v1 := some (.ref s)) (v2 := some (.ref d)) (x1 := Str.ofString "shelf") (x2 := Str.ofString "head") (In.nil (Φ := fun F' => Le F F') G fun F' l => hF.trans (by rw [fz_nil] at l; exact l)) R rfl rfl (by kernel_rfl) (fun s e => BindsTo.of_eq rfl) (by kernel_rfl) (fun n => rfl) (by decide) (fun L => rfl) (fun L => rfl) (fun L => rfl) rfl rfl rfl fun A' L h1' c1 c2 R' S => ?_
  refine bodyK rfl fun Rq kq => ?_
  walk_at "r"
  refine E_compP (h₀ := h) (M := []) (L := L) (cl := [(Str.ofString "shelf", c1), (Str.ofString "head", c2)]) ?_ (by with_unfolding_all rfl) (by kernel_rfl) rfl (by kernel_rfl) (fun Cc => by kernel_rfl)
  walk_at "r"
  refine sorted_dictS R'.hd (e0.mono S.now) d5 hz fun sl h5 vs n5 k5 e5 st5 => ?_
  have S5 := S.keepAt k5 n5 e5
  clear S
  refine I_list S5 S5.now.1 fun I h6 nI ne S6 => ?_
  clear S5
  have vl := strs_len st5
  have vl2 := (sortS_perm (kvs.map (·.1))).length_eq
  rw [List.length_map] at vl2
  refine ⟨I, _, _, oLI sl, _, _, _, _, fun i acc F' => StrsAre acc (((sortS (kvs.map (·.1))).take i).filter fun k => match getT (kvs.map (·.1)) xs k with | some t => seenB sh.rows t | none => false), rfl, Itr.list (vs := vs) ne, R'.hd, by exact om229 hz vl vl2, fun h' q f => f.1, fun F' _ => by simpa using StrsAre.nil, S6, ?_, ?_⟩
  · intro i acc pv D Cc h7 Kf Kt hi ev ha hD kf kt S7
    obtain ⟨ks, tks, ek, rfl⟩ := strs_get st5 ev
    obtain ⟨w, t, hv, hg, rt⟩ := get_rep r0 ((sortS_perm (kvs.map (·.1))).mem_iff.mp (List.mem_of_getElem? ek))
    refine ts_one ?_
    walk_at "r"
    refine D_sub (knd := sK C) (k := ks) (by simp [PySem.strKind, Value.isStrOf]) (e0.mono S7.now.2.2) hv ?_
    walk_at "r"
    refine ⟨S7.g, (seen_ok S7.g R' (fz_le _ _) (x.mono S7.here.2.2) (rt.mono S7.here.2.2)).mono fun u h8 hq3 => ?_⟩
    obtain ⟨e, k8, z8⟩ := hq3
    subst e
    have S8 := S7.keep k8
    clear S7
    walk_at "r"
    refine O_isnot ?_
    rw [seenV_none rt]
    walk_at "r"
    have em : (match getT (kvs.map (·.1)) xs ks with | some t => seenB sh.rows t | none => false) = seenB sh.rows t := by rw [hg]
    refine ⟨fun e => kf _ (S8.imp fun F' _ ⟨f, l⟩ => ⟨?_, l⟩), fun e => ?_⟩
    · try dsimp only at f ⊢
      rw [filter_take _ ek, em, e]
      simpa using f
    · walk_at "r"
      refine kt _ _ (S8.imp fun F' _ ⟨f, l⟩ => ⟨?_, l⟩)
      try dsimp only at f ⊢
      rw [filter_take _ ek, em, e]
      exact strs_append f (.cons _ _ .nil)
  · intro D acc h7 hD D5 ha S7
    have S8 := S7.freeze (Ψ := fun F' => At F' D (oL acc) ∧ StrsAre acc (solid sh.rows (kvs.map (·.1)) xs)) fun F' o po _ e f => ⟨⟨o, e, po⟩, by have := f.1; rwa [vl, List.take_length] at this⟩
    obtain ⟨o, e, p⟩ := S8.now.1
    exact (kq.go ⟨⟨D, acc, rfl, D5, ⟨o, ge_of (Nat.le_trans S6.size hD) e, p⟩, S8.now.2⟩, S8.kb, S8.size⟩)
end
end
section
/-- a line's items: two values of one tree -/
inductive LnR (C : Cx) (F : Fz) : List Value → List T → Prop
  | nil : LnR C F [] []
  | cons {a : Addr} {x y : Value} {t : T} {vs : List Value} {ts : List T} : At F a (oT [x, y]) → Rep C F x t → Rep C F y t → LnR C F vs ts → LnR C F (.ref a :: vs) (t :: ts)
section
variable {C : Cx} {F F' : Fz}
theorem LnR.mono (l : Le F F') {vs : List Value} {ts : List T} (x : LnR C F vs ts) : LnR C F' vs ts := by
  induction x with
  | nil => exact .nil
  | cons a b c _ ih => exact .cons (a.mono l) (b.mono l) (c.mono l) ih
theorem LnR.length : ∀ {vs : List Value} {ts : List T}, LnR C F vs ts → vs.length = ts.length
  | _, _, .nil => rfl
  | _, _, .cons _ _ _ d => by simp [d.length]
theorem LnR.append {vs ws : List Value} {ts us : List T} (x : LnR C F vs ts) (y : LnR C F ws us) : LnR C F (vs ++ ws) (ts ++ us) := by
  induction x with
  | nil => exact y
  | cons a b c _ ih => exact .cons a b c ih
theorem LnR.snoc {vs : List Value} {ts : List T} {a : Addr} {x y : Value} {t : T} (r : LnR C F vs ts) (e : At F a (oT [x, y])) (p : Rep C F x t) (q : Rep C F y t) : LnR C F (vs ++ [.ref a]) (ts ++ [t]) := r.append (.cons e p q .nil)
theorem LnR.last {vs : List Value} {ts : List T} (r : LnR C F vs ts) (h : vs ≠ []) : ∃ vs' ts' a x y t, vs = vs' ++ [.ref a] ∧ ts = ts' ++ [t] ∧ LnR C F vs' ts' ∧ At F a (oT [x, y]) ∧ Rep C F x t ∧ Rep C F y t := by
  induction r with
  | nil => exact absurd rfl h
  | @cons a x y t vs ts e p q r ih =>
    by_cases hv : vs = []
    · subst hv
      cases r
      exact ⟨[], [], a, x, y, t, rfl, rfl, .nil, e, p, q⟩
    · obtain ⟨vs', ts', a', x', y', t', h1, h2, h3, h4⟩ := ih hv
      exact ⟨.ref a :: vs', t :: ts', a', x', y', t', by rw [h1]; rfl, by rw [h2]; rfl, .cons e p q h3, h4⟩
/-- each pair stands for itself -/
noncomputable def VP (F : Fz) (xs : List (Pr × Addr × Value)) : Prop := ∀ e ∈ xs, vTp e.1 e.2.2 F
theorem VP.mono {xs : List (Pr × Addr × Value)} (x : VP F xs) (l : Le F F') : VP F' xs := fun e he => vTp.mono (x e he) l
structure TwA (C : Cx) (F : Fz) (tw th bk ln s1 s2 : Addr) : Prop where
  at' : ∃ dx t1 t2 t3 t4 t5, F tw = some (instObj 455 dx) ∧ At F dx (oI [en C (Str.ofString "one") t1 (.ref s1), en C (Str.ofString "other") t2 (.ref s2), en C (Str.ofString "there") t3 (.ref th), en C (Str.ofString "back") t4 (.ref bk), en C (Str.ofString "line") t5 (.ref ln)])
theorem TwA.mono {tw th bk ln s1 s2 : Addr} (x : TwA C F tw th bk ln s1 s2) (l : Le F F') : TwA C F' tw th bk ln s1 s2 := let ⟨dx, t1, t2, t3, t4, t5, a, b⟩ := x.1; ⟨dx, t1, t2, t3, t4, t5, l _ _ a, b.mono l⟩
end
section
variable {C : Cx} {A : Around} {h : Heap} {P : Value → Heap → Prop} {tw th bk ln s1 s2 : Addr} {k : Nat}
theorem A_one (G : GF C h) (x : TwA C h.get? tw th bk ln s1 s2) (y : P (.ref s1) h) : W C A (getAttr (.ref tw) (Str.ofString "one") true) h P := by
  obtain ⟨dx, t1, t2, t3, t4, t5, hx, o, e, p⟩ := x.1
  exact A_get (attr := none) G hx ⟨o, e, p⟩ (by kernel_rfl) rfl (by kernel_rfl) (by kernel_rfl) (by kernel_rfl) (by kernel_rfl) y
theorem A_other (G : GF C h) (x : TwA C h.get? tw th bk ln s1 s2) (y : P (.ref s2) h) : W C A (getAttr (.ref tw) (Str.ofString "other") true) h P := by
  obtain ⟨dx, t1, t2, t3, t4, t5, hx, o, e, p⟩ := x.1
  exact A_get (attr := none) G hx ⟨o, e, p⟩ (by kernel_rfl) rfl (by kernel_rfl) (by kernel_rfl) (by kernel_rfl) (by kernel_rfl) y
theorem A_there (G : GF C h) (x : TwA C h.get? tw th bk ln s1 s2) (y : P (.ref th) h) : W C A (getAttr (.ref tw) (Str.ofString "there") true) h P := by
  obtain ⟨dx, t1, t2, t3, t4, t5, hx, o, e, p⟩ := x.1
  exact A_get (attr := none) G hx ⟨o, e, p⟩ (by kernel_rfl) rfl (by kernel_rfl) (by kernel_rfl) (by kernel_rfl) (by kernel_rfl) y
theorem A_back (G : GF C h) (x : TwA C h.get? tw th bk ln s1 s2) (y : P (.ref bk) h) : W C A (getAttr (.ref tw) (Str.ofString "back") true) h P := by
  obtain ⟨dx, t1, t2, t3, t4, t5, hx, o, e, p⟩ := x.1
  exact A_get (attr := none) G hx ⟨o, e, p⟩ (by kernel_rfl) rfl (by kernel_rfl) (by kernel_rfl) (by kernel_rfl) (by kernel_rfl) y
theorem A_line (G : GF C h) (x : TwA C h.get? tw th bk ln s1 s2) (y : P (.ref ln) h) : W C A (getAttr (.ref tw) (Str.ofString "line") true) h P := by
  obtain ⟨dx, t1, t2, t3, t4, t5, hx, o, e, p⟩ := x.1
  exact A_get (attr := none) G hx ⟨o, e, p⟩ (by kernel_rfl) rfl (by kernel_rfl) (by kernel_rfl) (by kernel_rfl) (by kernel_rfl) y
theorem M_meet {pl : Sem Bool} {R : Value × List Value → Heap → Prop} (G : GF C h) (x : TwA C h.get? tw th bk ln s1 s2) (y : R (.ref 438, [.ref tw]) h) : W C A (getMethod (.ref tw) (Str.ofString "meet") pl) h R := by
  obtain ⟨dx, t1, t2, t3, t4, t5, hx, o, e, p⟩ := x.1
  exact M_inst G hx ⟨o, e, p⟩ (by kernel_rfl) (by kernel_rfl) (by kernel_rfl) (by kernel_rfl) y
theorem M_meetD {pl : Sem Bool} {R : Value × List Value → Heap → Prop} (G : GF C h) (x : TwA C h.get? tw th bk ln s1 s2) (y : R (.ref 445, [.ref tw]) h) : W C A (getMethod (.ref tw) (Str.ofString "meet_dicts") pl) h R := by
  obtain ⟨dx, t1, t2, t3, t4, t5, hx, o, e, p⟩ := x.1
  exact M_inst G hx ⟨o, e, p⟩ (by kernel_rfl) (by kernel_rfl) (by kernel_rfl) (by kernel_rfl) y
theorem M_meetR {pl : Sem Bool} {R : Value × List Value → Heap → Prop} (G : GF C h) (x : TwA C h.get? tw th bk ln s1 s2) (y : R (.ref 452, [.ref tw]) h) : W C A (getMethod (.ref tw) (Str.ofString "meet_references") pl) h R := by
  obtain ⟨dx, t1, t2, t3, t4, t5, hx, o, e, p⟩ := x.1
  exact M_inst G hx ⟨o, e, p⟩ (by kernel_rfl) (by kernel_rfl) (by kernel_rfl) (by kernel_rfl) y
theorem mkTwin (G : GF C h) (R : Rm A (k + 2)) : W C A (call (.ref 455) [.ref s1, .ref s2]) h (fun v h' => ∃ tw th bk ln, v = .ref tw ∧ h.objs.size ≤ th ∧ h.objs.size ≤ bk ∧ h.objs.size ≤ ln ∧ [th, bk, ln].Nodup ∧ At h'.get? th (oTD C []) ∧ At h'.get? bk (oTD C []) ∧ At h'.get? ln (oL []) ∧ TwA C (ge h.objs.size (fz [th, bk, ln] h')) tw th bk ln s1 s2 ∧ Kb [] h h' ∧ h.objs.size ≤ h'.objs.size) := by
  refine make (fI := 431) G R (by kernel_rfl) (by kernel_rfl) (by kernel_rfl) fun A' R' => ?_
  refine goC (m := [(Str.ofString "other", .ref s2), (Str.ofString "one", .ref s1), (Str.ofString "self", .ref (h.objs.size + 1))]) (made_in (Φ := fun F => True) G fun F l => trivial) R' rfl rfl (by kernel_rfl) (fun s e => BindsTo.of_eq rfl) rfl (by kernel_rfl) (by kernel_rfl) rfl rfl rfl fun A'' L h1 R'' S => ?_
  refine bodyK rfl fun Rq kq => ?_
  walk_at "r"
  refine A_set S (S.now.1) (by kernel_rfl) (by kernel_rfl) (by kernel_rfl) (by kernel_rfl) rfl (by decide) fun h2 t1 (S2 : St C _ _ _ _ [(h.objs.size, oI [en C (Str.ofString "one") t1 (.ref s1)])] _ h2) => ?_
  clear S
  walk_at "r"
  refine A_set S2 (S2.now.1) (by kernel_rfl) (by kernel_rfl) (by kernel_rfl) (by kernel_rfl) (by kernel_rfl) (by simp) fun h3 t2 (S3 : St C _ _ _ _ [(h.objs.size, oI [en C (Str.ofString "one") t1 (.ref s1), en C (Str.ofString "other") t2 (.ref s2)])] _ h3) => ?_
  clear S2
  refine X_setattr ?_
  refine S_dict S3 (O := oTD C []) oTD_new fun th h4 nth th5 S4 => ?_
  have zth := Nat.le_trans S3.size nth
  clear S3
  have S4' := S4.perm (σ' := [(h.objs.size, oI [en C (Str.ofString "one") t1 (.ref s1), en C (Str.ofString "other") t2 (.ref s2)]), (th, oTD C [])]) (List.Perm.swap _ _ _)
  clear S4
  walk_at "r"
  refine A_set S4' (S4'.now.1) (by kernel_rfl) (by kernel_rfl) (by kernel_rfl) (by kernel_rfl) (by kernel_rfl) (by simp) fun h5 t3 (S5 : St C _ _ _ _ [(h.objs.size, oI [en C (Str.ofString "one") t1 (.ref s1), en C (Str.ofString "other") t2 (.ref s2), en C (Str.ofString "there") t3 (.ref th)]), (th, oTD C [])] _ h5) => ?_
  clear S4'
  refine X_setattr ?_
  refine S_dict S5 (O := oTD C []) oTD_new fun bk h6 nbk bk5 S6 => ?_
  have zbk := Nat.le_trans S5.size nbk
  clear S5
  have S6' := S6.perm (σ' := [(h.objs.size, oI [en C (Str.ofString "one") t1 (.ref s1), en C (Str.ofString "other") t2 (.ref s2), en C (Str.ofString "there") t3 (.ref th)]), (bk, oTD C []), (th, oTD C [])]) (List.Perm.swap _ _ _)
  clear S6
  walk_at "r"
  refine A_set S6' (S6'.now.1) (by kernel_rfl) (by kernel_rfl) (by kernel_rfl) (by kernel_rfl) (by kernel_rfl) (by simp) fun h7 t4 (S7 : St C _ _ _ _ [(h.objs.size, oI [en C (Str.ofString "one") t1 (.ref s1), en C (Str.ofString "other") t2 (.ref s2), en C (Str.ofString "there") t3 (.ref th), en C (Str.ofString "back") t4 (.ref bk)]), (bk, oTD C []), (th, oTD C [])] _ h7) => ?_
  clear S6'
  refine X_setattr ?_
  walk_at "r"
  refine S_list S7 fun ln h8 nln ln5 S8 => ?_
  have zln := Nat.le_trans S7.size nln
  clear S7
  have S8' := S8.perm (σ' := [(h.objs.size, oI [en C (Str.ofString "one") t1 (.ref s1), en C (Str.ofString "other") t2 (.ref s2), en C (Str.ofString "there") t3 (.ref th), en C (Str.ofString "back") t4 (.ref bk)]), (ln, oL []), (bk, oTD C []), (th, oTD C [])]) (List.Perm.swap _ _ _)
  clear S8
  walk_at "r"
  refine A_set S8' (S8'.now.1) (by kernel_rfl) (by kernel_rfl) (by kernel_rfl) (by kernel_rfl) (by kernel_rfl) (by simp) fun h9 t5 (S9 : St C _ _ _ _ [(h.objs.size, oI [en C (Str.ofString "one") t1 (.ref s1), en C (Str.ofString "other") t2 (.ref s2), en C (Str.ofString "there") t3 (.ref th), en C (Str.ofString "back") t4 (.ref bk), en C (Str.ofString "line") t5 (.ref ln)]), (ln, oL []), (bk, oTD C []), (th, oTD C [])] _ h9) => ?_
  clear S8'
  walk_at "r"
  rw [Heap.size_push, Heap.size_push] at zth zbk zln
  have S10 := S9.freeze (Ψ := fun F => F (h.objs.size + 1) = some (instObj 455 h.objs.size) ∧ At F h.objs.size (oI [en C (Str.ofString "one") t1 (.ref s1), en C (Str.ofString "other") t2 (.ref s2), en C (Str.ofString "there") t3 (.ref th), en C (Str.ofString "back") t4 (.ref bk), en C (Str.ofString "line") t5 (.ref ln)])) fun F o po _ e f => ⟨f.1, ⟨o, e, po⟩⟩
  clear S9
  have f := S10.φ (fz [th, bk, ln] h9) fun a o e => let ⟨n, e⟩ := fz_some e; fz_of (fun q => n (by simp [ads] at q ⊢; rcases q with q | q | q <;> simp [q])) e
  obtain ⟨f1, o, f2, f3⟩ := f
  have nd := S10.ndσ
  simp only [ads, List.map_cons, List.map_nil] at nd
  refine ⟨rfl, _, th, bk, ln, rfl, by exact om230 zth, by exact om230 zbk, by exact om230 zln, ?_, S10.at2, S10.at1, S10.at0, ⟨_, t1, t2, t3, t4, t5, ge_of (Nat.le_succ _) f1, o, ge_of (Nat.le_refl _) f2, f3⟩, made_kb S10.kb, made_sz S10.size⟩
  exact (List.reverse_perm [th, bk, ln]).nodup_iff.mp nd
end
end
section
structure TwC (C : Cx) (F : Fz) (tw th bk ln s1 s2 : Addr) (sh1 sh2 : Sh) : Prop where
  a : TwA C F tw th bk ln s1 s2
  r1 : RepSh C F s1 sh1
  r2 : RepSh C F s2 sh2
  f1 : Fit sh1
  f2 : Fit sh2
  nd : [th, bk, ln].Nodup
  t5 : 503 ≤ th
  b5 : 503 ≤ bk
  l5 : 503 ≤ ln
structure TwF (C : Cx) (F : Fz) (f : List Pr) (xs ys : List (Pr × Addr × Value)) (ws : List Value) (ts : List T) : Prop where
  fx : xs.map (·.1) = f
  fy : ys.map (·.1) = f
  kx : KeysAt F xs
  ky : KeysAt F ys
  vx : VP F xs
  vy : VP F ys
  lr : LnR C F ws ts
structure TwS (C : Cx) (h : Heap) (F : Fz) (th bk ln : Addr) (f : List Pr) (ts : List T) : Prop where
  all : ∃ xs ys ws, At h.get? th (oTD C xs) ∧ At h.get? bk (oTD C ys) ∧ At h.get? ln (oL ws) ∧ TwF C F f xs ys ws ts
theorem TwC.mono {C : Cx} {F F' : Fz} {tw th bk ln s1 s2 : Addr} {sh1 sh2 : Sh} (x : TwC C F tw th bk ln s1 s2 sh1 sh2) (l : Le F F') : TwC C F' tw th bk ln s1 s2 sh1 sh2 := ⟨x.a.mono l, x.r1.mono l, x.r2.mono l, x.f1, x.f2, x.nd, x.t5, x.b5, x.l5⟩
theorem TwF.mono {C : Cx} {F F' : Fz} {f : List Pr} {xs ys : List (Pr × Addr × Value)} {ws : List Value} {ts : List T} (x : TwF C F f xs ys ws ts) (l : Le F F') : TwF C F' f xs ys ws ts := ⟨x.fx, x.fy, x.kx.mono l, x.ky.mono l, x.vx.mono l, x.vy.mono l, x.lr.mono l⟩
noncomputable abbrev MPost (C : Cx) (h : Heap) (F : Fz) (th bk ln : Addr) (f : List Pr) (ts : List T) : Value → Heap → Prop := fun u h' => u = .bool true ∧ TwS C h' (mix h.objs.size F (fz [th, bk, ln] h')) th bk ln f ts ∧ Kb [th, bk, ln] h h' ∧ h.objs.size ≤ h'.objs.size
theorem solid_len (rs : List Row) (ks : List Str) (xs : List T) : (solid rs ks xs).length ≤ ks.length := by
  unfold solid
  exact Nat.le_trans (List.length_filter_le _ _) (Nat.le_of_eq (sortS_perm ks).length_eq)
theorem depths_strs : ∀ ss : List Str, depths (ss.map .str) = 0
  | [] => rfl
  | s :: ss => by simp [depths, Dv.depth, depths_strs ss]
theorem strs_rd {F : Fz} : ∀ {vs : List Value} {ss : List Str}, StrsAre vs ss → RDs F vs (ss.map .str)
  | _, _, .nil => .nil
  | _, _, .cons s t b => .cons (.str s t) (strs_rd b)
section
variable {C : Cx} {A : Around} {h h₀ : Heap} {F : Fz} {k : Nat} {tw th bk ln s1 s2 : Addr} {sh1 sh2 : Sh} {f : List Pr} {ts : List T} {M : List Addr} {L : Addr} {m : Loc} {Φ : Fz → Prop}
theorem St.three {P1 P2 P3 : Obj → Prop} (S : St C h₀ M L m [(th, P1), (bk, P2), (ln, P3)] Φ h) : Φ (fz [th, bk, ln] h) := S.φ _ fun a o e => let ⟨n, e⟩ := fz_some e; fz_of (fun q => n (.tail _ q)) e
theorem In.three {xs ys : List (Pr × Addr × Value)} {ws : List Value} (G : GF C h) (hF : Le F (fz [th, bk, ln] h)) (T : TwC C F tw th bk ln s1 s2 sh1 sh2) (e1 : At h.get? th (oTD C xs)) (e2 : At h.get? bk (oTD C ys)) (e3 : At h.get? ln (oL ws)) :
    In C h [(th, oTD C xs), (bk, oTD C ys), (ln, oL ws)] (fun F' => Le F F') := by
  refine ⟨G, fun q hq => ?_, T.nd, fun q hq => ?_, fun F' l => hF.trans l⟩
  · simp only [List.mem_cons, List.not_mem_nil, or_false] at hq
    rcases hq with rfl | rfl | rfl
    · exact e1
    · exact e2
    · exact e3
  · simp only [List.mem_cons, List.not_mem_nil, or_false] at hq
    rcases hq with rfl | rfl | rfl
    · exact T.t5
    · exact T.b5
    · exact T.l5
noncomputable abbrev keyT : Option Value → Loc
  | none => []
  | some v => [(Str.ofString "key", v)]
inductive MDJ (C : Cx) (h₀ : Heap) (L I tw d1 d2 kl th bk ln : Addr) (F : Fz) (f : List Pr) (xs ys : List (Pr × Addr × Value)) (ts us : List T) (ks so : List Str) (kvs : List Value) (n : Nat) (i : Nat) (h : Heap) : Prop
  | mk (o : Option Value) (ws : List Value) (z0 : ws.length ≤ n + i) (z1 : St C h₀ [th, bk, ln] L ((Str.ofString "second", .ref d2) :: (Str.ofString "first", .ref d1) :: (Str.ofString "self", .ref tw) :: (Str.ofString "keys", .ref kl) :: keyT o) [(I, oLI kl i), (th, oTD C xs), (bk, oTD C ys), (ln, oL ws)]
    (fun F' => At F' kl (oL kvs) ∧ TwF C (mix h₀.objs.size F F') f xs ys ws (ts ++ (so.take i).filterMap (getT ks us)) ∧ Le F F') h)
theorem meetD_ok {d1 d2 : Addr} {kvs1 kvs2 : List (Str × Value)} {ks : List Str} {us : List T} (G : GF C h) (R : Rm A (k + 4)) (hF : Le F (fz [th, bk, ln] h)) (T : TwC C F tw th bk ln s1 s2 sh1 sh2) (S0 : TwS C h F th bk ln f ts) (e1 : At F d1 (oD (sK C) kvs1)) (r1 : Reps C F (kvs1.map (·.2)) us) (e2 : At F d2 (oD (sK C) kvs2)) (r2 : Reps C F (kvs2.map (·.2)) us)
    (hk1 : kvs1.map (·.1) = ks) (hk2 : kvs2.map (·.1) = ks) (d15 : 503 ≤ d1) (d25 : 503 ≤ d2) (hz : kvs1.length ≤ 60) (hso : solid sh1.rows ks us = solid sh2.rows ks us) (hts : ts.length ≤ 10000) :
    W C A (call (.ref 445) [.ref tw, .ref d1, .ref d2]) h (MPost C h F th bk ln f (ts ++ (solid sh1.rows ks us).filterMap (getT ks us))) := by
  obtain ⟨xs, ys, ws, o1, o2, o3, TF⟩ := S0.1
  have hFh : Le F h.get? := hF.trans (fz_le _ _)
  refine go (k := k + 3) (m := [(Str.ofString "second", .ref d2), (Str.ofString "first", .ref d1), (Str.ofString "self", .ref tw)]) (In.three G hF T o1 o2 o3) R rfl rfl (by kernel_rfl) (fun s e => BindsTo.of_eq rfl) rfl (by kernel_rfl) (by kernel_rfl) rfl rfl rfl fun A' L h1 R' S => ?_
  have hu : A'.units + 200 < cLine := by have := R'.un; exact om49 this
  have hkl : kvs2.length = kvs1.length := by have := congrArg List.length (hk1.trans hk2.symm); simpa using this.symm
  have b1 : 100000 < sizeLine := by decide
  refine bodyK rfl fun Rq kq => ?_
  walk_at "r"
  refine A_one S.g (T.a.mono S.now) ?_
  walk_at "r"
  refine ⟨S.g, (solid_ok S.g R' (fz_le _ _) (T.r1.mono S.here) (e1.mono S.here) (r1.mono S.here) d15 hz).mono fun u h2 hq1 => ?_⟩
  obtain ⟨⟨kl, kws, e, kl5, ekl, st1⟩, k2, z2⟩ := hq1
  subst e
  rw [hk1] at st1
  have S2 := S.newx k2 (X := fun F' => At F' kl (oL kws)) (fun x l => x.mono l) ekl
  clear S
  walk_at "s"
  intro h3 S3
  clear S2
  walk_at "r"
  refine A_other S3.g (T.a.mono S3.now.2) ?_
  walk_at "r"
  refine ⟨S3.g, (solid_ok S3.g R' (fz_le _ _) (T.r2.mono S3.here.2) (e2.mono S3.here.2) (r2.mono S3.here.2) d25 (by exact om88 hz hkl)).mono fun u h4 hq2 => ?_⟩
  obtain ⟨⟨kl2, kws2, e, kl25, ekl2, st2⟩, k4, z4⟩ := hq2
  subst e
  rw [hk2, ← hso] at st2
  have S4 := S3.newx k4 (X := fun F' => At F' kl2 (oL kws2)) (fun x l => x.mono l) ekl2
  clear S3
  refine O_neL (ds := (solid sh1.rows ks us).map .str) (by rw [depths_strs]; exact om231 hu) (.lst (S4.now.2.1.mono ge_le) (strs_rd st1)) (.lst (S4.now.1.mono ge_le) (strs_rd st2)) ?_
  have S5 := S4.imp (Ψ := fun F' => At F' kl (oL kws) ∧ TwF C (mix h.objs.size F F') f xs ys ws ts ∧ Le F F') fun F' _ q => ⟨q.2.1.mono ge_le, TF.mono (mix_old hFh), q.2.2⟩
  clear S4
  walk_at "r"
  refine ⟨no_tt rfl, fun _ => ?_⟩
  walk_at "r"
  refine X_forI (h₀ := h) (M := ads [(th, oTD C xs), (bk, oTD C ys), (ln, oL ws)]) (L := L) ?_
  walk_at "r"
  refine I_list S5 S5.now.1 fun I h6 nI ne S6 => ?_
  clear S5
  have wl : ws.length = ts.length := TF.lr.length
  have sl := strs_len st1
  have sl2 : (solid sh1.rows ks us).length ≤ 60 := by
    have e3 := solid_len sh1.rows ks us
    have e5 := congrArg List.length hk1
    simp only [List.length_map] at e5
    exact om232 hz hkl e3 e5
  refine ⟨I, kws.length, _, oLI kl, _, MDJ C h L I tw d1 d2 kl th bk ln F f xs ys ts us ks (solid sh1.rows ks us) kws ws.length, rfl, Itr.list (vs := kws) ne, R'.hd, ⟨none, ws, Nat.le_refl _, S6.imp fun F' _ q => ⟨q.1, by simpa using q.2.1, q.2.2⟩⟩, ?_, ?_⟩
  · rintro i hh hi ⟨o, ws, hwl, S7⟩
    refine ⟨_, _, _, S7, S7.now.1, fun Rr kr u h7 eu S8 => ?_⟩
    clear S7 S6
    obtain ⟨kk, tk, ek, rfl⟩ := strs_get st1 eu
    have hin : kk ∈ ks := (sortS_perm ks).mem_iff.mp (List.mem_filter.mp (List.mem_of_getElem? ek)).1
    obtain ⟨v1, t1, hv1, hg1, rt1⟩ := get_rep r1 (k := kk) (by rw [hk1]; exact hin)
    obtain ⟨v2, t2, hv2, hg2, rt2⟩ := get_rep r2 (k := kk) (by rw [hk2]; exact hin)
    rw [hk1] at hg1
    rw [hk2, hg1] at hg2
    cases hg2
    walk_at "w"
    walk_at "s"
    intro h8 S9'
    clear S8
    have S9 := S9'.lo (m' := (Str.ofString "second", .ref d2) :: (Str.ofString "first", .ref d1) :: (Str.ofString "self", .ref tw) :: (Str.ofString "keys", .ref kl) :: keyT (some (.str kk tk))) (by rcases o with _ | q <;> with_unfolding_all rfl)
    clear S9'
    walk_at "r"
    refine A_line S9.g (T.a.mono S9.now.2.2) ?_
    refine M_list S9.at3 PySem.F.slot_list_append (by kernel_rfl) ?_
    walk_at "r"
    refine D_sub (knd := sK C) (k := kk) (by simp [PySem.strKind, Value.isStrOf]) (e1.mono S9.now.2.2) hv1 ?_
    walk_at "r"
    refine D_sub (knd := sK C) (k := kk) (by simp [PySem.strKind, Value.isStrOf]) (e2.mono S9.now.2.2) hv2 ?_
    walk_at "r"
    refine S_tuple S9 fun ta h9 na ta5 S10 => ?_
    have nah := Nat.le_trans S9.size na
    clear S9
    walk_at "r"
    refine O_append S10.at3 (by exact om233 hts b1 wl sl sl2 hi hwl) fun h10 k10 e10 => ?_
    have S11 := S10.put3 k10 e10
    clear S10
    walk_at "r"
    refine ⟨_, _, by rw [List.length_append, List.length_singleton]; exact om234 hwl, S11.imp fun F' _ ⟨⟨o, e, p⟩, q1, q2, q3⟩ => ⟨q1, ⟨q2.fx, q2.fy, q2.kx, q2.ky, q2.vx, q2.vy, ?_⟩, q3⟩⟩
    rw [List.take_add_one, ek, List.filterMap_append, ← List.append_assoc]
    have := q2.lr.snoc ⟨o, mix_new nah e, p⟩ (rt1.mono (mix_old hFh)) (rt2.mono (mix_old hFh))
    simpa [hg1] using this
  · rintro hh ⟨o, ws, hwl, S7⟩
    refine ⟨_, _, _, S7, S7.now.1, fun h7 S8 => ?_⟩
    clear S7 S6
    walk_at "r"
    rw [sl, List.take_length] at S8
    exact ⟨rfl, ⟨xs, ys, ws, S8.at0, S8.at1, S8.at2, S8.three.2.1⟩, S8.kb, S8.size⟩
end
end
section
section
variable {C : Cx} {A : Around} {h h₀ : Heap} {F : Fz} {k : Nat} {tw th bk ln s1 s2 : Addr} {sh1 sh2 : Sh} {f : List Pr} {ts : List T} {M : List Addr} {L : Addr} {m : Loc} {Φ : Fz → Prop}
theorem M_dictT {d : Addr} {xs : List (Pr × Addr × Value)} {name : Str} {id : String} {pl : Sem Bool} {R : Value × List Value → Heap → Prop} (e : At h.get? d (oTD C xs)) (slot : Slot "dict" name id) (hty : typeOf (.builtin id) = pure (.type "method_descriptor")) (x : R (.builtin id, [.ref d]) h) :
    W C A (getMethod (.ref d) name pl) h R := W.mk fun s tk => by
  obtain ⟨o, ho, es, ep, c, _⟩ := e
  exact getMethod_builtin (s := st s h tk) ⟨_, ho, c.1⟩ PySem.F.plainAttrs_dict slot hty (fun a q => by cases q; exact ⟨_, ho, c.2.1⟩) ⟨h, tk, rfl, x⟩
theorem Tp.rd {F : Fz} {a : Addr} {p : Pr} (x : Tp F a p) : RD F (.ref a) (.tup [.int p.1, .int p.2]) := let ⟨t, u, e⟩ := x; .tup e (.cons (.int _ _) (.cons (.int _ _) .nil))
theorem seenAt_val {F : Fz} {xs : List (Pr × Addr × Value)} {p : Pr} (v : VP F xs) (h : p ∈ xs.map (·.1)) : ∃ w, seenAt xs p = some w ∧ vTp p w F := by
  have e : (seenAt xs p).isSome = true := by rw [seen_some]; simpa using h
  obtain ⟨w, hw⟩ := Option.isSome_iff_exists.mp e
  refine ⟨w, hw, ?_⟩
  unfold seenAt at hw
  obtain ⟨x, hx, rfl⟩ := Option.map_eq_some_iff.mp hw
  have h1 := List.find?_some hx
  simp only [decide_eq_true_eq] at h1
  rw [← h1]
  exact v x (List.mem_of_find?_eq_some hx)
theorem meetR_ok {fa sa : Addr} {p : Pr} (G : GF C h) (R : Rm A (k + 1)) (hF : Le F (fz [th, bk, ln] h)) (T : TwC C F tw th bk ln s1 s2 sh1 sh2) (S0 : TwS C h F th bk ln f ts) (hfa : Tp F fa p) (hsa : Tp F sa p) (fa5 : 503 ≤ fa) (sa5 : 503 ≤ sa)
    (hp1 : there sh1.rows p = true) (hp2 : there sh2.rows p = true) (htr : treeAt sh1.rows p = treeAt sh2.rows p) (hts : ts.length ≤ 10000) (hfl : f.length ≤ 10000) :
    W C A (call (.ref 452) [.ref tw, .ref fa, .ref sa]) h (MPost C h F th bk ln (if p ∈ f then f else f ++ [p]) (if p ∈ f then ts else ts ++ [treeAt sh1.rows p])) := by
  obtain ⟨xs, ys, ws, o1, o2, o3, TF⟩ := S0.1
  have hFh : Le F h.get? := hF.trans (fz_le _ _)
  refine go (m := [(Str.ofString "second", .ref sa), (Str.ofString "first", .ref fa), (Str.ofString "self", .ref tw)]) (In.three G hF T o1 o2 o3) R rfl rfl (by kernel_rfl) (fun s e => BindsTo.of_eq rfl) rfl (by kernel_rfl) (by kernel_rfl) rfl rfl rfl fun A' L h1 R' S0' => ?_
  have hu : A'.units + 200 < cLine := by have := R'.un; exact om235 this
  have b1 : 100000 < sizeLine := by decide
  have S := S0'.imp (Ψ := fun F' => TwF C (mix h.objs.size F F') f xs ys ws ts ∧ Le F F') fun F' _ q => ⟨TF.mono (mix_old hFh), q⟩
  clear S0'
  have wl : ws.length = ts.length := TF.lr.length
  have xl : xs.length = f.length := by have := congrArg List.length TF.fx; simpa using this
  have yl : ys.length = f.length := by have := congrArg List.length TF.fy; simpa using this
  have nowF : ∀ {F'}, Le F F' → TwF C F' f xs ys ws ts := fun l => TF.mono l
  have dd : depths [Dv.int p.1, Dv.int p.2] = 0 := rfl
  refine bodyK rfl fun Rq kq => ?_
  walk_at "r"
  refine A_there S.g (T.a.mono S.now.2) ?_
  refine TD_in (by exact om52 hu) (hfa.mono S.now.2) S.at0 (nowF S.now.2).kx T.t5 ?_
  rw [seen_some, TF.fx]
  walk_at "r"
  refine ⟨fun c => ?_, fun c => ?_⟩
  · have c : p ∈ f := by simpa using c
    refine ⟨fun _ => ?_, no_ff rfl⟩
    rw [if_pos c, if_pos c] at kq
    obtain ⟨w1, hw1, wa, rfl, wa5, wt⟩ := seenAt_val TF.vx (by rw [TF.fx]; exact c)
    obtain ⟨w2, hw2, wb, rfl, wb5, wt2⟩ := seenAt_val TF.vy (by rw [TF.fy]; exact c)
    walk_at "r"
    refine A_there S.g (T.a.mono S.now.2) ?_
    refine M_dictT S.at0 PySem.F.slot_dict_get PySem.F.type_dict_get ?_
    walk_at "r"
    refine TD_get (by exact om52 hu) (hfa.mono S.now.2) S.at0 (nowF S.now.2).kx T.t5 ?_
    rw [hw1]
    walk_at "r"
    refine O_eqT (ds := [.int p.1, .int p.2]) (by rw [dd]; exact om231 hu) ((wt.mono S.now.2).rd) ((hsa.mono S.now.2).rd) ?_
    walk_at "r"
    refine ⟨fun _ => ?_, no_ff rfl⟩
    walk_at "r"
    refine A_back S.g (T.a.mono S.now.2) ?_
    refine M_dictT S.at1 PySem.F.slot_dict_get PySem.F.type_dict_get ?_
    walk_at "r"
    refine TD_get (by exact om52 hu) (hsa.mono S.now.2) S.at1 (nowF S.now.2).ky T.b5 ?_
    rw [hw2]
    walk_at "r"
    refine O_eqT (ds := [.int p.1, .int p.2]) (by rw [dd]; exact om231 hu) ((wt2.mono S.now.2).rd) ((hfa.mono S.now.2).rd) ?_
    exact (kq.go ⟨rfl, ⟨xs, ys, ws, S.at0, S.at1, S.at2, S.three.1⟩, S.kb, S.size⟩)
  · have c : p ∉ f := by simpa using c
    walk_at "r"
    refine A_back S.g (T.a.mono S.now.2) ?_
    refine TD_in (by exact om52 hu) (hsa.mono S.now.2) S.at1 (nowF S.now.2).ky T.b5 ?_
    rw [seen_some, TF.fy]
    walk_at "r"
    refine ⟨fun c2 => absurd (by simpa using c2) c, fun _ => ?_⟩
    walk_at "r"
    refine ⟨no_tt rfl, fun _ => ?_⟩
    rw [if_neg c, if_neg c] at kq
    walk_at "r"
    refine A_there S.g (T.a.mono S.now.2) ?_
    walk_at "r"
    refine TD_set (by exact om52 hu) (hfa.mono S.now.2) S.at0 (nowF S.now.2).kx (by rw [← Option.isNone_iff_eq_none, ← Option.not_isSome, seen_some, TF.fx]; simpa using c) (by exact om236 hfl xl yl) fun h2 k2 e2 => ?_
    have S2 := S.put0 k2 e2
    clear S
    walk_at "r"
    refine A_back S2.g (T.a.mono S2.now.2) ?_
    walk_at "r"
    refine TD_set (by exact om52 hu) (hsa.mono S2.now.2) S2.at1 (nowF S2.now.2).ky (by rw [← Option.isNone_iff_eq_none, ← Option.not_isSome, seen_some, TF.fy]; simpa using c) (by exact om237 hfl xl yl) fun h3 k3 e3 => ?_
    have S3 := S2.put1 k3 e3
    clear S2
    walk_at "r"
    refine A_line S3.g (T.a.mono S3.now.2) ?_
    refine M_list S3.at2 PySem.F.slot_list_append (by kernel_rfl) ?_
    walk_at "r"
    obtain ⟨td1, rd1, kvs1, tvs1, a1, a2, a3, -⟩ := T.r1.1
    obtain ⟨td2, rd2, kvs2, tvs2, b1', b2, b3, -⟩ := T.r2.1
    obtain ⟨ra1, g1, tg1, w1, tr1, c1, c2, c3, c4, c5⟩ := a3.some (n := p.1) (by rw [a3.none, there_find hp1]; rfl)
    obtain ⟨ra2, g2, tg2, w2, tr2, d1, d2, d3, d4, d5⟩ := b3.some (n := p.1) (by rw [b3.none, there_find hp2]; rfl)
    rw [there_find hp1] at c2
    rw [there_find hp2] at d2
    simp only [Option.some.injEq, Prod.mk.injEq] at c2 d2
    obtain ⟨tt1, tt2, hfa'⟩ := hfa
    obtain ⟨tt3, tt4, hsa'⟩ := hsa
    refine A_one S3.g (T.a.mono S3.now.2) ?_
    walk_at "r"
    refine A_table S3.g (a1.mono S3.now.2) ?_
    walk_at "r"
    refine O_subT (hfa'.mono S3.now.2) (by decide) (by decide) rfl ?_
    refine D_sub (knd := iK C) (k := p.1) (by simp [PySem.intKind, Value.isInt]) (a2.mono S3.now.2) c1 ?_
    walk_at "r"
    refine O_subT (c3.mono S3.now.2) (by decide) (by decide) rfl ?_
    walk_at "r"
    refine A_other S3.g (T.a.mono S3.now.2) ?_
    walk_at "r"
    refine A_table S3.g (b1'.mono S3.now.2) ?_
    walk_at "r"
    refine O_subT (hsa'.mono S3.now.2) (by decide) (by decide) rfl ?_
    refine D_sub (knd := iK C) (k := p.1) (by simp [PySem.intKind, Value.isInt]) (b2.mono S3.now.2) d1 ?_
    walk_at "r"
    refine O_subT (d3.mono S3.now.2) (by decide) (by decide) rfl ?_
    walk_at "r"
    refine S_tuple S3 fun ta h4 na ta5 S4 => ?_
    have nah := Nat.le_trans S3.size na
    clear S3
    walk_at "r"
    refine O_append S4.at2 (by exact om238 hts b1 wl) fun h5 k5 e5 => ?_
    have S5 := S4.put2 k5 e5
    clear S4
    walk_at "r"
    have lk := S5.three
    obtain ⟨⟨o, e, q⟩, q2, q3⟩ := lk
    have mo := mix_old (F' := fz [th, bk, ln] h5) hFh
    have kp : ∀ (zs : List (Pr × Addr × Value)) (z : Addr), Tp (mix h.objs.size F (fz [th, bk, ln] h5)) z p → KeysAt (mix h.objs.size F (fz [th, bk, ln] h5)) zs → ∀ v, KeysAt (mix h.objs.size F (fz [th, bk, ln] h5)) (zs ++ [(p, z, v)]) := fun zs z tz kz v y hy => by
      rcases List.mem_append.mp hy with hy | hy
      · exact kz y hy
      · rw [List.mem_singleton.mp hy]; exact tz
    have vp : ∀ (zs : List (Pr × Addr × Value)) (z v : Addr), Tp (mix h.objs.size F (fz [th, bk, ln] h5)) v p → 503 ≤ v → VP (mix h.objs.size F (fz [th, bk, ln] h5)) zs → VP (mix h.objs.size F (fz [th, bk, ln] h5)) (zs ++ [(p, z, .ref v)]) := fun zs z v tv v5 vz y hy => by
      rcases List.mem_append.mp hy with hy | hy
      · exact vz y hy
      · rw [List.mem_singleton.mp hy]; exact ⟨v, rfl, v5, tv⟩
    have ht1 : Tp (mix h.objs.size F (fz [th, bk, ln] h5)) fa p := ⟨_, _, hfa'.mono mo⟩
    have ht2 : Tp (mix h.objs.size F (fz [th, bk, ln] h5)) sa p := ⟨_, _, hsa'.mono mo⟩
    rw [← c2.2] at c5
    rw [← d2.2, ← htr] at d5
    exact ⟨rfl, ⟨_, _, _, S5.at0, S5.at1, S5.at2, ⟨by simp [TF.fx], by simp [TF.fy], kp _ _ ht1 q2.kx _, kp _ _ ht2 q2.ky _, vp _ _ _ ht2 sa5 q2.vx, vp _ _ _ ht1 fa5 q2.vy, q2.lr.snoc ⟨o, mix_new nah e, q⟩ (c5.mono mo) (d5.mono mo)⟩⟩, S5.kb, S5.size⟩
end
end
section
theorem LnR.ofTw {C : Cx} {F : Fz} {us vs ws : List Value} {ts : List T} (tw : Tw F ws (us.zip vs)) (x : Reps C F us ts) (y : Reps C F vs ts) : LnR C F ws ts := by
  revert vs ws
  refine Reps.ind (P := fun us ts => ∀ {vs ws : List Value}, Tw F ws (us.zip vs) → Reps C F vs ts → LnR C F ws ts) (fun {vs ws} tw y => by cases tw; exact .nil) (fun {u us t ts} a _ ih {vs ws} tw y => ?_) x
  cases y with
  | cons c d => cases tw with
    | cons e r => exact .cons e a c (ih r d)
noncomputable def mF (rs : List Row) (f : List Pr) : T → List Pr
  | .ref p => if there rs p = true then (if p ∈ f then f else f ++ [p]) else f
  | _ => f
noncomputable def mT (rs : List Row) (f : List Pr) (ts : List T) : T → List T
  | .ref p => if there rs p = true then (if p ∈ f then ts else ts ++ [treeAt rs p]) else ts
  | .array xs => ts ++ xs
  | .dict ks us => ts ++ (solid rs ks us).filterMap (getT ks us)
  | .stream ks us _ => ts ++ (solid rs ks us).filterMap (getT ks us)
  | _ => ts
/-- two shelves say the same of each pair in t -/
noncomputable def Same (rs1 rs2 : List Row) (t : T) : Prop := ∀ p, Has p t → there rs1 p = there rs2 p ∧ (there rs1 p = true → treeAt rs1 p = treeAt rs2 p)
theorem Same.part {rs1 rs2 : List Row} {t u : T} (s : Same rs1 rs2 t) (h : u ∈ parts t) : Same rs1 rs2 u := fun p hp => s p (.part h hp)
theorem Same.seen {rs1 rs2 : List Row} : ∀ {t : T}, Same rs1 rs2 t → seenB rs1 t = seenB rs2 t
  | .ref p, s => (s p .ref).1
  | .int _, _ => rfl
  | .name _, _ => rfl
  | .array _, _ => rfl
  | .dict _ _, _ => rfl
  | .stream _ _ _, _ => rfl
theorem same_solid {rs1 rs2 : List Row} {ks : List Str} {us : List T} (s : ∀ u ∈ ordT ks us, Same rs1 rs2 u) : solid rs1 ks us = solid rs2 ks us := by
  unfold solid
  refine List.filter_congr fun k hk => ?_
  cases e : getT ks us k with
  | none => rfl
  | some u => exact (s u (List.mem_filterMap.mpr ⟨k, hk, e⟩)).seen
theorem ge_mix {n : Nat} {F F' : Fz} : Le (ge n F') (mix n F F') := fun a o e => mix_new (ge_some e).1 (ge_some e).2
theorem mix_step {h h1 h2 : Heap} {F : Fz} {D : List Addr} {L : Addr} (hF : Le F (fz D h)) (k1 : Kb D h h1) (z : h.objs.size ≤ h1.objs.size) (k2 : Kb D h1 h2) : Le (mix h1.objs.size (mix h.objs.size F (fz (L :: D) h1)) (fz D h2)) (mix h.objs.size F (fz D h2)) := fun a o e => by
  have lt : ∀ {n : Nat} {G X : Fz} {a : Addr}, a < n → mix n G X a = G a := fun q => by unfold mix; rw [if_pos q]
  have gt : ∀ {n : Nat} {G X : Fz} {a : Addr}, ¬ a < n → mix n G X a = X a := fun q => by unfold mix; rw [if_neg q]
  by_cases q : a < h.objs.size
  · rw [lt (Nat.lt_of_lt_of_le q z), lt q] at e
    rw [lt q]; exact e
  · rw [gt q]
    by_cases q1 : a < h1.objs.size
    · rw [lt q1, gt q] at e
      obtain ⟨n, e⟩ := fz_some e
      exact fz_of (fun z => n (.tail _ z)) (k2 a o e fun z => n (.tail _ z))
    · rw [gt q1] at e; exact e
theorem mix_in {h h1 : Heap} {F : Fz} {D : List Addr} {L : Addr} (hF : Le F (fz D h)) (k1 : Kb D h h1) : Le (mix h.objs.size F (fz (L :: D) h1)) (fz D h1) := fun a o e => by
  unfold mix at e
  split at e
  · obtain ⟨n, e⟩ := fz_some (hF a o e)
    exact fz_of n (k1 a o e n)
  · obtain ⟨n, e⟩ := fz_some e
    exact fz_of (fun z => n (.tail _ z)) e
section
variable {C : Cx} {A : Around} {h h₀ : Heap} {F : Fz} {k : Nat} {tw th bk ln s1 s2 : Addr} {sh1 sh2 : Sh} {f : List Pr} {ts : List T} {M : List Addr} {L : Addr} {m : Loc} {Φ : Fz → Prop}
theorem TwS.mono {F' : Fz} (x : TwS C h F th bk ln f ts) (l : Le F F') : TwS C h F' th bk ln f ts := let ⟨xs, ys, ws, a, b, c, d⟩ := x.1; ⟨xs, ys, ws, a, b, c, d.mono l⟩
theorem depths_null : depths [Dv.str (Str.ofString "null")] = 0 := rfl
theorem O_eqD {P : Value → Heap → Prop} {u v : Value} {ds : List Dv} (hu : A.units + depths ds + 2 < cLine) (x : RD h.get? u (.tup ds)) (y : RD h.get? v (.tup ds)) (q : P (.bool true) h) : W C A (compareOp .Eq u v) h P := by
  cases x with
  | tup a b => cases y with
    | tup c d => exact O_eqT hu (.tup a b) (.tup c d) q
theorem flat_no (n : Nat) : ¬ 2 * (1 + n) - 1 = 0 := by omega
theorem flat_rd {t : T} (h : toldW t = 0) : ∃ ds, toldN 0 t = .tup ds ∧ depths ds = 0 := by
  cases t with
  | ref p => exact ⟨_, rfl, rfl⟩
  | int p => exact ⟨_, rfl, rfl⟩
  | name p => exact ⟨_, rfl, rfl⟩
  | array p => exact absurd h (flat_no _)
  | dict _ p => exact absurd h (flat_no _)
  | stream _ p _ => exact absurd (show 2 * (1 + sizes p) - 1 = 0 from (congrArg (· - 1) h)) (flat_no _)
theorem meet_ok {x y : Value} {t : T} (G : GF C h) (R : Rm A (k + 6)) (hF : Le F (fz [th, bk, ln] h)) (TC : TwC C F tw th bk ln s1 s2 sh1 sh2) (S0 : TwS C h F th bk ln f ts) (rx : Rep C F x t) (ry : Rep C F y t) (sm : Same sh1.rows sh2.rows t) (hz : t.size ≤ 60) (hts : ts.length ≤ 10000) (hfl : f.length ≤ 10000) :
    W C A (call (.ref 438) [.ref tw, x, y]) h (MPost C h F th bk ln (mF sh1.rows f t) (mT sh1.rows f ts t)) := by
  obtain ⟨xs, ys, ws, o1, o2, o3, TF⟩ := S0.1
  have hFh : Le F h.get? := hF.trans (fz_le _ _)
  refine go (k := k + 5) (m := [(Str.ofString "there", y), (Str.ofString "here", x), (Str.ofString "self", .ref tw)]) (In.three G hF TC o1 o2 o3) R rfl rfl (by kernel_rfl) (fun s e => BindsTo.of_eq rfl) rfl (by kernel_rfl) (by kernel_rfl) rfl rfl rfl fun A' L h1 R' S0' => ?_
  have R1 : Rm A' (0 + 1) := R'.le (by exact om239)
  have R2 : Rm A' (0 + 2) := R'.le (by exact om240)
  have hu : A'.units + 200 < cLine := by have := R'.un; exact om241 this
  have b1 : 100000 < sizeLine := by decide
  have S := S0'.imp (Ψ := fun F' => TwF C (mix h.objs.size F F') f xs ys ws ts ∧ Le F F') fun F' _ q => ⟨TF.mono (mix_old hFh), q⟩
  clear S0'
  have wl : ws.length = ts.length := TF.lr.length
  refine bodyK rfl fun Rq kq => ?_
  walk_at "r"
  refine A_one S.g (TC.a.mono S.now.2) ?_
  walk_at "r"
  refine ⟨S.g, (seen_ok S.g R2 (fz_le _ _) (TC.r1.mono S.here.2) (rx.mono S.here.2)).mono fun u h2 hq1 => ?_⟩
  obtain ⟨e, k2, z2⟩ := hq1
  subst e
  have S2 := S.keep k2
  clear S
  walk_at "s"
  intro h3 S3
  clear S2
  walk_at "r"
  refine A_other S3.g (TC.a.mono S3.now.2) ?_
  walk_at "r"
  refine ⟨S3.g, (seen_ok S3.g R2 (fz_le _ _) (TC.r2.mono S3.here.2) (ry.mono S3.here.2)).mono fun u h4 hq2 => ?_⟩
  obtain ⟨e, k4, z4⟩ := hq2
  subst e
  have S4 := S3.keep k4
  clear S3
  walk_at "s"
  intro h5 S5
  clear S4
  have S5' := S5.lo (m' := [(Str.ofString "there", y), (Str.ofString "here", x), (Str.ofString "self", .ref tw), (Str.ofString "first", if seenB sh1.rows t = true then x else .none), (Str.ofString "second", if seenB sh1.rows t = true then y else .none)]) (by simp only [seenV, sm.seen]; with_unfolding_all rfl)
  clear S5
  have same : ∀ {h' : Heap} {m : Loc}, St C h [th, bk, ln] L m [(th, oTD C xs), (bk, oTD C ys), (ln, oL ws)] (fun F' => TwF C (mix h.objs.size F F') f xs ys ws ts ∧ Le F F') h' → MPost C h F th bk ln f ts (.bool true) h' := fun S => ⟨rfl, ⟨xs, ys, ws, S.at0, S.at1, S.at2, S.three.1⟩, S.kb, S.size⟩
  by_cases e1 : seenB sh1.rows t = true
  · rw [if_pos e1, if_pos e1] at S5'
    walk_at "r"
    refine ⟨S5'.g, (kind_ok S5'.g R1 (rx.mono S5'.now.2)).mono fun u h6 hq3 => ?_⟩
    obtain ⟨tk, e, k6, z6⟩ := hq3
    subst e
    have S6 := S5'.keep k6
    clear S5'
    walk_at "s"
    intro h7 S7
    clear S6
    walk_at "r"
    refine ⟨S7.g, (kind_ok S7.g R1 (ry.mono S7.now.2)).mono fun u h8 hq4 => ?_⟩
    obtain ⟨tk2, e, k8, z8⟩ := hq4
    subst e
    have S8 := S7.keep k8
    clear S7
    refine O_nes ?_
    walk_at "r"
    refine ⟨no_tt (by simp), fun _ => ?_⟩
    have S9 := S8.lo (m' := [(Str.ofString "there", y), (Str.ofString "here", x), (Str.ofString "self", .ref tw), (Str.ofString "first", x), (Str.ofString "second", y), (Str.ofString "kind", .str (kindS t) tk)]) (by with_unfolding_all rfl)
    clear S8
    -- an int, a name: told
    by_cases hflat : toldW t = 0 ∧ (kindS t == Str.ofString "ref") = false ∧ (kindS t == Str.ofString "array") = false ∧ (kindS t == Str.ofString "dict") = false ∧ (kindS t == Str.ofString "stream") = false
    · obtain ⟨h0, hk⟩ := hflat
      walk_at "r"
      refine O_eqs ?_
      walk_at "r"
      refine ⟨no_tt hk.1, fun _ => ?_⟩
      walk_at "r"
      refine O_eqs ?_
      walk_at "r"
      refine ⟨no_tt hk.2.1, fun _ => ?_⟩
      walk_at "r"
      refine O_eqs ?_
      walk_at "r"
      refine ⟨no_tt hk.2.2.1, fun _ => ?_⟩
      walk_at "r"
      refine O_eqs ?_
      walk_at "r"
      refine ⟨no_tt hk.2.2.2, fun _ => ?_⟩
      walk_at "r"
      obtain ⟨ds, ed, dz⟩ := flat_rd h0
      refine ⟨S9.g, (told_flat (n := 0) S9.g R2 (fz_le _ _) (rx.mono S9.here.2) h0).mono fun u h10 hq5 => ?_⟩
      obtain ⟨d1, k10, z10⟩ := hq5
      have S10 := S9.newx k10 (X := fun F' => RD F' u (toldN 0 t)) (fun x l => x.mono l) d1
      walk_at "r"
      refine ⟨S10.g, (told_flat (n := 0) S10.g R2 (fz_le _ _) (ry.mono S10.here.2.2) h0).mono fun u2 h11 hq6 => ?_⟩
      obtain ⟨d2, k11, z11⟩ := hq6
      have S11 := S10.newx k11 (X := fun F' => RD F' u2 (toldN 0 t)) (fun x l => x.mono l) d2
      have r1 := S11.now.2.1
      have r2 := S11.now.1
      rw [ed] at r1 r2
      refine O_eqD (ds := ds) (by exact om242 hu dz) (r1.mono ge_le) (r2.mono ge_le) ?_
      have hm : mF sh1.rows f t = f ∧ mT sh1.rows f ts t = ts := by
        cases t with
        | ref p => exact absurd hk.1 (by rw [show (kindS (.ref p) == Str.ofString "ref") = true by kernel_rfl]; exact Bool.noConfusion)
        | int _ => exact ⟨rfl, rfl⟩
        | name _ => exact ⟨rfl, rfl⟩
        | array _ => simp only [toldW, T.size] at h0; omega
        | dict _ _ => simp only [toldW, T.size] at h0; omega
        | stream _ _ _ => simp only [toldW, T.size] at h0; omega
      rw [hm.1, hm.2] at kq
      exact kq.go (same (S11.imp fun F' _ q => q.2.2))
    have step : ∀ {h' h2 : Heap} {u : Value} {m : Loc} {f' : List Pr} {ts' : List Mine.T} {Φ : Fz → Prop}, St C h [th, bk, ln] L m [(th, oTD C xs), (bk, oTD C ys), (ln, oL ws)] Φ h' → MPost C h' (mix h.objs.size F (fz (L :: [th, bk, ln]) h')) th bk ln f' ts' u h2 → MPost C h F th bk ln f' ts' u h2 :=
      fun S ⟨e, tw, kk, zz⟩ => ⟨e, tw.mono (mix_step hF S.kb S.size kk), S.kb.trans kk, Nat.le_trans S.size zz⟩
    have into : ∀ {h' : Heap} {m : Loc}, St C h [th, bk, ln] L m [(th, oTD C xs), (bk, oTD C ys), (ln, oL ws)] (fun F' => TwF C (mix h.objs.size F F') f xs ys ws ts ∧ Le F F') h' → Le (mix h.objs.size F (fz (L :: [th, bk, ln]) h')) (fz [th, bk, ln] h') ∧ TwC C (mix h.objs.size F (fz (L :: [th, bk, ln]) h')) tw th bk ln s1 s2 sh1 sh2 ∧ TwS C h' (mix h.objs.size F (fz (L :: [th, bk, ln]) h')) th bk ln f ts :=
      fun S => ⟨mix_in hF S.kb, TC.mono (mix_old hFh), xs, ys, ws, S.at0, S.at1, S.at2, S.here.1⟩
    cases rx with
    | @ref ax dx p ea eb ec =>
      cases ry with
      | @ref ay dy _ ea2 eb2 ec2 =>
      walk_at "r"
      refine O_eqs ?_
      walk_at "r"
      refine ⟨fun _ => ?_, no_ff (by kernel_rfl)⟩
      walk_at "r"
      refine M_meetR S9.g (TC.a.mono S9.now.2) ?_
      walk_at "r"
      refine M_pair S9.g (S9.now.2 _ _ ea) (eb.mono S9.now.2) ?_
      walk_at "r"
      refine (pair_ok S9.g R1 S9.now.2 (.ref ea eb ec)).mono fun pv h10 hq7 => ?_
      obtain ⟨tp, k10, z10⟩ := hq7
      have S10 := S9.newx k10 (X := vTp p pv) (fun x l => vTp.mono x l) tp
      clear S9
      walk_at "r"
      refine M_pair S10.g (S10.now.2.2 _ _ ea2) (eb2.mono S10.now.2.2) ?_
      walk_at "r"
      refine (pair_ok S10.g R1 S10.now.2.2 (.ref ea2 eb2 ec2)).mono fun pv2 h11 hq8 => ?_
      obtain ⟨tp2, k11, z11⟩ := hq8
      have S11 := S10.newx k11 (X := vTp p pv2) (fun x l => vTp.mono x l) tp2
      clear S10
      walk_at "r"
      obtain ⟨v2, v1, -⟩ := S11.here
      obtain ⟨a1, rfl, a15, t1⟩ := v1
      obtain ⟨a2, rfl, a25, t2⟩ := v2
      obtain ⟨i1, i2, i3⟩ := into (S11.imp fun F' _ q => q.2.2)
      have ep : there sh1.rows p = true := e1
      obtain ⟨sp1, sp2⟩ := sm p .ref
      refine ⟨S11.g, (meetR_ok S11.g R1 i1 i2 i3 (t1.mono ge_mix) (t2.mono ge_mix) a15 a25 ep (sp1 ▸ ep) (sp2 ep) hts hfl).mono fun u h12 q => ?_⟩
      simp only [mF, mT, if_pos ep] at kq
      exact kq.go (step S11 q)
    | int z tz => exact absurd ⟨rfl, by kernel_rfl, by kernel_rfl, by kernel_rfl, by kernel_rfl⟩ hflat
    | name a b c => exact absurd ⟨rfl, by kernel_rfl, by kernel_rfl, by kernel_rfl, by kernel_rfl⟩ hflat
    | @array l vs us a b c =>
      cases ry with
      | @array l2 vs2 _ a2 b2 c2 =>
      have hl := b.length
      have hl2 := b2.length
      have hus := length_le_sizes us
      have hsz : 1 + sizes us ≤ 60 := hz
      have notln : ∀ {q : Addr} {P : Obj → Prop}, At F q P → q ≠ ln := fun ⟨o, e, _⟩ z => (fz_some (hF _ _ e)).1 (by rw [z]; simp)
      walk_at "r"
      refine O_eqs ?_
      walk_at "r"
      refine ⟨no_tt (by kernel_rfl), fun _ => ?_⟩
      walk_at "r"
      refine O_eqs ?_
      walk_at "r"
      refine ⟨fun _ => ?_, no_ff (by kernel_rfl)⟩
      walk_at "r"
      refine A_line S9.g (TC.a.mono S9.now.2) ?_
      refine M_list S9.at2 PySem.F.slot_list_extend (by kernel_rfl) ?_
      walk_at "r"
      have S10 := S9.perm (σ' := [(ln, oL ws), (th, oTD C xs), (bk, oTD C ys)]) (List.perm_middle (l₁ := [_, _]) (l₂ := [])).symm
      clear S9
      refine C_zip S10 (a.mono S10.now.2) (a2.mono S10.now.2) (notln a) (notln a2) fun z TI TO i1 i2 h11 D S11 => ?_
      clear S10
      walk_at "r"
      refine O_extendZip R'.hd D (by exact om243 hl hl2) S11 (fun F' q => ⟨q.1, a.mono q.2.2, a2.mono q.2.2⟩) (by exact om244 hts wl hl hl2 hus hsz) fun ws' h12 S12 => ?_
      clear S11
      have S13 := S12.perm (σ' := [(th, oTD C xs), (bk, oTD C ys), (ln, oL (ws ++ ws'))]) (List.perm_middle (l₁ := [_, _]) (l₂ := []))
      clear S12
      walk_at "r"
      refine O_len (At.list (a.mono S13.now.2.2.2)) (by exact om245 hl hl2 hus hsz) fun tl => ?_
      walk_at "r"
      refine O_len (At.list (a2.mono S13.now.2.2.2)) (by exact om246 hl2 hus hsz) fun tl2 => ?_
      refine O_eq ?_
      refine (kq.go ⟨?_, ⟨xs, ys, _, S13.at0, S13.at1, S13.at2, ?_⟩, S13.kb, S13.size⟩)
      · rw [hl, hl2]; simp
      · obtain ⟨q1, -, q2, q3⟩ := S13.three
        exact ⟨q2.fx, q2.fy, q2.kx, q2.ky, q2.vx, q2.vy, q2.lr.append (.ofTw (q1.mono ge_mix) (b.mono (mix_old hFh)) (b2.mono (mix_old hFh)))⟩
    | @dict d kvs us a b c =>
      have hl := b.length
      rw [List.length_map] at hl
      have hus := length_le_sizes us
      have hsz : 1 + sizes us ≤ 60 := hz
      have hso : solid sh1.rows (kvs.map (·.1)) us = solid sh2.rows (kvs.map (·.1)) us := same_solid fun u hu => sm.part hu
      generalize hks : kvs.map (fun q : Str × Value => q.1) = ks at *
      cases ry with
      | @dict d2 kvs2 _ a2 b2 c2 =>
      walk_at "r"
      refine O_eqs ?_
      walk_at "r"
      refine ⟨no_tt (by kernel_rfl), fun _ => ?_⟩
      walk_at "r"
      refine O_eqs ?_
      walk_at "r"
      refine ⟨no_tt (by kernel_rfl), fun _ => ?_⟩
      walk_at "r"
      refine O_eqs ?_
      walk_at "r"
      refine ⟨fun _ => ?_, no_ff (by kernel_rfl)⟩
      walk_at "r"
      refine M_meetD S9.g (TC.a.mono S9.now.2) ?_
      walk_at "r"
      obtain ⟨i1, i2, i3⟩ := into S9
      have mo : Le F (mix h.objs.size F (fz (L :: [th, bk, ln]) h8)) := mix_old hFh
      exact ⟨S9.g, (meetD_ok S9.g (R'.le (by exact om247) : Rm A' (k + 4)) i1 i2 i3 (a.mono mo) (b.mono mo) (a2.mono mo) (b2.mono mo) hks rfl c c2 (by exact om102 hl hus hsz) hso hts).mono fun u h12 q => kq.go (step S9 q)⟩
    | @stream sx dx d kvs us b ex ed e0 r0 d5 x5 =>
      have hl := r0.length
      rw [List.length_map] at hl
      have hus := length_le_sizes us
      have hsz : 1 + sizes us ≤ 60 := hz
      have hso : solid sh1.rows (kvs.map (·.1)) us = solid sh2.rows (kvs.map (·.1)) us := same_solid fun u hu => sm.part (t := .stream (kvs.map fun q : Str × Value => q.1) us b) hu
      generalize hks : kvs.map (fun q : Str × Value => q.1) = ks at *
      cases ry with
      | @stream sy dy d2 kvs2 _ _ ex2 ed2 e02 r02 d52 x52 =>
      walk_at "r"
      refine O_eqs ?_
      walk_at "r"
      refine ⟨no_tt (by kernel_rfl), fun _ => ?_⟩
      walk_at "r"
      refine O_eqs ?_
      walk_at "r"
      refine ⟨no_tt (by kernel_rfl), fun _ => ?_⟩
      walk_at "r"
      refine O_eqs ?_
      walk_at "r"
      refine ⟨no_tt (by kernel_rfl), fun _ => ?_⟩
      walk_at "r"
      refine O_eqs ?_
      walk_at "r"
      refine ⟨fun _ => ?_, no_ff (by kernel_rfl)⟩
      walk_at "r"
      refine A_octets S9.g (S9.now.2 _ _ ex) (ed.mono S9.now.2) fun tb => ?_
      walk_at "r"
      refine C_bytesB ?_
      walk_at "r"
      refine A_octets S9.g (S9.now.2 _ _ ex2) (ed2.mono S9.now.2) fun tb2 => ?_
      walk_at "r"
      refine C_bytesB ?_
      refine O_eqb ?_
      walk_at "r"
      refine ⟨fun _ => ?_, no_ff (by simp)⟩
      walk_at "r"
      refine M_meetD S9.g (TC.a.mono S9.now.2) ?_
      walk_at "r"
      refine A_head S9.g (S9.now.2 _ _ ex) (ed.mono S9.now.2) ?_
      walk_at "r"
      refine A_head S9.g (S9.now.2 _ _ ex2) (ed2.mono S9.now.2) ?_
      walk_at "r"
      obtain ⟨i1, i2, i3⟩ := into S9
      have mo : Le F (mix h.objs.size F (fz (L :: [th, bk, ln]) h8)) := mix_old hFh
      exact ⟨S9.g, (meetD_ok S9.g (R'.le (by exact om247) : Rm A' (k + 4)) i1 i2 i3 (e0.mono mo) (r0.mono mo) (e02.mono mo) (r02.mono mo) hks rfl d5 d52 (by exact om102 hl hus hsz) hso hts).mono fun u h12 q => kq.go (step S9 q)⟩
  · rw [if_neg e1, if_neg e1] at S5'
    obtain ⟨hf, ht⟩ : mF sh1.rows f t = f ∧ mT sh1.rows f ts t = ts := by
      cases t with
      | ref p => exact ⟨if_neg e1, if_neg e1⟩
      | _ => exact absurd rfl e1
    rw [hf, ht] at kq
    walk_at "r"
    refine ⟨S5'.g, (kind_none S5'.g R1).mono fun u h6 hq9 => ?_⟩
    obtain ⟨tk, e, k6, z6⟩ := hq9
    subst e
    have S6 := S5'.keep k6
    clear S5'
    walk_at "s"
    intro h7 S7
    clear S6
    walk_at "r"
    refine ⟨S7.g, (kind_none S7.g R1).mono fun u h8 hq10 => ?_⟩
    obtain ⟨tk2, e, k8, z8⟩ := hq10
    subst e
    have S8 := S7.keep k8
    clear S7
    refine O_nes ?_
    walk_at "r"
    refine ⟨no_tt (by simp), fun _ => ?_⟩
    have S9 := S8.lo (m' := [(Str.ofString "there", y), (Str.ofString "here", x), (Str.ofString "self", .ref tw), (Str.ofString "first", .none), (Str.ofString "second", .none), (Str.ofString "kind", .str (Str.ofString "null") tk)]) (by with_unfolding_all rfl)
    clear S8
    iterate 4
      walk_at "r"
      refine O_eqs ?_
      walk_at "r"
      refine ⟨no_tt (by kernel_rfl), fun _ => ?_⟩
    walk_at "r"
    refine ⟨S9.g, (told_none S9.g R2).mono fun u h10 hq11 => ?_⟩
    obtain ⟨d1, k10, z10⟩ := hq11
    have S10 := S9.newx k10 (X := fun F' => RD F' u (.tup [.str (Str.ofString "null")])) (fun x l => x.mono l) d1
    clear S9
    walk_at "r"
    refine ⟨S10.g, (told_none S10.g R2).mono fun u2 h11 hq12 => ?_⟩
    obtain ⟨d2, k11, z11⟩ := hq12
    have S11 := S10.newx k11 (X := fun F' => RD F' u2 (.tup [.str (Str.ofString "null")])) (fun x l => x.mono l) d2
    clear S10
    refine O_eqD (ds := [.str (Str.ofString "null")]) (by rw [depths_null]; exact om231 hu) (S11.now.2.1.mono ge_le) (S11.now.1.mono ge_le) ?_
    exact kq.go (same (S11.imp fun F' _ q => q.2.2))
end
end
section
theorem mix_back {h h' : Heap} {D : List Addr} {L : Addr} (k : Kb D h h') (lt : ∀ a ∈ L :: D, a < h.objs.size) : Le (mix h.objs.size (fz (L :: D) h) (fz D h')) (fz (L :: D) h') := fun a o e => by
  unfold mix at e
  split at e
  · obtain ⟨n, e⟩ := fz_some e
    exact fz_of n (k a o e fun q => n (.tail _ q))
  · rename_i q
    obtain ⟨n, e⟩ := fz_some e
    refine fz_of (fun z => ?_) e
    rcases List.mem_cons.mp z with z | z
    · exact q (z ▸ lt L (.head _))
    · exact n z
theorem sizes_sub {xs ys : List T} (s : xs.Sublist ys) : sizes xs ≤ sizes ys := by
  induction s with
  | slnil => exact Nat.le_refl _
  | cons a _ ih => simp only [sizes]; exact om24 ih
  | cons_cons a _ ih => simp only [sizes]; exact om86 ih
/-- what a meeting adds to the line -/
noncomputable def mA (rs : List Row) (f : List Pr) : T → List T
  | .ref p => if there rs p = true then (if p ∈ f then [] else [treeAt rs p]) else []
  | .array xs => xs
  | .dict ks us => (solid rs ks us).filterMap (getT ks us)
  | .stream ks us _ => (solid rs ks us).filterMap (getT ks us)
  | _ => []
theorem mT_eq (rs : List Row) (f : List Pr) (ts : List T) : ∀ t : T, mT rs f ts t = ts ++ mA rs f t
  | .ref p => by simp only [mT, mA]; split; (split <;> simp); simp
  | .int _ => by simp [mT, mA]
  | .name _ => by simp [mT, mA]
  | .array _ => rfl
  | .dict _ _ => rfl
  | .stream _ _ _ => rfl
theorem solid_sub (rs : List Row) (ks : List Str) (us : List T) : ((solid rs ks us).filterMap (getT ks us)).Sublist (ordT ks us) := List.Sublist.filterMap _ List.filter_sublist
theorem mA_sub (rs : List Row) (f : List Pr) : ∀ {t : T}, isRef t = false → (mA rs f t).Sublist (parts t)
  | .ref p, h => by simp [isRef] at h
  | .int _, _ => List.Sublist.refl _
  | .name _, _ => List.Sublist.refl _
  | .array _, _ => List.Sublist.refl _
  | .dict ks us, _ => solid_sub rs ks us
  | .stream ks us _, _ => solid_sub rs ks us
theorem mF_same (rs : List Row) (f : List Pr) : ∀ {t : T}, isRef t = false → mF rs f t = f
  | .ref p, h => by simp [isRef] at h
  | .int _, _ => rfl
  | .name _, _ => rfl
  | .array _, _ => rfl
  | .dict ks us, _ => rfl
  | .stream ks us _, _ => rfl
theorem mF_ok {rs : List Row} {f : List Pr} {t : T} (nd : f.Nodup) (th : ∀ p ∈ f, there rs p = true) : (mF rs f t).Nodup ∧ ∀ p ∈ mF rs f t, there rs p = true := by
  cases t with
  | ref p =>
    have := addT_ok (p := p) nd th
    unfold addT at this
    simp only [mF]
    by_cases e : there rs p = true
    · rw [if_pos e] at this ⊢; exact this
    · rw [if_neg e]; exact ⟨nd, th⟩
  | _ => exact ⟨nd, th⟩
/-- a set of trees within which two shelves say the same -/
structure Alk (r1 r2 : List Row) (Good : T → Prop) : Prop where
  part : ∀ {t u : T}, Good t → u ∈ parts t → Good u
  ref : ∀ {p : Pr}, Good (.ref p) → there r1 p = there r2 p ∧ (there r1 p = true → treeAt r1 p = treeAt r2 p ∧ Good (treeAt r1 p))
theorem Alk.same {r1 r2 : List Row} {Good : T → Prop} (a : Alk r1 r2 Good) {t : T} (g : Good t) : Same r1 r2 t := fun p hp => by
  induction hp with
  | ref => exact ⟨(a.ref g).1, fun e => ((a.ref g).2 e).1⟩
  | part h _ ih => exact ih (a.part g h)
theorem Alk.adds {r1 r2 : List Row} {Good : T → Prop} (a : Alk r1 r2 Good) {f : List Pr} {t : T} (g : Good t) : ∀ u ∈ mA r1 f t, Good u := fun u hu => by
  by_cases e : isRef t = true
  · obtain ⟨p, rfl⟩ := isRef_eq e
    simp only [mA] at hu
    split at hu
    · split at hu
      · cases hu
      · rw [List.mem_singleton.mp hu]; exact ((a.ref g).2 ‹_›).2
    · cases hu
  · exact a.part g ((mA_sub r1 f (by simpa using e)).subset hu)
theorem tree_size {sh : Sh} (fit : Fit sh) {p : Pr} (h : there sh.rows p = true) : (treeAt sh.rows p).size ≤ 60 := fit.sz _ (find_mem (there_find h))
theorem mA_size {C : Cx} {F : Fz} {sh : Sh} (fit : Fit sh) {f : List Pr} {v : Value} {t : T} (r : Rep C F v t) (nd : f.Nodup) (th : ∀ p ∈ f, there sh.rows p = true) : 61 * (20 - (mF sh.rows f t).length) + sizes (mA sh.rows f t) < 61 * (20 - f.length) + t.size := by
  by_cases e : isRef t = true
  · obtain ⟨p, rfl⟩ := isRef_eq e
    obtain ⟨a, b⟩ := mF_ok (t := .ref p) nd th
    have l := found_len a b
    have fr := fit.rows
    simp only [mF, mA, T.size] at *
    split
    · rename_i h
      rw [if_pos h] at l
      split
      · simp [sizes]
      · rename_i n
        rw [if_neg n] at l
        have := tree_size fit h
        simp only [sizes, List.length_append, List.length_singleton] at *
        exact om248 fr this l
    · simp [sizes]
  · have e' : isRef t = false := by simpa using e
    have := sizes_sub (mA_sub sh.rows f e')
    have := parts_size r
    rw [mF_same _ _ e']
    omega
theorem fz_tail {h : Heap} {D : List Addr} {L : Addr} : Le (fz (L :: D) h) (fz D h) := fun a o e => let ⟨n, e⟩ := fz_some e; fz_of (fun z => n (.tail _ z)) e
theorem LnR.snoc_inv {C : Cx} {F : Fz} {vs : List Value} {ts : List T} {a : Addr} {t : T} (r : LnR C F (vs ++ [.ref a]) (ts ++ [t])) : LnR C F vs ts ∧ ∃ x y, At F a (oT [x, y]) ∧ Rep C F x t ∧ Rep C F y t := by
  obtain ⟨vs', ts', a', x, y, t', e1, e2, h1, h2⟩ := r.last (by simp)
  obtain ⟨rfl, e3⟩ := List.append_inj' e1 rfl
  obtain ⟨rfl, e4⟩ := List.append_inj' e2 rfl
  cases e3; cases e4
  exact ⟨h1, x, y, h2⟩
noncomputable abbrev htT : Option (Value × Value) → Loc
  | none => []
  | some (a, b) => [(Str.ofString "here", a), (Str.ofString "there", b)]
section
variable {C : Cx} {A : Around} {h : Heap} {F : Fz} {k : Nat} {s1 s2 : Addr} {sh1 sh2 : Sh}
inductive AJ (C : Cx) (h₀ : Heap) (L tw th bk ln s1 s2 : Addr) (sh1 sh2 : Sh) (Good : T → Prop) (kk : Nat) (h : Heap) : Prop
  | mk (o : Option (Value × Value)) (f : List Pr) (xs ys : List (Pr × Addr × Value)) (ws : List Value) (ts : List T) (z0 : kk = 61 * (20 - f.length) + sizes ts) (z1 : kk ≤ 2000) (z2 : f.Nodup) (z3 : (∀ p ∈ f, there sh1.rows p = true)) (z4 : (∀ t ∈ ts, Good t ∧ t.size ≤ 60)) (z5 : St C h₀ [] L ((Str.ofString "other", .ref s2) :: (Str.ofString "one", .ref s1) :: (Str.ofString "twin", .ref tw) :: htT o) [(th, oTD C xs), (bk, oTD C ys), (ln, oL ws)] (fun F => TwC C F tw th bk ln s1 s2 sh1 sh2 ∧ TwF C F f xs ys ws ts) h)
theorem alike_ok {Good : T → Prop} (G : GF C h) (R : Rm A (k + 7)) (hF : Le F h.get?) (x1 : RepSh C F s1 sh1) (x2 : RepSh C F s2 sh2) (fit1 : Fit sh1) (fit2 : Fit sh2) (hp : plain sh1 = plain sh2) (alk : Alk sh1.rows sh2.rows Good) (g0 : Good (plain sh1)) :
    W C A (call (.ref 466) [.ref s1, .ref s2]) h (PPost h true) := by
  refine go (k := k + 6) (m := [(Str.ofString "other", .ref s2), (Str.ofString "one", .ref s1)]) (In.nil (Φ := fun F' => Le F F') G fun F' l => hF.trans (by rw [fz_nil] at l; exact l)) R rfl rfl (by kernel_rfl) (fun s e => BindsTo.of_eq rfl) rfl (by kernel_rfl) (by kernel_rfl) rfl rfl rfl fun A' L h1 R' S => ?_
  have R1 : Rm A' (0 + 1) := R'.le (by exact om91)
  have R2 : Rm A' (0 + 2) := R'.le (by exact om249)
  have hps : (plain sh1).size ≤ 60 := Nat.le_trans (plain_size sh1) fit1.tz
  refine bodyK rfl fun Rq kq => ?_
  walk_at "r"
  refine ⟨S.g, (mkTwin (s1 := s1) (s2 := s2) S.g R2).mono fun u h2 hq1 => ?_⟩
  obtain ⟨tw, th, bk, ln, e, z1, z2, z3, nd, e1, e2, e3, ta, k2, zz⟩ := hq1
  subst e
  have s5 := S.h5
  have S2 := S.newL k2 [(th, oTD C []), (bk, oTD C []), (ln, oL [])] (fun q hq => by
    simp only [List.mem_cons, List.not_mem_nil, or_false] at hq
    rcases hq with rfl | rfl | rfl
    · exact ⟨z1, e1⟩
    · exact ⟨z2, e2⟩
    · exact ⟨z3, e3⟩) nd (Ψ := fun F => TwA C F tw th bk ln s1 s2) fun F' l => ta.mono (ge_mix.trans l)
  clear S
  walk_at "s"
  intro h3 S3
  clear S2
  walk_at "r"
  refine A_line S3.g S3.now.1 ?_
  refine M_list S3.at2 PySem.F.slot_list_append (by kernel_rfl) ?_
  walk_at "r"
  refine ⟨S3.g, (plain_ok S3.g R1 (fz_le _ _) (x1.mono S3.here.2) (Nat.le_trans fit1.ks (by decide))).mono fun lv h4 hq2 => ?_⟩
  obtain ⟨pd, pkv, e, d5, ed, ek, rs, k4, z4⟩ := hq2
  subst e
  have S4 := S3.keepx (Ψ := fun F' => Rep C F' (.ref pd) (plain sh1)) k4 fun F' l => dpost_rep (ed.mono (nw_ext.trans l)) ek (rs.mono ((fz_le _ _).ext.trans l)) d5
  clear S3
  walk_at "r"
  refine ⟨S4.g, (plain_ok S4.g R1 (fz_le _ _) (x2.mono S4.here.2.2) (Nat.le_trans fit2.ks (by decide))).mono fun lv h5 hq3 => ?_⟩
  obtain ⟨pd2, pkv2, e, d52, ed2, ek2, rs2, k5, z5⟩ := hq3
  subst e
  have S5 := S4.keepx (Ψ := fun F' => Rep C F' (.ref pd2) (plain sh2)) k5 fun F' l => dpost_rep (ed2.mono (nw_ext.trans l)) ek2 (rs2.mono ((fz_le _ _).ext.trans l)) d52
  clear S4
  walk_at "r"
  refine S_tuple S5 fun a h6 na a5 S6 => ?_
  clear S5
  walk_at "r"
  refine O_append S6.at2 (by simp) fun h7 k7 e7 => ?_
  have S7 := S6.put2 k7 e7
  clear S6
  walk_at "r"
  have S8 := S7.imp (Ψ := fun F' => TwC C F' tw th bk ln s1 s2 sh1 sh2 ∧ TwF C F' [] [] [] [.ref a] [plain sh1]) fun F' _ q => ⟨⟨q.2.2.2.1, x1.mono q.2.2.2.2, x2.mono q.2.2.2.2, fit1, fit2, nd, Nat.le_trans s5 z1, Nat.le_trans s5 z2, Nat.le_trans s5 z3⟩, ⟨rfl, rfl, fun _ q => (List.not_mem_nil q).elim, fun _ q => (List.not_mem_nil q).elim, fun _ q => (List.not_mem_nil q).elim, fun _ q => (List.not_mem_nil q).elim, .cons q.1 q.2.2.1 (hp ▸ q.2.1) .nil⟩⟩
  clear S7
  refine X_whileK (AJ C h L tw th bk ln s1 s2 sh1 sh2 Good) (61 * 20 + sizes [plain sh1]) ⟨none, [], [], [], _, _, rfl, by simp only [sizes]; exact om250 hps, List.nodup_nil, fun _ q => (List.not_mem_nil q).elim, fun t q => by rw [List.mem_singleton.mp q]; exact ⟨g0, hps⟩, S8.lo (by with_unfolding_all rfl)⟩ fun kk h8 hq4 => ?_
  obtain ⟨o, f, xs, ys, ws, ts, ek, hk, fn, fth, hg, S9⟩ := hq4
  clear S8
  have b1 : 100000 < sizeLine := by decide
  have lr := S9.now.2.lr
  have wl := lr.length
  have tl := length_le_sizes ts
  have fl := found_len fn fth
  have fr := fit1.rows
  walk_at "r"
  refine A_line S9.g S9.now.1.a ?_
  refine tr_list (At.list S9.at2) (by exact om251 ek hk wl tl) ?_
  refine ⟨fun c Rr kr => ?_, fun c => ?_⟩
  · have hne : ws ≠ [] := fun q => by subst q; simp at c
    obtain ⟨ws', ts', la, x, y, t, rfl, rfl, -⟩ := lr.last hne
    have ht := hg t (by simp)
    refine X_unpack ?_
    walk_at "r"
    refine A_line S9.g S9.now.1.a ?_
    refine M_list S9.at2 PySem.F.slot_list_pop (by kernel_rfl) ?_
    walk_at "r"
    refine O_pop S9.at2 (by simp only [List.length_append, List.length_singleton] at *; exact om252 hk b1 ek tl wl) fun h9 k9 e9 => ?_
    have S10 := S9.put2 k9 e9
    clear S9
    obtain ⟨lr', x, y, ea, rx, ry⟩ := S10.here.2.lr.snoc_inv
    have S11 := S10.imp (Ψ := fun F' => TwC C F' tw th bk ln s1 s2 sh1 sh2 ∧ TwF C F' f xs ys ws' ts') fun F' l q => ⟨q.1, ⟨q.2.fx, q.2.fy, q.2.kx, q.2.ky, q.2.vx, q.2.vy, q.2.lr.snoc_inv.1⟩⟩
    have S12 := S11.add (Ψ := fun F' => At F' la (oT [x, y]) ∧ Rep C F' x t ∧ Rep C F' y t) fun F' l => ⟨ea.mono l, rx.mono l, ry.mono l⟩
    clear S10 S11
    refine A_two S12 R'.hd S12.now.1.1 rfl (by kernel_rfl) (by kernel_rfl) fun h11 S13 => ?_
    clear S12
    have S14 := S13.lo (m' := (Str.ofString "other", .ref s2) :: (Str.ofString "one", .ref s1) :: (Str.ofString "twin", .ref tw) :: htT (some (x, y))) (by rcases o with _ | ⟨a, b⟩ <;> with_unfolding_all rfl)
    clear S13
    walk_at "r"
    refine M_meet S14.g S14.now.2.1.a ?_
    walk_at "r"
    obtain ⟨⟨-, rx', ry'⟩, tc', tf'⟩ := S14.here
    simp only [sizes_append, sizes] at ek
    have sz := mA_size fit1 (f := f) rx fn fth
    refine ⟨S14.g, (meet_ok S14.g R' fz_tail tc' ⟨xs, ys, ws', S14.at0, S14.at1, S14.at2, tf'⟩ rx' ry' (alk.same ht.1) ht.2 (by have := length_le_sizes ts'; exact om253 hk ek sz this) (by exact om254 fl fr)).mono fun u h15 hq5 => ?_⟩
    obtain ⟨e, tws, k15, z15⟩ := hq5
    subst e
    obtain ⟨xs', ys', ws2, o1, o2, o3, TF'⟩ := tws.1
    have S15 := (S14.turn (σ' := [(th, oTD C xs'), (bk, oTD C ys'), (ln, oL ws2)]) k15 (by simp) rfl (fun q hq => by
      simp only [List.mem_cons, List.not_mem_nil, or_false] at hq
      rcases hq with rfl | rfl | rfl
      · exact o1
      · exact o2
      · exact o3)).add (Ψ := fun F' => TwF C F' (mF sh1.rows f t) xs' ys' ws2 (mT sh1.rows f ts' t)) fun F' l => TF'.mono ((mix_back k15 S14.lt).trans l)
    clear S14
    walk_at "r"
    refine ⟨no_tt rfl, fun _ => ?_⟩
    walk_at "r"
    obtain ⟨fn', fth'⟩ := mF_ok (t := t) fn fth
    rw [mT_eq] at S15
    refine ⟨_, ?_, some (x, y), mF sh1.rows f t, xs', ys', ws2, ts' ++ mA sh1.rows f t, rfl, ?_, fn', fth', fun u hu => ?_, S15.imp fun F' _ q => ⟨q.2.2.1, q.1⟩⟩
    · rw [sizes_append]; exact om255 ek sz
    · rw [sizes_append]; exact om256 hk ek sz
    · rcases List.mem_append.mp hu with hu | hu
      · exact hg u (List.mem_append.mpr (.inl hu))
      · refine ⟨alk.adds ht.1 u hu, ?_⟩
        by_cases er : isRef t = true
        · obtain ⟨p, rfl⟩ := isRef_eq er
          simp only [mA] at hu
          split at hu
          · split at hu
            · cases hu
            · rw [List.mem_singleton.mp hu]; exact tree_size fit1 ‹_›
          · cases hu
        · have h1 := size_le_sizes ((mA_sub sh1.rows f (by simpa using er)).subset hu)
          have h2 := parts_size rx
          omega
  · have hne : ws = [] := by simpa using c
    walk_at "r"
    exact ⟨rfl, S9.kb, S9.size⟩
end
end
section
theorem adds_nodup {rs : List Row} : ∀ {ps f : List Pr}, ps.Nodup → (∀ p ∈ ps, p ∉ f) → adds rs f ps = f ++ ps.filter (there rs)
  | [], f, _, _ => by simp [adds]
  | p :: ps, f, nd, h => by
    obtain ⟨h1, h2⟩ := List.nodup_cons.mp nd
    show adds rs (addT rs f p) ps = _
    have hp : p ∉ f := h p (.head _)
    rw [addT, if_neg hp]
    by_cases e : there rs p = true
    · rw [if_pos e, adds_nodup h2 fun x hx q => ?_, List.filter_cons, if_pos e, List.append_assoc]; rfl
      rcases List.mem_append.mp q with q | q
      · exact h x (.tail _ hx) q
      · rw [List.mem_singleton.mp q] at hx; exact h1 hx
    · rw [if_neg e, adds_nodup h2 fun x hx => h x (.tail _ hx), List.filter_cons, if_neg e]
theorem Wk_level {rs : List Row} {r : List Pr} : ∀ {lv G : List Pr} {i : Nat}, (∀ j p, lv[j]? = some p → G[i + j]? = some p) → Wk rs (adds rs G (lv.flatMap (kids rs))) (i + lv.length) r → Wk rs G i r
  | [], G, i, _, w => w
  | p :: lv, G, i, h, w => by
    refine .step (h 0 p rfl) (Wk_level (lv := lv) (fun j q e => ?_) ?_)
    · have := h (j + 1) q (by simpa using e)
      obtain ⟨g, hg⟩ := adds_pre (rs := rs) (ps := kids rs p) (f := G)
      have hl := (List.getElem?_eq_some_iff.mp this).1
      rw [hg, List.getElem?_append_left (by exact om2 hl), show i + 1 + j = i + (j + 1) by exact om36]
      exact this
    · rw [List.flatMap_cons, adds_append] at w
      rw [List.length_cons] at w
      rw [show i + 1 + lv.length = i + (lv.length + 1) by exact om36]
      exact w
inductive Lvls (F : Fz) : List Value → List (List Pr) → Prop
  | nil : Lvls F [] []
  | cons {v : Value} {vs : List Value} {p : List Pr} {ps : List (List Pr)} : vTps p v F → Lvls F vs ps → Lvls F (v :: vs) (p :: ps)
section
variable {F F' : Fz}
theorem vTps.mono {p : List Pr} {v : Value} (x : vTps p v F) (l : Le F F') : vTps p v F' := let ⟨a, b, c, d, e, f⟩ := x; ⟨a, b, c, d, e.mono l, f.mono l⟩
theorem Lvls.mono (l : Le F F') {vs : List Value} {ps : List (List Pr)} (x : Lvls F vs ps) : Lvls F' vs ps := by
  induction x with
  | nil => exact .nil
  | cons a _ ih => exact .cons (vTps.mono a l) ih
theorem Lvls.length {vs : List Value} {ps : List (List Pr)} (x : Lvls F vs ps) : vs.length = ps.length := by
  induction x with
  | nil => rfl
  | cons _ _ ih => exact congrArg (· + 1) ih
theorem Lvls.append {vs ws : List Value} {ps qs : List (List Pr)} (x : Lvls F vs ps) (y : Lvls F ws qs) : Lvls F (vs ++ ws) (ps ++ qs) := by
  induction x with
  | nil => exact y
  | cons a _ ih => exact .cons a ih
theorem Lvls.snoc {vs : List Value} {ps : List (List Pr)} {v : Value} {p : List Pr} (x : Lvls F vs ps) (y : vTps p v F) : Lvls F (vs ++ [v]) (ps ++ [p]) := x.append (.cons y .nil)
theorem Lvls.get {vs : List Value} {ps : List (List Pr)} {i : Nat} {v : Value} (x : Lvls F vs ps) (e : vs[i]? = some v) : ∃ p, ps[i]? = some p ∧ vTps p v F := by
  induction x generalizing i with
  | nil => exact absurd e (by simp)
  | cons a _ ih =>
    cases i with
    | zero => exact ⟨_, rfl, Option.some.inj e ▸ a⟩
    | succ i => exact ih e
theorem Tps.memp {vs : List Value} {ps : List Pr} (x : Tps F vs ps) : ∀ v ∈ vs, ∃ p ∈ ps, vTp p v F := by
  induction x with
  | nil => exact fun _ h => absurd h List.not_mem_nil
  | cons a _ ih => exact fun v hv => (List.mem_cons.mp hv).elim (fun e => ⟨_, .head _, e ▸ a⟩) fun hv => (ih v hv).elim fun p q => ⟨p, .tail _ q.1, q.2⟩
theorem Tps.memv {vs : List Value} {ps : List Pr} (x : Tps F vs ps) : ∀ p ∈ ps, ∃ v ∈ vs, vTp p v F := by
  induction x with
  | nil => exact fun _ h => absurd h List.not_mem_nil
  | cons a _ ih => exact fun v hv => (List.mem_cons.mp hv).elim (fun e => ⟨_, .head _, e ▸ a⟩) fun hv => (ih v hv).elim fun p q => ⟨p, .tail _ q.1, q.2⟩
theorem vTp.same {p q : Pr} {v : Value} (x : vTp p v F) (y : vTp q v F) : p = q := by
  obtain ⟨a, rfl, _, t1, u1, o, h1, h2⟩ := x
  obtain ⟨b, e, _, t2, u2, o', h3, h4⟩ := y
  cases e
  rw [h1] at h3; cases h3
  have h2 : o = _ := h2
  rw [h2] at h4
  have h4 : (tupOf [.int p.1 t1, .int p.2 u1]) = tupOf [.int q.1 t2, .int q.2 u2] := h4
  have h5 : (Data.seq ([.int p.1 t1, .int p.2 u1] : List Value).toArray) = Data.seq ([.int q.1 t2, .int q.2 u2] : List Value).toArray := congrArg Obj.data h4
  injection h5 with h6
  have h7 := congrArg Array.toList h6
  obtain ⟨p1, p2⟩ := p; obtain ⟨q1, q2⟩ := q
  simp at h7
  simp [h7]
end
section
variable {C : Cx} {A : Around} {h : Heap} {P : Value → Heap → Prop} {l : Addr} {vs : List Value} {f : List Pr} {q : Pr} {v : Value}
open Classical in
theorem O_notinL (hu : A.units + 10 < cLine) (hs : Tps h.get? vs f) (e : At h.get? l (oL vs)) (tq : vTp q v h.get?) (x : P (.bool (!(decide (q ∈ f)))) h) : W C A (compareOp .NotIn v (.ref l)) h P := W.mk fun s tk => by
  refine PySem.SeqAt.notIn_listAt (s := st s h tk) (fun y => decide (vTp q y h.get?)) e.list (fun y hy => ?_) ⟨h, tk, rfl, ?_⟩
  · obtain ⟨p, hp, tp⟩ := hs.memp y (by simpa using hy)
    have e1 : decide (vTp q y h.get?) = decide (p = q) := by
      rw [decide_eq_decide]
      exact ⟨fun t => vTp.same tp t, fun e => e ▸ tp⟩
    rw [e1]
    obtain ⟨a, rfl, _, ta⟩ := tp
    obtain ⟨b, rfl, _, tb⟩ := tq
    exact eq_pair (s := st s h tk) (show A.units + 1 + 2 < cLine by exact om257 hu) ta tb
  · have e2 : (vs.toArray.any fun y => decide (vTp q y h.get?)) = decide (q ∈ f) := by
      rw [Bool.eq_iff_iff, decide_eq_true_eq, List.any_toArray, List.any_eq_true]
      constructor
      · rintro ⟨y, hy, t⟩
        rw [decide_eq_true_eq] at t
        obtain ⟨p, hp, tp⟩ := hs.memp y hy
        rw [← vTp.same tp t]; exact hp
      · intro hq
        obtain ⟨y, hy, t⟩ := hs.memv q hq
        exact ⟨y, hy, decide_eq_true t⟩
    rw [e2]; exact x
end
end
section
noncomputable abbrev ngT : Option (Value × Value) → Loc
  | none => []
  | some (n, g) => [(Str.ofString "number", n), (Str.ofString "generation", g)]
noncomputable abbrev lvT : Option (Value × Option (Value × Value)) → Loc
  | none => []
  | some (l, o) => (Str.ofString "level", l) :: ngT o
noncomputable abbrev rdM (s v r sn hr : Value) (o : Loc) : Loc := (Str.ofString "value", v) :: (Str.ofString "shelf", s) :: (Str.ofString "rounds", r) :: (Str.ofString "seen", sn) :: (Str.ofString "here", hr) :: o
theorem flatten_filter {α : Type} : ∀ l : List (List α), (l.filter fun x => !x.isEmpty).flatten = l.flatten
  | [] => rfl
  | x :: l => by
    have ih := flatten_filter l
    cases x with
    | nil => simpa using ih
    | cons a b => simp [ih]
section
variable {C : Cx} {A : Around} {h : Heap} {s : Addr} {F : Fz} {k : Nat} {sh : Sh}
inductive RdJ (C : Cx) (h₀ : Heap) (L rA sA : Addr) (s : Addr) (v : Value) (t : T) (rs : List Row) (F₀ : Fz) (kk : Nat) (h : Heap) : Prop
  | mk (o : Option (Value × Option (Value × Value))) (hA : Addr) (hs f : List Pr) (hvs svs rvs : List Value) (lvls : List (List Pr)) (z0 : kk = 2 * (21 - f.length) + (if hs = [] then 0 else 1)) (z1 : f.Nodup) (z2 : (∀ p ∈ f, there rs p = true)) (z3 : lvls.flatten = f) (z4 : rvs.length + kk ≤ 50) (z5 : (∀ r, Wk rs (adds rs f hs) f.length r → Wk rs (start rs t) 0 r)) (z6 : St C h₀ [] L (rdM (.ref s) v (.ref rA) (.ref sA) (.ref hA) (lvT o)) [(sA, oL svs), (rA, oL rvs)] (fun F => (At (ge h₀.objs.size F) hA (oL hvs) ∧ Tps (ge h₀.objs.size F) hvs hs) ∧ Tps (ge h₀.objs.size F) svs f ∧ Lvls (ge h₀.objs.size F) rvs lvls ∧ Le F₀ F) h)
inductive RdJ1 (C : Cx) (h₀ : Heap) (L rA sA lA hA I : Addr) (s : Addr) (v : Value) (rs : List Row) (F₀ : Fz) (f hs : List Pr) (hvs rvs : List Value) (lvls : List (List Pr)) (j : Nat) (h : Heap) : Prop
  | mk (ng : Option (Value × Value)) (svs lvs : List Value) (lv : List Pr) (z0 : adds rs f (hs.take j) = f ++ lv) (z1 : St C h₀ [] L (rdM (.ref s) v (.ref rA) (.ref sA) (.ref hA) (lvT (some (.ref lA, ng)))) [(I, oLI hA j), (lA, oL lvs), (sA, oL svs), (rA, oL rvs)] (fun F => (At (ge h₀.objs.size F) hA (oL hvs) ∧ Tps (ge h₀.objs.size F) hvs hs) ∧ Tps (ge h₀.objs.size F) svs (f ++ lv) ∧ Tps (ge h₀.objs.size F) lvs lv ∧ Lvls (ge h₀.objs.size F) rvs lvls ∧ Le F₀ F) h)
inductive RdJ2 (C : Cx) (h₀ : Heap) (L rA sA lA hB I : Addr) (s : Addr) (v : Value) (rs : List Row) (F₀ : Fz) (f lv : List Pr) (svs lvs rvs : List Value) (lvls : List (List Pr)) (j : Nat) (h : Heap) : Prop
  | mk (ng : Option (Value × Value)) (hvs : List Value) (z0 : hvs.length ≤ 60 * j) (z1 : St C h₀ [] L (rdM (.ref s) v (.ref rA) (.ref sA) (.ref hB) (lvT (some (.ref lA, ng)))) [(I, oLI lA j), (hB, oL hvs), (sA, oL svs), (rA, oL rvs)] (fun F => Tps (ge h₀.objs.size F) hvs ((lv.take j).flatMap (kids rs)) ∧ Tps (ge h₀.objs.size F) svs f ∧ (At (ge h₀.objs.size F) lA (oL lvs) ∧ Tps (ge h₀.objs.size F) lvs lv) ∧ Lvls (ge h₀.objs.size F) rvs lvls ∧ Le F₀ F) h)
theorem rounds_ok {v : Value} {t : T} (G : GF C h) (R : Rm A (k + 5)) (hF : Le F h.get?) (x : RepSh C F s sh) (fit : Fit sh) (r : Rep C F v t) (hz : t.size ≤ 60) :
    W C A (call (.ref 497) [.ref s, v]) h (New h (fun u F' => ∃ l vs lvls, u = .ref l ∧ 503 ≤ l ∧ At F' l (oL vs) ∧ Lvls F' vs lvls ∧ vs.length ≤ 50 ∧ lvls.flatten.length ≤ 20 ∧ Wk sh.rows (start sh.rows t) 0 lvls.flatten)) := by
  obtain ⟨td, rd, kvs, tvs, x1, x2, x3, x4, x5, x6⟩ := x.1
  refine go (k := k + 4) (m := [(Str.ofString "value", v), (Str.ofString "shelf", .ref s)]) (In.nil (Φ := fun F' => Le F F') G fun F' l => hF.trans (by rw [fz_nil] at l; exact l)) R rfl rfl (by kernel_rfl) (fun s e => BindsTo.of_eq rfl) rfl (by kernel_rfl) (by kernel_rfl) rfl rfl rfl fun A' L h1 R' S => ?_
  have R1 : Rm A' (0 + 1) := R'.le (by exact om71)
  have hu : A'.units + 200 < cLine := by have := R'.un; exact om72 this
  have b1000 : 1000 < sizeLine := by decide
  refine bodyK rfl fun Rq kq => ?_
  walk_at "r"
  refine S_list S fun rA h2 nr r5 S2 => ?_
  have nrh := Nat.le_trans S.size nr
  clear S
  walk_at "s"
  intro h3 S3
  clear S2
  walk_at "r"
  refine S_list S3 fun sA h4 ns s5 S4 => ?_
  clear S3
  walk_at "s"
  intro h5 S5
  clear S4
  walk_at "r"
  refine ⟨S5.g, (refs_ok S5.g R' (fz_le _ _) (r.mono S5.here) hz).mono fun lv h6 hq1 => ?_⟩
  obtain ⟨⟨hLn, hlen, rl, rvs, e, rl5, erl, tps⟩, k6, z6⟩ := hq1
  subst e
  have S6 := S5.newx k6 (X := fun F' => At F' rl (oL rvs) ∧ Tps F' rvs (refs t)) (fun x l => ⟨x.1.mono l, x.2.mono l⟩) ⟨erl, tps⟩
  clear S5
  walk_at "s"
  intro h7 S7
  clear S6
  have rn := hLn.nodup List.nodup_nil
  refine X_whileK (RdJ C h L rA sA s v t sh.rows F) (2 * (21 - 0) + (if refs t = [] then 0 else 1)) ⟨none, rl, refs t, [], rvs, [], [], [], rfl, List.nodup_nil, fun _ q => (List.not_mem_nil q).elim, rfl, by split <;> simp, fun r y => ?_, (S7.lo (by with_unfolding_all rfl)).imp fun F' _ y => ⟨y.1, .nil, .nil, y.2⟩⟩ fun kk h8 ⟨o, hA, hs, f, hvs, svs, rvs, lvls, ek, fn, fth, efl, hb, hw, S8⟩ => ?_
  · rw [adds_nodup rn (by simp)] at y; exact y
  clear S7
  have fl := found_len fn fth
  have frs := fit.rows
  walk_at "r"
  refine S_list S8 fun eA h9 ne e5 S9 => ?_
  clear S8
  refine O_ne_nil (by exact om258 hu) (S9.now.1.1.mono ge_le) S9.at0 ?_
  walk_at "r"
  have S10 := S9.drop
  clear S9
  have hlh : hvs.length = hs.length := S10.now.1.2.length
  refine ⟨fun c Rr kr => ?_, fun c => ?_⟩
  · have hne : hs ≠ [] := fun q => by subst q; rw [List.eq_nil_of_length_eq_zero hlh] at c; simp at c
    rw [if_neg hne] at ek
    walk_at "r"
    refine S_list S10 fun lA h11 nl l5 S11 => ?_
    have nlh := Nat.le_trans S10.size nl
    clear S10
    walk_at "s"
    intro h12 S12
    clear S11
    have S13 := S12.lo (m' := rdM (.ref s) v (.ref rA) (.ref sA) (.ref hA) (lvT (some (.ref lA, o.bind (·.2))))) (by rcases o with _ | ⟨l, _ | ⟨n, g⟩⟩ <;> with_unfolding_all rfl)
    clear S12
    refine X_forI (h₀ := h) (M := []) (L := L) ?_
    walk_at "r"
    refine I_list S13 (S13.now.1.1.mono ge_le) fun I h14 nI neI S14 => ?_
    clear S13
    refine ⟨I, hvs.length, _, oLI hA, _, RdJ1 C h L rA sA lA hA I s v sh.rows F f hs hvs rvs lvls, rfl, Itr.list (vs := hvs) neI, R'.hd, ⟨_, svs, [], [], by simp [adds], S14.imp fun F' _ y => ⟨y.1, by rw [List.append_nil]; exact y.2.1, .nil, y.2.2⟩⟩, ?_, ?_⟩
    · rintro j hh hj ⟨ng, svs, lvs, lv, elv, S15⟩
      refine ⟨_, _, _, S15, S15.now.1.1.mono ge_le, fun Rr kr u h17 eu S16 => ?_⟩
      clear S15 S14
      obtain ⟨q, eq, tq⟩ := S16.here.1.2.get eu
      have tq := tq.mono ge_le
      obtain ⟨qa, rfl, q5, t1, t2, tq⟩ := tq
      obtain ⟨fn', fth'⟩ := adds_ok (rs := sh.rows) (ps := hs.take j) fn fth
      rw [elv] at fn' fth'
      have fl' := found_len fn' fth'
      rw [List.length_append] at fl'
      have sl : svs.length = (f ++ lv).length := S16.now.2.1.length
      have ll : lvs.length = lv.length := S16.now.2.2.1.length
      rw [List.length_append] at sl
      refine A_two S16 R'.hd (tq.mono (fz_le _ _)) rfl (by kernel_rfl) (by kernel_rfl) fun h18 S17 => ?_
      clear S16
      have S18 := S17.lo (m' := rdM (.ref s) v (.ref rA) (.ref sA) (.ref hA) (lvT (some (.ref lA, some (.int q.1 t1, .int q.2 t2))))) (by rcases ng with _ | ⟨n, g⟩ <;> with_unfolding_all rfl)
      clear S17
      have next : ∀ {svs2 lvs2 : List Value} {lv2 : List Pr} {h2 : Heap}, f ++ lv2 = addT sh.rows (f ++ lv) q → St C h [] L (rdM (.ref s) v (.ref rA) (.ref sA) (.ref hA) (lvT (some (.ref lA, some (.int q.1 t1, .int q.2 t2))))) [(I, oLI hA (j + 1)), (lA, oL lvs2), (sA, oL svs2), (rA, oL rvs)] (fun F' => (At (ge h.objs.size F') hA (oL hvs) ∧ Tps (ge h.objs.size F') hvs hs) ∧ Tps (ge h.objs.size F') svs2 (f ++ lv2) ∧ Tps (ge h.objs.size F') lvs2 lv2 ∧ Lvls (ge h.objs.size F') rvs lvls ∧ Le F F') h2 →
          RdJ1 C h L rA sA lA hA I s v sh.rows F f hs hvs rvs lvls (j + 1) h2 := fun a b => ⟨_, _, _, _, by rw [List.take_add_one, eq]; show adds _ _ (_ ++ [q]) = _; rw [adds_snoc, elv, a], b⟩
      walk_at "r"
      refine A_table S18.g (x1.mono S18.now.2.2.2.2) ?_
      refine D_in (knd := iK C) (k := q.1) (by simp [PySem.intKind, Value.isInt]) (x2.mono S18.now.2.2.2.2) x1.t5 ?_
      walk_at "r"
      have stop : there sh.rows q = false → f ++ lv = addT sh.rows (f ++ lv) q := fun e => by
        rw [addT, e]; split <;> rfl
      refine ⟨fun c1 => ?_, fun c1 => ?_⟩
      · obtain ⟨ra, g, tg, w, tw', e1, e2, e3, e4, e5'⟩ := x3.some c1
        have eth : there sh.rows q = (g == q.2) := by unfold there; rw [e2]
        walk_at "r"
        refine A_table S18.g (x1.mono S18.now.2.2.2.2) ?_
        walk_at "r"
        refine D_sub (knd := iK C) (k := q.1) (by simp [PySem.intKind, Value.isInt]) (x2.mono S18.now.2.2.2.2) e1 ?_
        walk_at "r"
        refine O_subT (e3.mono S18.now.2.2.2.2) (by decide) (by decide) rfl ?_
        walk_at "r"
        refine O_eq ?_
        rw [← eth]
        walk_at "r"
        refine ⟨fun c2 => ?_, fun c2 => ?_⟩
        · walk_at "r"
          refine S_tuple S18 fun ta h19 na ta5 S19 => ?_
          clear S18
          walk_at "r"
          refine O_notinL (f := f ++ lv) (q := q) (by exact om52 hu) (S19.now.2.2.1.mono ge_le) S19.at2 ⟨ta, rfl, ta5, t1, t2, S19.now.1⟩ ?_
          have S20 := S19.imp (Ψ := fun F' => (At (ge h.objs.size F') hA (oL hvs) ∧ Tps (ge h.objs.size F') hvs hs) ∧ Tps (ge h.objs.size F') svs (f ++ lv) ∧ Tps (ge h.objs.size F') lvs lv ∧ Lvls (ge h.objs.size F') rvs lvls ∧ Le F F') fun F' _ y => y.2
          clear S19
          walk_at "r"
          refine ⟨fun c3 => ?_, fun c3 => ?_⟩
          · have c3 : q ∉ f ++ lv := by simpa using c3
            walk_at "r"
            refine ⟨fun _ => ?_, no_ff rfl⟩
            walk_at "r"
            refine M_list S20.at2 PySem.F.slot_list_append (by kernel_rfl) ?_
            walk_at "r"
            refine S_tuple S20 fun tb h21 nb tb5 S21 => ?_
            have S21g := S20.size
            clear S20
            walk_at "r"
            refine O_append S21.at2 (by exact om259 b1000 frs fl' sl) fun h22 k22 e22 => ?_
            have S22 := (S21.put2 k22 e22).imp (Ψ := fun F' => (At (ge h.objs.size F') hA (oL hvs) ∧ Tps (ge h.objs.size F') hvs hs) ∧ Tps (ge h.objs.size F') (svs ++ [.ref tb]) (f ++ (lv ++ [q])) ∧ Tps (ge h.objs.size F') lvs lv ∧ Lvls (ge h.objs.size F') rvs lvls ∧ Le F F') fun F' _ y => ⟨y.2.1, by
              rw [← List.append_assoc]
              exact y.2.2.1.snoc ⟨tb, rfl, tb5, t1, t2, let ⟨o, e, p⟩ := y.1; ⟨o, ge_of (Nat.le_trans S21g nb) e, p⟩⟩, y.2.2.2⟩
            clear S21
            walk_at "r"
            refine M_list S22.at1 PySem.F.slot_list_append (by kernel_rfl) ?_
            walk_at "r"
            refine S_tuple S22 fun tc h23 nc tc5 S23 => ?_
            have S23g := S22.size
            clear S22
            walk_at "r"
            refine O_append S23.at1 (by exact om260 b1000 frs fl' sl ll) fun h24 k24 e24 => ?_
            have S24 := (S23.put1 k24 e24)
            walk_at "r"
            refine next (lv2 := lv ++ [q]) (by rw [addT, if_neg c3, if_pos c2, List.append_assoc]) (S24.imp fun F' _ y => ⟨y.2.1, y.2.2.1, y.2.2.2.1.snoc ⟨tc, rfl, tc5, t1, t2, let ⟨o, e, p⟩ := y.1; ⟨o, ge_of (Nat.le_trans S23g nc) e, p⟩⟩, y.2.2.2.2⟩)
          · have c3 : q ∈ f ++ lv := by rw [Bool.not_eq_false', decide_eq_true_eq] at c3; exact c3
            refine ⟨no_tt rfl, fun _ => ?_⟩
            walk_at "r"
            exact next (by rw [addT, if_pos c3]) S20
        · refine ⟨no_tt rfl, fun _ => ?_⟩
          walk_at "r"
          exact next (stop c2) S18
      · refine ⟨no_tt rfl, fun _ => ?_⟩
        walk_at "r"
        refine next (stop ?_) S18
        have := x3.none (n := q.1)
        rw [c1] at this
        unfold there
        have e : find sh.rows q.1 = none := Option.isNone_iff_eq_none.mp (by rw [← Option.not_isSome, ← this]; rfl)
        rw [e]
    · rintro hh ⟨ng, svs, lvs, lv, elv, S15⟩
      refine ⟨_, _, _, S15, S15.now.1.1.mono ge_le, fun h17 S16 => ?_⟩
      clear S15 S14
      rw [hlh, List.take_length] at elv
      obtain ⟨fn', fth'⟩ := adds_ok (rs := sh.rows) (ps := hs) fn fth
      have hw' : ∀ r, Wk sh.rows (f ++ lv) f.length r → Wk sh.rows (start sh.rows t) 0 r := fun r y => hw r (by rw [elv]; exact y)
      rw [elv] at fn' fth'
      clear hw elv
      have fl' := found_len fn' fth'
      have fl2 := fl'
      rw [List.length_append] at fl2
      have ll : lvs.length = lv.length := S16.now.2.2.1.length
      have rl' : rvs.length = lvls.length := S16.now.2.2.2.1.length
      walk_at "r"
      refine M_list S16.at2 PySem.F.slot_list_append (by kernel_rfl) ?_
      walk_at "r"
      refine O_append S16.at2 (by exact om261 b1000 ek hb rl') fun h18 k18 e18 => ?_
      have S17 := S16.put2 k18 e18
      clear S16
      have S18 := S17.freeze (Ψ := fun F' => (At (ge h.objs.size F') lA (oL lvs) ∧ Tps (ge h.objs.size F') lvs lv) ∧ Tps (ge h.objs.size F') svs (f ++ lv) ∧ Lvls (ge h.objs.size F') (rvs ++ [.ref lA]) (lvls ++ [lv]) ∧ Le F F') fun F' o po _ e y => by
        have e1 : At (ge h.objs.size F') lA (oL lvs) := ⟨o, ge_of nlh e, po⟩
        exact ⟨⟨e1, y.2.2.1⟩, y.2.1, y.2.2.2.1.snoc ⟨lA, lvs, rfl, l5, e1, y.2.2.1⟩, y.2.2.2.2⟩
      clear S17
      walk_at "r"
      refine S_list S18 fun hB h19 nB b5 S19 => ?_
      have nBh := Nat.le_trans S18.size nB
      clear S18
      walk_at "s"
      intro h20 S20
      clear S19
      have S21 := S20.lo (m' := rdM (.ref s) v (.ref rA) (.ref sA) (.ref hB) (lvT (some (.ref lA, ng)))) (by rcases ng with _ | ⟨n, g⟩ <;> with_unfolding_all rfl)
      clear S20
      refine X_forI (h₀ := h) (M := []) (L := L) ?_
      walk_at "r"
      refine I_list S21 (S21.now.1.1.mono ge_le) fun I2 h22 nI2 neI2 S22 => ?_
      clear S21
      refine ⟨I2, lvs.length, _, oLI lA, _, RdJ2 C h L rA sA lA hB I2 s v sh.rows F (f ++ lv) lv svs lvs (rvs ++ [.ref lA]) (lvls ++ [lv]), rfl, Itr.list (vs := lvs) neI2, R'.hd, ⟨ng, [], Nat.zero_le _, S22.imp fun F' _ y => ⟨by simpa using Tps.nil, y.2.1, y.1, y.2.2⟩⟩, ?_, ?_⟩
      · rintro j hh hj ⟨ng, hvs2, hl4, S23⟩
        refine ⟨_, _, _, S23, S23.now.2.2.1.1.mono ge_le, fun Rr kr u h24 eu S24 => ?_⟩
        clear S23 S22
        obtain ⟨q, eq, tq⟩ := S24.here.2.2.1.2.get eu
        obtain ⟨qa, rfl, q5, t1, t2, tq⟩ := tq
        have tq := tq.mono ge_le
        have hq := fth' q (List.mem_append.mpr (.inr (List.mem_of_getElem? eq)))
        have hps : (find sh.rows q.1).isSome = true := by rw [there_find hq]; rfl
        obtain ⟨ra, g, tg, w, tw', e1, e2, e3, e4, e5'⟩ := x3.some (n := q.1) (by rw [x3.none]; exact hps)
        rw [there_find hq] at e2
        simp only [Option.some.injEq, Prod.mk.injEq] at e2
        have hsz : (treeAt sh.rows q).size ≤ 60 := fit.sz _ (find_mem (there_find hq))
        rw [← e2.2] at e5'
        have hj' : j < lv.length := by exact om64 ll hj
        refine A_two S24 R'.hd (tq.mono (fz_le _ _)) rfl (by kernel_rfl) (by kernel_rfl) fun h25 S25 => ?_
        clear S24
        have S26 := S25.lo (m' := rdM (.ref s) v (.ref rA) (.ref sA) (.ref hB) (lvT (some (.ref lA, some (.int q.1 t1, .int q.2 t2))))) (by rcases ng with _ | ⟨n, g⟩ <;> with_unfolding_all rfl)
        clear S25
        walk_at "r"
        refine M_list S26.at1 PySem.F.slot_list_extend (by kernel_rfl) ?_
        walk_at "r"
        refine A_table S26.g (x1.mono S26.now.2.2.2.2) ?_
        walk_at "r"
        refine D_sub (knd := iK C) (k := q.1) (by simp [PySem.intKind, Value.isInt]) (x2.mono S26.now.2.2.2.2) e1 ?_
        walk_at "r"
        refine O_subT (e3.mono S26.now.2.2.2.2) (by decide) (by decide) rfl ?_
        walk_at "r"
        refine ⟨S26.g, (refs_ok S26.g R' (fz_le _ _) (e5'.mono S26.here.2.2.2.2) hsz).mono fun u2 h27 hq2 => ?_⟩
        obtain ⟨⟨_, hl2, rl2, rvs2, e, r52, erl2, tps2⟩, k27, z27⟩ := hq2
        subst e
        have S27 := S26.newx k27 (X := fun F' => At F' rl2 (oL rvs2) ∧ Tps F' rvs2 (kids sh.rows q)) (fun x l => ⟨x.1.mono l, x.2.mono l⟩) ⟨erl2, tps2⟩
        clear S26
        walk_at "r"
        have hl3 : rvs2.length ≤ 60 := by have := tps2.length; exact om73 hsz hl2 this
        refine O_extendL S27.at1 (S27.now.1.1.mono ge_le) (by exact om262 frs fl2 ll hj hl4 hl3) fun h28 k28 e28 => ?_
        have S28 := S27.put1 k28 e28
        walk_at "r"
        refine ⟨_, _, by rw [List.length_append]; exact om263 hl4 hl3, S28.imp fun F' _ y => ⟨?_, y.2.2⟩⟩
        rw [List.take_add_one, eq, List.flatMap_append]
        refine y.2.1.append ?_
        simpa using y.1.2
      · rintro hh ⟨ng, hvs2, hl4, S23⟩
        refine ⟨_, _, _, S23, S23.now.2.2.1.1.mono ge_le, fun h24 S24 => ?_⟩
        clear S23 S22
        walk_at "r"
        rw [ll, List.take_length] at S24
        have S25 := S24.freeze (Ψ := fun F' => (At (ge h.objs.size F') hB (oL hvs2) ∧ Tps (ge h.objs.size F') hvs2 (lv.flatMap (kids sh.rows))) ∧ Tps (ge h.objs.size F') svs (f ++ lv) ∧ Lvls (ge h.objs.size F') (rvs ++ [.ref lA]) (lvls ++ [lv]) ∧ Le F F') fun F' o po _ e y => ⟨⟨⟨o, ge_of nBh e, po⟩, y.1⟩, y.2.1, y.2.2.2⟩
        have hk : 2 * (21 - (f ++ lv).length) + (if lv.flatMap (kids sh.rows) = [] then 0 else 1) < kk := by
          rw [List.length_append]
          cases lv with
          | nil => simp; exact om264 ek
          | cons a l => simp only [List.length_cons] at *; split <;> omega
        refine ⟨_, hk, some (.ref lA, ng), hB, _, _, hvs2, svs, _, _, rfl, fn', fth', by rw [List.flatten_append, efl]; simp, by rw [List.length_append, List.length_singleton]; exact om265 ek hb rl' hk, fun r y => hw' r (Wk_level (lv := lv) (fun j p e => ?_) (by rw [List.length_append] at y; exact y)), S25⟩
        rw [List.getElem?_append_right (Nat.le_add_right _ _), Nat.add_sub_cancel_left]; exact e
  · have hne : hs = [] := List.eq_nil_of_length_eq_zero (by rw [← hlh]; simpa using c)
    subst hne
    have hq := hw f (.done (Nat.le_refl _))
    have S11 := S10.drop
    clear S10
    walk_at "r"
    refine E_compP (h₀ := h) (M := []) (L := L) (cl := []) ?_ (by with_unfolding_all rfl) (by kernel_rfl) rfl (by kernel_rfl) (fun Cc => by kernel_rfl)
    walk_at "r"
    refine I_list S11 S11.at0 fun I h10 nI neI S12 => ?_
    clear S11
    have rll : rvs.length = lvls.length := S12.now.2.2.1.length
    refine ⟨I, _, _, oLI rA, _, _, _, _, fun i acc F' => Lvls (ge h.objs.size F') acc ((lvls.take i).filter fun x => !x.isEmpty), rfl, Itr.list (vs := rvs) neI, R'.hd, by exact om266 hb ek rll, fun h' q f => q (rA, oL rvs) (.head _), fun F' _ => by simpa using Lvls.nil, S12, ?_, ?_⟩
    · intro i acc pv D Cc h11 Kf Kt hi ev ha hD kf kt S13
      obtain ⟨p, ep, la, lvs, rfl, l5, el, tl⟩ := S13.now.2.2.2.1.get ev
      have pl : lvs.length = p.length := tl.length
      refine ts_one ?_
      walk_at "r"
      refine S_list S13 fun eA h12 ne e5 S14 => ?_
      have S15 := S14.drop
      obtain ⟨p', ep', la', lvs', e', l5', el', tl'⟩ := S14.now.2.2.2.1.get ev
      rw [ep] at ep'; cases ep'
      cases e'
      refine O_ne_nil (by exact om258 hu) (el'.mono ge_le) S14.at0 ?_
      clear S13 S14
      walk_at "r"
      have pe : lvs'.isEmpty = p.isEmpty := by
        have := tl'.length
        cases lvs' <;> cases p <;> simp at this ⊢
      rw [pe]
      refine ⟨fun e => kf _ (S15.imp fun F' _ ⟨f, l⟩ => ⟨?_, l⟩), fun e => ?_⟩
      · try dsimp only at f ⊢
        rw [filter_take _ ep, e]
        simpa using f
      · walk_at "r"
        refine kt _ _ (S15.imp fun F' _ ⟨f, l⟩ => ⟨?_, l⟩)
        obtain ⟨p'', ep'', z⟩ := l.2.2.1.get ev
        rw [ep] at ep''; cases ep''
        try dsimp only at f ⊢
        rw [filter_take _ ep, e]
        exact f.snoc z
    · intro D acc h11 hD D5 ha S13
      have S14 := (S13.freeze (Ψ := fun F' => At F' D (oL acc) ∧ Lvls (ge h.objs.size F') acc (lvls.filter fun x => !x.isEmpty)) fun F' o po l e f => ⟨⟨o, e, po⟩, by have := f.1; rwa [rll, List.take_length] at this⟩)
      obtain ⟨o, e, p⟩ := S14.now.1
      refine (kq.go ⟨⟨D, acc, _, rfl, D5, ⟨o, ge_of (Nat.le_trans S12.size hD) e, p⟩, S14.now.2, by exact om267 hb ek rll ha, by rw [flatten_filter, efl]; exact om268 fl frs, ?_⟩, S14.kb, S14.size⟩)
      rw [flatten_filter, efl]; exact hq
end
end
section
/-! the law, plain -/
theorem Reps.memr {C : Cx} {F : Fz} {vs : List Value} {ts : List T} (x : Reps C F vs ts) : ∀ t ∈ ts, ∃ v, Rep C F v t :=
  Reps.ind (P := fun _ ts => ∀ t ∈ ts, ∃ v, Rep C F v t) (fun _ h => absurd h List.not_mem_nil) (fun {v _ _ _} a _ ih t ht => (List.mem_cons.mp ht).elim (fun e => ⟨v, e ▸ a⟩) (ih t)) x
theorem parts_memr {C : Cx} {F : Fz} {v : Value} {t : T} (r : Rep C F v t) : ∀ u ∈ parts t, ∃ w, Rep C F w u := by
  intro u hu
  cases r with
  | ref _ _ _ => cases hu
  | int _ _ => cases hu
  | name _ _ _ => cases hu
  | array _ b _ => exact b.memr u hu
  | dict a b _ => exact b.memr u ((ordT_perm a.nodup (by rw [← b.length]; simp)).mem_iff.mp hu)
  | stream _ _ a b _ _ => exact b.memr u ((ordT_perm a.nodup (by rw [← b.length]; simp)).mem_iff.mp hu)
theorem Ln_total {C : Cx} {F : Fz} : ∀ (n : Nat) (ts : List T) (f : List Pr), (∀ t ∈ ts, ∃ v, Rep C F v t) → sizes ts ≤ n → ∃ r, Ln ts f r := by
  intro n
  induction n with
  | zero =>
    intro ts f h hz
    cases ts with
    | nil => exact ⟨f, .nil f⟩
    | cons t ts => have := t.size_pos; simp only [sizes] at hz; omega
  | succ n ih =>
    intro ts f h hz
    cases ts with
    | nil => exact ⟨f, .nil f⟩
    | cons t ts =>
      obtain ⟨v, rv⟩ := h t (.head _)
      have := t.size_pos
      simp only [sizes] at hz
      by_cases e : isRef t = true
      · obtain ⟨p, rfl⟩ := isRef_eq e
        obtain ⟨r, hr⟩ := ih ts (add1 f p) (fun u hu => h u (.tail _ hu)) (by exact om269 hz this)
        exact ⟨r, .ref hr⟩
      · have hp := parts_size rv
        obtain ⟨r, hr⟩ := ih (parts t ++ ts) f (fun u hu => (List.mem_append.mp hu).elim (parts_memr rv u) fun hu => h u (.tail _ hu)) (by rw [sizes_append]; exact om270 hz hp)
        exact ⟨r, .more (by simpa using e) hr⟩
theorem Ln_refs {C : Cx} {F : Fz} {v : Value} {t : T} (r : Rep C F v t) : Ln [t] [] (refs t) := by
  obtain ⟨l, hl⟩ := Ln_total (C := C) (F := F) (sizes [t]) [t] [] (fun u hu => by rw [List.mem_singleton.mp hu]; exact ⟨v, r⟩) (Nat.le_refl _)
  rw [refs_eq hl]; exact hl
theorem addT_sub {rs : List Row} {f : List Pr} {p q : Pr} (h : q ∈ f) : q ∈ addT rs f p := by
  unfold addT; split
  · exact h
  · split
    · exact List.mem_append.mpr (.inl h)
    · exact h
theorem adds_sub {rs : List Row} : ∀ {ps f : List Pr} {q : Pr}, q ∈ f → q ∈ adds rs f ps
  | [], _, _, h => h
  | _ :: ps, _, _, h => adds_sub (ps := ps) (addT_sub h)
theorem adds_mem {rs : List Row} : ∀ {ps f : List Pr} {q : Pr}, q ∈ ps → there rs q = true → q ∈ adds rs f ps
  | p :: ps, f, q, h, ht => by
    show q ∈ adds rs (addT rs f p) ps
    rcases List.mem_cons.mp h with rfl | h
    · refine adds_sub ?_
      unfold addT; split
      · assumption
      · simp
    · exact adds_mem h ht
theorem Wk.sub {rs : List Row} {f r : List Pr} {i : Nat} (w : Wk rs f i r) : ∀ q ∈ f, q ∈ r := by
  induction w with
  | done _ => exact fun _ h => h
  | step _ _ ih => exact fun q h => ih q (adds_sub h)
theorem Wk.closed {rs : List Row} {f r : List Pr} {i : Nat} (w : Wk rs f i r) : ∀ p ∈ r, p ∈ f.take i ∨ ∀ q ∈ kids rs p, there rs q = true → q ∈ r := by
  induction w with
  | @done f i h => exact fun p hp => .inl (by rw [List.take_of_length_le h]; exact hp)
  | @step f r i p0 e w ih =>
    intro p hp
    rcases ih p hp with h | h
    · obtain ⟨g, hg⟩ := adds_pre (rs := rs) (ps := kids rs p0) (f := f)
      have hi : i < f.length := (List.getElem?_eq_some_iff.mp e).1
      rw [hg, List.take_append_of_le_length (by exact om271 hi), List.take_add_one, e] at h
      rcases List.mem_append.mp h with h | h
      · exact .inl h
      · simp at h; subst h
        exact .inr fun q hq ht => w.sub q (adds_mem hq ht)
    · exact .inr h
theorem find_filter (rs : List Row) (k : Int → Bool) (n : Int) : find (rs.filter fun r => k r.1) n = if k n = true then find rs n else none := by
  unfold find
  induction rs with
  | nil => simp
  | cons r rs ih =>
    rw [List.filter_cons]
    by_cases e : r.1 = n
    · by_cases hk : k n = true
      · simp [e, hk]
      · rw [if_neg (by rw [e]; exact hk), ih, if_neg hk, if_neg hk]
    · by_cases hr : k r.1 = true
      · rw [if_pos hr]; simp only [List.find?_cons, e, decide_false]; exact ih
      · rw [if_neg hr]; simp only [List.find?_cons, e, decide_false]; exact ih
section
variable {rs : List Row} {t0 : T}
/-- the rows whose numbers are met -/
noncomputable def keptR (rs : List Row) (t0 : T) : List Row := rs.filter fun r => ((wkT rs t0).map (·.1)).contains r.1
theorem kept_find {n : Int} : find (keptR rs t0) n = if ((wkT rs t0).map (·.1)).contains n = true then find rs n else none := find_filter rs (fun n => ((wkT rs t0).map (fun q : Pr => q.1)).contains n) n
theorem kept_same {p : Pr} (h : there rs p = true → p ∈ wkT rs t0) : there (keptR rs t0) p = there rs p ∧ (there rs p = true → treeAt (keptR rs t0) p = treeAt rs p) := by
  by_cases e : ((wkT rs t0).map (·.1)).contains p.1 = true
  · have := kept_find (rs := rs) (t0 := t0) (n := p.1)
    rw [if_pos e] at this
    unfold there treeAt
    rw [this]
    exact ⟨rfl, fun _ => rfl⟩
  · have hn : there rs p = false := by
      cases q : there rs p with
      | false => rfl
      | true => exact absurd (List.contains_iff_mem.mpr (List.mem_map_of_mem (f := (·.1)) (h q))) e
    have := kept_find (rs := rs) (t0 := t0) (n := p.1)
    rw [if_neg e] at this
    refine ⟨?_, fun q => by rw [hn] at q; cases q⟩
    rw [hn]; unfold there; rw [this]
theorem adds_congr {rs' : List Row} : ∀ {ps f : List Pr}, (∀ q ∈ ps, there rs' q = there rs q) → adds rs' f ps = adds rs f ps
  | [], _, _ => rfl
  | p :: ps, f, h => by
    show adds rs' (addT rs' f p) ps = adds rs (addT rs f p) ps
    have : addT rs' f p = addT rs f p := by unfold addT; rw [h p (.head _)]
    rw [this]; exact adds_congr fun q hq => h q (.tail _ hq)
theorem kept_walk (W : WkF rs t0) {f : List Pr} {i : Nat} (w : Wk rs f i (wkT rs t0)) : Wk (keptR rs t0) f i (wkT rs t0) := by
  generalize hr : wkT rs t0 = r at w
  induction w with
  | done h => exact .done h
  | @step f r i p e w ih =>
    subst hr
    have hp : p ∈ wkT rs t0 := w.sub p (adds_sub (List.mem_of_getElem? e))
    have hk : kids (keptR rs t0) p = kids rs p := by unfold kids; rw [(kept_same fun _ => hp).2 (W.th p hp)]
    refine .step e ?_
    rw [hk, adds_congr fun q hq => (kept_same fun ht => w.sub q (adds_mem hq ht)).1]
    exact ih rfl
theorem kept_wk (W : WkF rs t0) : wkT (keptR rs t0) t0 = wkT rs t0 := by
  refine wkT_eq ?_
  have e : start (keptR rs t0) t0 = start rs t0 := by
    unfold start
    refine List.filter_congr fun p hp => ?_
    exact (kept_same fun ht => W.wk.sub p (List.mem_filter.mpr ⟨hp, ht⟩)).1
  rw [e]; exact kept_walk W W.wk
/-- what is reached -/
noncomputable def Met (rs : List Row) (t0 t : T) : Prop := ∀ p, Has p t → there rs p = true → p ∈ wkT rs t0
theorem kept_alk (W : WkF rs t0) (hl : ∀ p, there rs p = true → Ln [treeAt rs p] [] (refs (treeAt rs p))) : Alk (keptR rs t0) rs (Met rs t0) where
  part := fun g hu p hp ht => g p (.part hu hp) ht
  ref := fun {p} g => by
    obtain ⟨h1, h2⟩ := kept_same (rs := rs) (t0 := t0) (p := p) fun ht => g p .ref ht
    refine ⟨h1, fun e => ?_⟩
    rw [h1] at e
    rw [h2 e]
    refine ⟨rfl, fun q hq ht => ?_⟩
    have hp := g p .ref e
    rcases W.wk.closed p hp with h | h
    · simp at h
    · exact h q ((hl p e).has _ (.head _) hq) ht
theorem kept_met (W : WkF rs t0) : Met rs t0 t0 := fun p hp ht => W.wk.sub p (List.mem_filter.mpr ⟨W.ln.has _ (.head _) hp, ht⟩)
theorem kept_keys (W : WkF rs t0) (nd : (rs.map (·.1)).Nodup) : ((keptR rs t0).map (·.1)).Perm ((wkT rs t0).map (·.1)) := by
  refine (List.perm_ext_iff_of_nodup ((List.filter_sublist.map _).nodup nd) (firsts_nodup W.nd W.th)).mpr fun n => ⟨fun h => ?_, fun h => ?_⟩
  · obtain ⟨r, hr, rfl⟩ := List.mem_map.mp h
    exact List.contains_iff_mem.mp (List.mem_filter.mp hr).2
  · obtain ⟨p, hp, rfl⟩ := List.mem_map.mp h
    have := there_mem (W.th p hp)
    obtain ⟨r, hr, e⟩ := List.mem_map.mp this
    exact List.mem_map.mpr ⟨r, List.mem_filter.mpr ⟨hr, by rw [e]; exact List.contains_iff_mem.mpr h⟩, e⟩
theorem sortI_eq {l m : List Int} (p : l.Perm m) : sortI l = sortI m := eq_sortI ((sortI_perm l).trans p) (sortI_pw l)
theorem kept_none {ks : List Str} {xs : List T} (W : WkF rs (plain ⟨rs, ks, xs⟩)) : unre ⟨keptR rs (plain ⟨rs, ks, xs⟩), ks, xs⟩ = [] := by
  unfold unre
  refine List.filter_eq_nil_iff.mpr fun n hn => ?_
  have hn : n ∈ (keptR rs (plain ⟨rs, ks, xs⟩)).map (·.1) := (sortI_perm _).mem_iff.mp hn
  obtain ⟨r, hr, rfl⟩ := List.mem_map.mp hn
  show ¬ (!((wkT (keptR rs (plain ⟨rs, ks, xs⟩)) (plain ⟨rs, ks, xs⟩)).map (·.1)).contains r.1) = true
  rw [kept_wk W, (List.mem_filter.mp hr).2]
  decide
/-- the rows, some numbers dropped -/
noncomputable def dropR (rs : List Row) (n : Int) : List Row := rs.filter fun r => decide (r.1 ≠ n)
theorem drops_eq : ∀ (ns : List Int) (rs : List Row), ns.foldl dropR rs = rs.filter fun r => !ns.contains r.1
  | [], rs => by
    have : rs.filter (fun r => !([] : List Int).contains r.1) = rs := List.filter_eq_self.mpr fun _ _ => rfl
    rw [this]; rfl
  | n :: ns, rs => by
    rw [List.foldl_cons, drops_eq ns]
    unfold dropR
    rw [List.filter_filter]
    refine List.filter_congr fun r _ => ?_
    rw [List.contains_cons, Bool.not_or, Bool.and_comm]
    congr 1
    by_cases e : r.1 = n
    · simp [e]
    · simp [e]
theorem drops_kept {ks : List Str} {xs : List T} : (unre ⟨rs, ks, xs⟩).foldl dropR rs = keptR rs (plain ⟨rs, ks, xs⟩) := by
  rw [drops_eq]
  unfold keptR
  refine List.filter_congr fun r hr => ?_
  unfold unre
  have hm : r.1 ∈ sortI (rs.map (·.1)) := (sortI_perm _).mem_iff.mpr (List.mem_map_of_mem (f := (·.1)) hr)
  cases e : ((wkT rs (plain ⟨rs, ks, xs⟩)).map (·.1)).contains r.1 with
  | true =>
    rw [Bool.not_eq_true', ← Bool.not_eq_true, List.contains_iff_mem]
    intro h
    have := (List.mem_filter.mp h).2
    simp only [e] at this
    cases this
  | false =>
    rw [Bool.not_eq_false', List.contains_iff_mem]
    exact List.mem_filter.mpr ⟨hm, by rw [e]; rfl⟩
end
theorem Rows.drop {C : Cx} {F : Fz} {n : Int} {kvs : List (Int × Value)} {rs : List Row} (x : Rows C F kvs rs) : Rows C F (without kvs n) (dropR rs n) := by
  induction x with
  | nil => exact .nil
  | @cons m g tg a v t kvs rs a b c _ ih =>
    unfold without dropR at *
    rw [List.filter_cons, List.filter_cons]
    by_cases e : m = n
    · rw [if_neg (by simp [e]), if_neg (by simp [e])]; exact ih
    · rw [if_pos (by simpa using e), if_pos (by simpa using e)]; exact .cons a b c ih
theorem fit_filter {sh : Sh} {f : Row → Bool} (fit : Fit sh) : Fit ⟨sh.rows.filter f, sh.ks, sh.xs⟩ :=
  ⟨Nat.le_trans (List.length_filter_le _ _) fit.rows, fun r hr => fit.sz r (List.mem_filter.mp hr).1, fit.ks, fit.tz⟩
/-- depths of what is told -/
theorem depth_tup {s : Str} {l : List Dv} {k : Nat} (h : ∀ d ∈ l, d.depth ≤ k) : (Dv.tup (.str s :: l)).depth ≤ k + 1 := by
  show 1 + max 0 (depths l) ≤ k + 1
  rw [Nat.zero_max, Nat.add_comm]
  exact Nat.succ_le_succ (depths_le h)
theorem told_depth (n : Nat) : ∀ t : T, (toldN n t).depth ≤ 2 * n + 1 := by
  induction n with
  | zero => intro t; cases t <;> exact Nat.le_refl 1
  | succ n ih =>
    intro t
    cases t with
    | ref p => exact Nat.le_add_left 1 _
    | int p => exact Nat.le_add_left 1 _
    | name p => exact Nat.le_add_left 1 _
    | array xs => exact depth_tup fun d hd => (List.mem_map.mp hd).elim fun t q => q.2 ▸ Nat.le_succ_of_le (ih t)
    | dict ks xs =>
      exact depth_tup (s := Str.ofString "dict") (k := 2 * (n + 1)) fun d hd => by
        obtain ⟨k, _, e⟩ := List.mem_filterMap.mp hd
        obtain ⟨t, _, rfl⟩ := Option.map_eq_some_iff.mp e
        exact depth_tup fun d hd => (List.mem_singleton.mp hd) ▸ ih t
    | stream ks xs b =>
      exact depth_tup fun d hd => (List.mem_cons.mp hd).elim (fun e => e ▸ Nat.le_succ_of_le (ih _)) fun hd => (List.mem_singleton.mp hd) ▸ Nat.zero_le _
theorem shtold_depth (sh : Sh) : ∃ ds, shTold 120 sh = .tup ds ∧ depths ds ≤ 300 := by
  refine ⟨_, rfl, depths_le fun d hd => ?_⟩
  have h0 : ∀ t, (toldN 120 t).depth ≤ 241 := told_depth 120
  simp only [List.mem_cons, List.not_mem_nil, or_false] at hd
  rcases hd with rfl | rfl
  · simp only [Dv.depth]
    have := depths_le (l := (sortI (sh.rows.map (·.1))).filterMap fun k => (find sh.rows k).map fun r => Dv.tup [.int k, .int r.1, toldN 120 r.2]) (n := 250) fun d hd => by
      obtain ⟨k, _, e⟩ := List.mem_filterMap.mp hd
      obtain ⟨t, _, rfl⟩ := Option.map_eq_some_iff.mp e
      have := h0 t.2
      simp only [Dv.depth, depths]
      omega
    exact om272 this
  · have := h0 (.dict sh.ks sh.xs); exact om273 this
end
section
noncomputable def prD (p : Pr) : Dv := .tup [.int p.1, .int p.2]
theorem tps_rd {F : Fz} {vs : List Value} {ps : List Pr} (x : Tps F vs ps) : RDs F vs (ps.map prD) := by
  induction x with
  | nil => exact .nil
  | cons a _ ih => obtain ⟨a, e, _, t⟩ := a; subst e; exact .cons t.rd ih
theorem ints_rd {F : Fz} {vs : List Value} {ns : List Int} (x : IntsAre vs ns) : RDs F vs (ns.map .int) := by
  induction x with
  | nil => exact .nil
  | cons n t _ ih => exact .cons (.int n t) ih
theorem depths_pr (ps : List Pr) : depths (ps.map prD) ≤ 1 := depths_le fun d hd => by
  obtain ⟨p, _, rfl⟩ := List.mem_map.mp hd
  simp [prD, Dv.depth, depths]
theorem depths_ints (ns : List Int) : depths (ns.map .int) ≤ 0 := depths_le fun d hd => by
  obtain ⟨p, _, rfl⟩ := List.mem_map.mp hd
  simp [Dv.depth]
theorem level_len {l : List Pr} : ∀ {lvls : List (List Pr)}, l ∈ lvls → l.length ≤ lvls.flatten.length
  | x :: r, h => by
    rw [List.flatten_cons, List.length_append]
    rcases List.mem_cons.mp h with rfl | h
    · exact om23
    · have := level_len h; exact om24 this
theorem take_len (lvls : List (List Pr)) (j : Nat) : (lvls.take j).flatten.length ≤ lvls.flatten.length := by
  have : lvls.flatten = (lvls.take j).flatten ++ (lvls.drop j).flatten := by rw [← List.flatten_append, List.take_append_drop]
  rw [this, List.length_append]; exact om23
theorem rows_ln {C : Cx} {F : Fz} {kvs : List (Int × Value)} {rs : List Row} (x : Rows C F kvs rs) {p : Pr} (h : there rs p = true) : Ln [treeAt rs p] [] (refs (treeAt rs p)) := by
  obtain ⟨a, g, tg, v, t, e1, e2, e3, e4, e5⟩ := x.some (n := p.1) (by rw [x.none, there_find h]; rfl)
  rw [there_find h] at e2
  simp only [Option.some.injEq, Prod.mk.injEq] at e2
  rw [e2.2]
  exact Ln_refs e5
noncomputable abbrev lvO : Option Value → Loc
  | none => []
  | some l => [(Str.ofString "level", l)]
noncomputable abbrev dlT : Option (Value × Option Value) → Loc
  | none => []
  | some (d, o) => (Str.ofString "due", d) :: lvO o
noncomputable abbrev vdT : Option (Value × Value × Option Value) → Loc
  | none => []
  | some (v, d, o) => (Str.ofString "value", v) :: (Str.ofString "due", d) :: lvO o
noncomputable abbrev lwM (l p s kv : Value) (o : Loc) : Loc := (Str.ofString "script", l) :: (Str.ofString "pen", p) :: (Str.ofString "shelf", s) :: (Str.ofString "kept", kv) :: o
section
variable {C : Cx} {A : Around} {h : Heap} {F : Fz}
theorem M_toldS {s : Addr} {sh : Sh} {pl : Sem Bool} {R : Value × List Value → Heap → Prop} (G : GF C h) (x : RepSh C h.get? s sh) (y : R (.ref 365, [.ref s]) h) : W C A (getMethod (.ref s) (Str.ofString "told") pl) h R := let ⟨_, _, _, _, a, _⟩ := x.1; M_told G a y
theorem law_ok {l : Addr} {vs : List Value} {ns : List Int} (G : GF C h) (R : Rm A 126) (hF : Le F h.get?) (e0 : At F l (oLw vs)) (hi : IntsAre vs ns) (hz : vs.length ≤ 1000) : W C A (call (.ref 502) [.ref l]) h (fun v h' => v = .bool true ∧ Kb [] h h') := by
  refine go (k := 125) (m := [(Str.ofString "script", .ref l)]) (In.nil (Φ := fun F' => Le F F') G fun F' l => hF.trans (by rw [fz_nil] at l; exact l)) R rfl rfl (by kernel_rfl) (fun s e => BindsTo.of_eq rfl) rfl (by kernel_rfl) (by kernel_rfl) rfl rfl rfl fun A' L h1 R' S => ?_
  have R1 : Rm A' (0 + 1) := R'.le (by decide)
  have R2 : Rm A' (0 + 2) := R'.le (by decide)
  have R16 : Rm A' (0 + 16) := R'.le (by decide)
  have R124 : Rm A' 124 := R'.le (by decide)
  have hu : A'.units + 1000 < cLine := by have := R'.un; exact om274 this
  refine bodyK rfl fun Rq kq => ?_
  walk_at "r"
  refine ⟨S.g, (pen_ok S.g R1 S.now e0 hi hz).mono fun u h2 hq1 => ?_⟩
  obtain ⟨p, a, e, p5, np, ha, ⟨o, eo, po⟩, k2, z2⟩ := hq1
  subst e
  have S2 := S.new k2 np eo po
  clear S
  walk_at "s"
  intro h3 S3
  clear S2
  walk_at "r"
  refine ⟨S3.g, (shelf_ok S3.g R16 S3.at0 p5 ha (by decide) (by decide)).mono fun u h4 hq2 => ?_⟩
  obtain ⟨s, sh, a2, c2, e, rp, fit, ha2, hc2, hc2', ep, k4, z4⟩ := hq2
  subst e
  obtain ⟨rows, ks, xs⟩ := sh
  have S4 := ((S3.put0 k4 ep).add (Ψ := fun F' => RepSh C F' s ⟨rows, ks, xs⟩) fun F' l => rp.mono ((fresh_le l S3.lt S3.size).trans ge_le)).imp (Ψ := fun F' => RepSh C F' s ⟨rows, ks, xs⟩) fun F' _ q => q.1
  clear S3 rp
  walk_at "s"
  intro h5 S5
  clear S4
  walk_at "r"
  refine M_toldS S5.g S5.now ?_
  walk_at "r"
  refine (shtold_ok S5.g R124 (fz_le _ _) S5.here fit).mono fun kv h6 hq3 => ?_
  obtain ⟨rk, k6, z6⟩ := hq3
  have S6 := S5.newx k6 (X := fun F' => RD F' kv (shTold 120 ⟨rows, ks, xs⟩)) (fun x l => x.mono l) rk
  clear S5
  walk_at "s"
  intro h7 S7'
  clear S6
  have S7 := (S7'.lo (m' := lwM (.ref l) (.ref p) (.ref s) kv []) (by with_unfolding_all rfl)).imp (Ψ := fun F' => RD F' kv (shTold 120 ⟨rows, ks, xs⟩) ∧ RepSh C F' s ⟨rows, ks, xs⟩) fun F' _ q => ⟨q.1.mono ge_le, q.2⟩
  clear S7'
  refine X_forI (h₀ := h) (M := []) (L := L) ?_
  walk_at "r"
  refine ⟨S7.g, (plain_ok S7.g R1 (fz_le _ _) S7.here.2 (Nat.le_trans fit.ks (by decide))).mono fun lv h8 hq4 => ?_⟩
  obtain ⟨pd, pkv, e, d5, ed, ek, rs, k8, z8⟩ := hq4
  subst e
  have S8 := S7.keepx (Ψ := fun F' => Rep C F' (.ref pd) (plain ⟨rows, ks, xs⟩)) k8 fun F' l => dpost_rep (ed.mono (nw_ext.trans l)) ek (rs.mono ((fz_le _ _).ext.trans l)) d5
  clear S7
  walk_at "r"
  refine ⟨S8.g, draw0 S8 R1 p5 ha2 (by exact om275 hc2 hc2') (by exact om276 hc2 hc2') (by decide) (by decide) fun d td a3 h9 d0 d1 ha3 S9 _ => ?_⟩
  clear S8
  walk_at "r"
  refine O_add fun tt => ?_
  walk_at "r"
  refine ⟨S9.g, (mkRef (p := (1 + d, 0)) S9.g R2).mono fun v2 h10 hq5 => ?_⟩
  obtain ⟨r2, k10, z10⟩ := hq5
  have S10 := S9.newx k10 (X := fun F' => Rep C F' v2 (.ref (1 + d, 0))) (fun x l => x.mono l) r2
  clear S9
  walk_at "r"
  refine ⟨S10.g, val0 2 (by decide) S10 (R'.le (by decide) : Rm A' (0 + 4 * 2 + 6)) p5 ha3 (by exact om277 hc2 hc2') (by have : cost 2 = 512 := rfl; exact om278 hc2 hc2' this) fun v3 t3 a4 c4 h11 sz ha4 hc4 hc4' S11 => ?_⟩
  clear S10
  walk_at "r"
  refine S_tuple S11 fun ta h12 na ta5 S12 => ?_
  clear S11
  refine I_tuple S12 S12.now.1 fun I h13 nI ne S13 => ?_
  clear S12
  have hps : (plain ⟨rows, ks, xs⟩).size ≤ 60 := Nat.le_trans (plain_size _) fit.tz
  have w2 : wide 2 = 13 := rfl
  obtain ⟨us, eus⟩ : ∃ us : List Value, us = [.ref pd, v2, v3] := ⟨_, rfl⟩
  obtain ⟨ts, ets⟩ : ∃ ts : List T, ts = [plain ⟨rows, ks, xs⟩, .ref (1 + d, 0), t3] := ⟨_, rfl⟩
  have hts : ∀ t ∈ ts, t.size ≤ 60 := fun t ht => by
    rw [ets] at ht
    simp only [List.mem_cons, List.not_mem_nil, or_false] at ht
    rcases ht with rfl | rfl | rfl
    · exact hps
    · simp [T.size]
    · exact om279 w2 sz
  have S14 := S13.imp (Ψ := fun F' => (At F' ta (oT us) ∧ Reps C F' us ts) ∧ RD F' kv (shTold 120 ⟨rows, ks, xs⟩) ∧ RepSh C F' s ⟨rows, ks, xs⟩) fun F' _ q => ⟨⟨eus ▸ q.1, by rw [eus, ets]; exact .cons q.2.2.2.1 (.cons (q.2.2.1.mono ge_le) (.cons (q.2.1.mono ge_le) .nil))⟩, q.2.2.2.2⟩
  clear S13
  refine ⟨I, us.length, _, oTI ta, _, fun i hh => ∃ o, St C h [] L (lwM (.ref l) (.ref p) (.ref s) kv (vdT o)) [(I, oTI ta i), (p, oPen a4 c4)] (fun F' => (At F' ta (oT us) ∧ Reps C F' us ts) ∧ RD F' kv (shTold 120 ⟨rows, ks, xs⟩) ∧ RepSh C F' s ⟨rows, ks, xs⟩) hh, rfl, Itr.tuple ne, R'.hd, ⟨none, S14⟩, ?_, ?_⟩
  · rintro i hh hi' ⟨o, S15⟩
    refine ⟨_, _, _, S15, S15.now.1.1, fun Rr kr v h16 ev S16 => ?_⟩
    clear S15 S14
    obtain ⟨t, et, -⟩ := S16.here.1.2.get ev
    have hsz := hts t (List.mem_of_getElem? et)
    have repv : ∀ {F' : Fz}, Reps C F' us ts → Rep C F' v t := fun r => let ⟨t', e', r'⟩ := r.get ev; by rw [et] at e'; cases e'; exact r'
    walk_at "w"
    walk_at "s"
    intro h17 S17'
    clear S16
    have S17 := S17'.lo (m' := lwM (.ref l) (.ref p) (.ref s) kv ((Str.ofString "value", v) :: dlT (o.map (·.2)))) (by rcases o with _ | ⟨a, b, _ | c⟩ <;> with_unfolding_all rfl)
    clear S17'
    walk_at "r"
    refine S_list S17 fun dA h18 nd d5' S18 => ?_
    clear S17
    walk_at "s"
    intro h19 S19'
    clear S18
    obtain ⟨ol, eol⟩ : ∃ ol, ol = o.bind (·.2.2) := ⟨_, rfl⟩
    have S19 := S19'.lo (m' := lwM (.ref l) (.ref p) (.ref s) kv (vdT (some (v, .ref dA, ol)))) (by subst eol; rcases o with _ | ⟨a, b, _ | c⟩ <;> with_unfolding_all rfl)
    clear S19'
    refine X_forI (h₀ := h) (M := []) (L := L) ?_
    walk_at "r"
    refine ⟨S19.g, (rounds_ok S19.g (R'.le (by decide) : Rm A' (0 + 5)) (fz_le _ _) S19.here.2.2 fit (repv S19.here.1.2) hsz).mono fun u h20 hq6 => ?_⟩
    obtain ⟨⟨rl, rvs, lvls, e, rl5, erl, lvl, hl50, hfl, hwk⟩, k20, z20⟩ := hq6
    subst e
    have S20 := S19.newx k20 (X := fun F' => At F' rl (oL rvs) ∧ Lvls F' rvs lvls) (fun x l => ⟨x.1.mono l, x.2.mono l⟩) ⟨erl, lvl⟩
    clear S19
    refine I_list S20 (S20.now.1.1.mono ge_le) fun I2 h21 nI2 ne2 S21 => ?_
    clear S20
    have hlv := lvl.length
    refine ⟨I2, rvs.length, _, oLI rl, _, fun j hh => ∃ (ol : Option Value) (dvs : List Value), St C h [] L (lwM (.ref l) (.ref p) (.ref s) kv (vdT (some (v, .ref dA, ol)))) [(I2, oLI rl j), (dA, oL dvs), (I, oTI ta (i + 1)), (p, oPen a4 c4)] (fun F' => (At (ge h.objs.size F') rl (oL rvs) ∧ Lvls (ge h.objs.size F') rvs lvls) ∧ Tps F' dvs (lvls.take j).flatten ∧ (At F' ta (oT us) ∧ Reps C F' us ts) ∧ RD F' kv (shTold 120 ⟨rows, ks, xs⟩) ∧ RepSh C F' s ⟨rows, ks, xs⟩) hh, rfl, Itr.list (vs := rvs) ne2, R'.hd, ⟨ol, [], S21.imp fun F' _ q => ⟨q.1, .nil, q.2⟩⟩, ?_, ?_⟩
    · rintro j hh hj ⟨ol, dvs, S22⟩
      refine ⟨_, _, _, S22, S22.now.1.1.mono ge_le, fun Rr kr lv h23 elv S23 => ?_⟩
      clear S22 S21
      obtain ⟨ps, eps, la, lvs, rfl, la5, el, tl⟩ := S23.here.1.2.get elv
      have el := el.mono ge_le
      have tl := tl.mono ge_le
      have S24 := S23.add (Ψ := fun F' => At F' la (oL lvs) ∧ Tps F' lvs ps) fun F' l => ⟨el.mono l, tl.mono l⟩
      clear S23 el tl
      walk_at "w"
      walk_at "s"
      intro h24 S25'
      clear S24
      have S25 := S25'.lo (m' := lwM (.ref l) (.ref p) (.ref s) kv (vdT (some (v, .ref dA, some (.ref la))))) (by rcases ol with _ | c <;> with_unfolding_all rfl)
      clear S25'
      walk_at "r"
      refine M_list S25.at1 PySem.F.slot_list_extend (by kernel_rfl) ?_
      walk_at "r"
      have ln1 := S25.now.1.2.length
      have ln2 := S25.now.2.2.1.length
      have ln3 := level_len (List.mem_of_getElem? eps)
      have ln4 := take_len lvls j
      refine O_extendL S25.at1 S25.now.1.1 (by exact om280 hfl ln1 ln2 ln3 ln4) fun h25 k25 e25 => ?_
      have S26 := S25.put1 k25 e25
      clear S25
      walk_at "r"
      refine ⟨_, _, S26.imp fun F' _ q => ⟨q.2.1, ?_, q.2.2.2⟩⟩
      rw [List.take_add_one, eps, List.flatten_append]
      refine q.2.2.1.append ?_
      simpa using q.1.2
    · rintro hh ⟨ol, dvs, S22⟩
      refine ⟨_, _, _, S22, S22.now.1.1.mono ge_le, fun h23 S23' => ?_⟩
      clear S22 S21
      rw [hlv, List.take_length] at S23'
      have S23 := S23'.imp (Ψ := fun F' => Tps F' dvs lvls.flatten ∧ (At F' ta (oT us) ∧ Reps C F' us ts) ∧ RD F' kv (shTold 120 ⟨rows, ks, xs⟩) ∧ RepSh C F' s ⟨rows, ks, xs⟩) fun F' _ q => q.2
      clear S23'
      walk_at "r"
      refine ⟨S23.g, (walk_ok S23.g (R'.le (by decide) : Rm A' (0 + 5)) (fz_le _ _) S23.here.2.2.2 fit (repv S23.here.2.1.2) hsz).mono fun u h24 hq7 => ?_⟩
      obtain ⟨⟨hW, wl, wvs, e, wl5, ewl, wtp⟩, k24, z24⟩ := hq7
      subst e
      have eW : wkT rows t = lvls.flatten := wkT_eq hwk
      rw [eW] at wtp
      have S24 := S23.newx k24 (X := fun F' => At F' wl (oL wvs) ∧ Tps F' wvs lvls.flatten) (fun x l => ⟨x.1.mono l, x.2.mono l⟩) ⟨ewl, wtp⟩
      clear S23
      walk_at "r"
      refine O_neL (ds := lvls.flatten.map prD) (by have := depths_pr lvls.flatten; exact om281 hu this) (.lst (S24.now.1.1.mono ge_le) (tps_rd (S24.now.1.2.mono ge_le))) (by obtain ⟨o, e, q⟩ := S24.at0; exact .lst ⟨o, e, q⟩ (tps_rd S24.now.2.1)) ?_
      walk_at "r"
      refine ⟨no_tt rfl, fun _ => ?_⟩
      walk_at "r"
      refine ⟨S24.g, (reached_ok S24.g (R'.le (by decide) : Rm A' (0 + 6)) (fz_le _ _) S24.here.2.2.2.2 fit (repv S24.here.2.2.1.2) hsz).mono fun u h25 hq8 => ?_⟩
      obtain ⟨⟨_, ql, qvs, e, ql5, eql, qis⟩, k25, z25⟩ := hq8
      subst e
      have S25 := (S24.newx k25 (X := fun F' => At F' ql (oL qvs)) (fun x l => x.mono l) eql).imp (Ψ := fun F' => At F' ql (oL qvs) ∧ Tps F' dvs lvls.flatten ∧ (At F' ta (oT us) ∧ Reps C F' us ts) ∧ RD F' kv (shTold 120 ⟨rows, ks, xs⟩) ∧ RepSh C F' s ⟨rows, ks, xs⟩) fun F' _ q => ⟨q.1.mono ge_le, q.2.2⟩
      clear S24
      rw [show (wkT (⟨rows, ks, xs⟩ : Sh).rows t) = lvls.flatten from eW] at qis
      walk_at "r"
      refine E_compP (h₀ := h) (M := []) (L := L) (cl := []) ?_ (by with_unfolding_all rfl) (by kernel_rfl) rfl (by kernel_rfl) (fun Cc => by kernel_rfl)
      walk_at "r"
      refine I_list S25 S25.at0 fun I3 h26 nI3 ne3 S26 => ?_
      clear S25
      have dl : dvs.length = lvls.flatten.length := S26.now.2.1.length
      refine ⟨I3, _, _, oLI dA, _, _, _, _, fun i acc F' => IntsAre acc ((lvls.flatten.map (·.1)).take i), rfl, Itr.list (vs := dvs) ne3, R'.hd, by exact om109 hfl dl, fun h' q f => q (dA, oL dvs) (.head _), fun F' _ => by simpa using IntsAre.nil, S26, ?_, ?_⟩
      · intro i acc pv D Cc h27 Kf Kt hi ev ha hD kf kt S27
        obtain ⟨q, eq, qa, rfl, q5, t1, t2, tq⟩ := S27.now.2.2.1.get ev
        refine ts_nil ⟨fun q => Bool.noConfusion q, fun _ => ?_⟩
        walk_at "r"
        refine O_subT tq (by decide) (by decide) rfl ?_
        refine kt _ _ (S27.imp fun F' _ ⟨f, l⟩ => ⟨?_, l⟩)
        try dsimp only at f ⊢
        rw [List.take_add_one, List.getElem?_map, eq]
        exact f.append (.cons _ _ .nil)
      · intro D acc h27 hD D5 ha S27
        clear S26
        have hi := S27.now.1
        rw [dl, ← List.length_map (f := (·.1)), List.take_length] at hi
        walk_at "r"
        refine sorted_listI S27.at0 hi (by exact om282 hfl dl ha) fun l' h28 vs' nl k28 e28 i28 => ?_
        have S28 := S27.keepAt k28 nl e28
        clear S27
        refine O_neL (ds := (sortI (lvls.flatten.map (·.1))).map .int) (by have := depths_ints (sortI (lvls.flatten.map (·.1))); exact om283 hu this) (.lst S28.now.2.2.1 (ints_rd qis)) (.lst S28.now.1 (ints_rd i28)) ?_
        walk_at "r"
        refine ⟨no_tt rfl, fun _ => ?_⟩
        walk_at "r"
        refine ⟨no_tt rfl, fun _ => ?_⟩
        walk_at "r"
        exact ⟨_, ((S28.drop).drop).imp fun F' _ q => q.2.2.2.2⟩
  · rintro hh ⟨o, S15⟩
    refine ⟨_, _, _, S15, S15.now.1.1, fun h16 S16' => ?_⟩
    clear S15 S14
    have S16 := S16'.imp (Ψ := fun F' => RD F' kv (shTold 120 ⟨rows, ks, xs⟩) ∧ RepSh C F' s ⟨rows, ks, xs⟩) fun F' _ q => q.2
    clear S16'
    walk_at "r"
    refine ⟨S16.g, (shcopied_ok S16.g R124 (fz_le _ _) S16.here.2 fit).mono fun u h17 hq9 => ?_⟩
    obtain ⟨s2, td2, rd2, kvs2, e, ntd, etd, shx, k17, z17⟩ := hq9
    subst e
    have S17 := S16.newK k17 ntd etd (Ψ := fun F' => Shx C F' s2 td2 rd2 kvs2 rows ks xs) fun F' l => shx.mono l
    have td5 : 503 ≤ td2 := Nat.le_trans S16.h5 ntd
    clear S16
    walk_at "s"
    intro h18 S18'
    clear S17
    have S18 := S18'.lo (m' := lwM (.ref l) (.ref p) (.ref s) kv (vdT o ++ (Str.ofString "small", .ref s2) :: numT none)) (by rcases o with _ | ⟨a, b, _ | c⟩ <;> with_unfolding_all rfl)
    clear S18'
    refine X_forI (h₀ := h) (M := []) (L := L) ?_
    walk_at "r"
    refine ⟨S18.g, (unreached_ok S18.g (R'.le (by decide) : Rm A' (0 + 7)) (fz_le _ _) S18.here.2.2 fit).mono fun u h19 hq10 => ?_⟩
    obtain ⟨⟨hW, ul, uvs, e, ul5, eul, uis⟩, k19, z19⟩ := hq10
    subst e
    have S19 := S18.newx k19 (X := fun F' => At F' ul (oL uvs)) (fun x l => x.mono l) eul
    clear S18
    refine I_list S19 (S19.now.1.mono ge_le) fun I4 h20 nI4 ne4 S20 => ?_
    clear S19
    have ulen : uvs.length = (unre ⟨rows, ks, xs⟩).length := uis.length
    refine ⟨I4, uvs.length, _, oLI ul, _, fun j hh => ∃ (n : Option Value) (kvs' : List (Int × Value)), St C h [] L (lwM (.ref l) (.ref p) (.ref s) kv (vdT o ++ (Str.ofString "small", .ref s2) :: numT n)) [(I4, oLI ul j), (td2, oD (iK C) kvs'), (p, oPen a4 c4)] (fun F' => At (ge h.objs.size F') ul (oL uvs) ∧ Shx C F' s2 td2 rd2 kvs' (((unre ⟨rows, ks, xs⟩).take j).foldl dropR rows) ks xs ∧ RD F' kv (shTold 120 ⟨rows, ks, xs⟩) ∧ RepSh C F' s ⟨rows, ks, xs⟩) hh, rfl, Itr.list (vs := uvs) ne4, R'.hd, ⟨none, kvs2, S20⟩, ?_, ?_⟩
    · rintro j hh hj ⟨n, kvs', S21⟩
      refine ⟨_, _, _, S21, S21.now.1.mono ge_le, fun Rr kr v h22 ev S22 => ?_⟩
      clear S21 S20
      obtain ⟨nn, tn, en, rfl⟩ := ints_get uis ev
      walk_at "w"
      walk_at "s"
      intro h23 S23'
      clear S22
      have S23 := S23'.lo (m' := lwM (.ref l) (.ref p) (.ref s) kv (vdT o ++ (Str.ofString "small", .ref s2) :: numT (some (.int nn tn)))) (by rcases o with _ | ⟨a, b, _ | c⟩ <;> rcases n with _ | m <;> with_unfolding_all rfl)
      clear S23'
      walk_at "r"
      refine N_loc S23 (by walk_at "u") (by kernel_rfl) (v := .ref s2) (by rcases o with _ | ⟨a, b, _ | c⟩ <;> with_unfolding_all rfl) (by kernel_rfl) ?_
      refine M_drop S23.g S23.now.2.1.a ?_
      walk_at "r"
      refine N_loc S23 (by walk_at "u") (by kernel_rfl) (v := .int nn tn) (by rcases o with _ | ⟨a, b, _ | c⟩ <;> with_unfolding_all rfl) (by kernel_rfl) ?_
      walk_at "r"
      have sa : ShA C (fz [td2] h23) s2 td2 rd2 := (S23.φ (fz [td2] h23) fun a o e => let ⟨n, e⟩ := fz_some e; fz_of (fun q => n (by rw [List.mem_singleton.mp q]; simp [ads])) e).2.1.a
      have hk : kvs'.length ≤ 1000 := by
        have h1 := S23.now.2.1.r.length
        rw [drops_eq] at h1
        have h2 := List.length_filter_le (fun r : Row => !((unre ⟨rows, ks, xs⟩).take j).contains r.1) rows
        have h3 : rows.length ≤ 20 := fit.rows
        exact om284 h1 h2 h3
      refine ⟨S23.g, (drop_ok S23.g R1 sa S23.at1 hk).mono fun u h24 hq11 => ?_⟩
      obtain ⟨e24, k24, z24⟩ := hq11
      have S24 := S23.put1 k24 e24
      clear S23 sa
      walk_at "r"
      refine ⟨_, _, S24.imp fun F' _ q => ⟨q.1, ⟨q.2.1.a, ?_, q.2.1.t⟩, q.2.2⟩⟩
      rw [List.take_add_one, en, List.foldl_append]
      exact q.2.1.r.drop
    · rintro hh ⟨n, kvs', S21⟩
      refine ⟨_, _, _, S21, S21.now.1.mono ge_le, fun h22 S22 => ?_⟩
      clear S21 S20
      rw [ulen, List.take_length, drops_kept] at S22
      obtain ⟨small, esm⟩ : ∃ small : Sh, small = ⟨keptR rows (plain ⟨rows, ks, xs⟩), ks, xs⟩ := ⟨_, rfl⟩
      have S23 := S22.freeze (Ψ := fun F' => RepSh C F' s2 small ∧ RD F' kv (shTold 120 ⟨rows, ks, xs⟩) ∧ RepSh C F' s ⟨rows, ks, xs⟩) fun F' o po _ e f => ⟨esm ▸ f.2.1.rep ⟨o, e, po⟩, f.2.2⟩
      clear S22
      have fit2 : Fit small := esm ▸ fit_filter fit
      have epl : plain small = plain ⟨rows, ks, xs⟩ := by rw [esm]; rfl
      have nsm : look (lwM (.ref l) (.ref p) (.ref s) kv (vdT o ++ (Str.ofString "small", .ref s2) :: numT n)) (Str.ofString "small") = some (.ref s2) := by rcases o with _ | ⟨a, b, _ | c⟩ <;> with_unfolding_all rfl
      walk_at "r"
      refine N_loc S23 (by walk_at "u") (by kernel_rfl) (v := .ref s2) nsm (by kernel_rfl) ?_
      walk_at "r"
      refine ⟨S23.g, (unreached_ok S23.g (R'.le (by decide) : Rm A' (0 + 7)) (fz_le _ _) S23.here.1 fit2).mono fun u h24 hq12 => ?_⟩
      obtain ⟨⟨_, ql, qvs, e, ql5, eql, qis⟩, k24, z24⟩ := hq12
      subst e
      have qn : unre small = [] := by rw [esm]; exact kept_none hW
      rw [qn] at qis
      have qv : qvs = [] := by cases qis; rfl
      subst qv
      have S24 := S23.newx k24 (X := fun F' => At F' ql (oL [])) (fun x l => x.mono l) eql
      clear S23
      walk_at "r"
      refine S_list S24 fun eA h25 ne e5 S25 => ?_
      clear S24
      refine O_ne_nil (by exact om285 hu) (S25.now.1.mono ge_le) S25.at0 ?_
      have S26 := S25.drop.imp (Ψ := fun F' => RepSh C F' s2 small ∧ RD F' kv (shTold 120 ⟨rows, ks, xs⟩) ∧ RepSh C F' s ⟨rows, ks, xs⟩) fun F' _ q => q.2
      clear S25
      walk_at "r"
      refine ⟨no_tt rfl, fun _ => ?_⟩
      walk_at "r"
      refine N_loc S26 (by walk_at "u") (by kernel_rfl) (v := .ref s2) nsm (by kernel_rfl) ?_
      walk_at "r"
      obtain ⟨td, rd, kvs, tvs, x1, x2, x3, x4, x5, x6⟩ := S26.here.2.2.1
      have alk : Alk small.rows rows (Met rows (plain ⟨rows, ks, xs⟩)) := by rw [esm]; exact kept_alk hW fun p hp => rows_ln x3 hp
      refine ⟨S26.g, (alike_ok S26.g (R'.le (by decide) : Rm A' (0 + 7)) (fz_le _ _) S26.here.1 S26.here.2.2 fit2 fit epl alk (by rw [epl]; exact kept_met hW)).mono fun u h26 hq13 => ?_⟩
      obtain ⟨e, k26, z26⟩ := hq13
      subst e
      have S27 := S26.keep k26
      clear S26
      walk_at "r"
      refine ⟨no_tt rfl, fun _ => ?_⟩
      walk_at "r"
      refine ⟨no_tt rfl, fun _ => ?_⟩
      walk_at "r"
      refine N_loc S27 (by walk_at "u") (by kernel_rfl) (v := .ref s2) nsm (by kernel_rfl) ?_
      obtain ⟨td', rd', kvs'', tvs', y1, y2, y3, -⟩ := S27.here.1.1
      have y1 := y1.mono (fz_le _ _)
      refine A_table S27.g y1 ?_
      walk_at "r"
      have ykl := y3.length
      have ysl := fit2.rows
      refine sorted_dictI R'.hd (y2.mono (fz_le _ _)) y1.t5 (by exact om286 ykl ysl) fun sl h27 svs nl k27 e27 i27 => ?_
      have S28 := S27.keepAt k27 nl e27
      clear S27
      walk_at "r"
      refine ⟨S28.g, (plain_ok S28.g R1 (fz_le _ _) S28.here.2.2.2 (Nat.le_trans fit.ks (by decide))).mono fun lv h28 hq14 => ?_⟩
      obtain ⟨pd3, pkv3, e, d53, ed3, ek3, rs3, k28, z28⟩ := hq14
      subst e
      have S29 := S28.keepx (Ψ := fun F' => Rep C F' (.ref pd3) (plain ⟨rows, ks, xs⟩)) k28 fun F' l => dpost_rep (ed3.mono (nw_ext.trans l)) ek3 (rs3.mono ((fz_le _ _).ext.trans l)) d53
      clear S28
      walk_at "r"
      refine ⟨S29.g, (reached_ok S29.g (R'.le (by decide) : Rm A' (0 + 6)) (fz_le _ _) S29.here.2.2.2.2 fit S29.here.1 hps).mono fun u h29 hq15 => ?_⟩
      obtain ⟨⟨_, wl, wvs, e, wl5, ewl, wis⟩, k29, z29⟩ := hq15
      subst e
      have S30 := S29.newx k29 (X := fun F' => At F' wl (oL wvs)) (fun x l => x.mono l) ewl
      clear S29
      have nd : (rows.map (·.1)).Nodup := by rw [← show kvs.map (·.1) = rows.map (·.1) from x3.keys]; exact x2.nodup
      have ekeys : sortI (kvs''.map (·.1)) = sortI ((wkT rows (plain ⟨rows, ks, xs⟩)).map (·.1)) := by
        rw [y3.keys, esm]; exact sortI_eq (kept_keys hW nd)
      rw [ekeys] at i27
      refine O_eqL (ds := (sortI ((wkT rows (plain ⟨rows, ks, xs⟩)).map (·.1))).map .int) (by have := depths_ints (sortI ((wkT rows (plain ⟨rows, ks, xs⟩)).map (·.1))); exact om283 hu this) (.lst S30.now.2.2.1 (ints_rd i27)) (.lst (S30.now.1.mono ge_le) (ints_rd wis)) ?_
      walk_at "r"
      refine ⟨fun _ => ?_, no_ff rfl⟩
      walk_at "r"
      refine M_toldS S30.g S30.now.2.2.2.2.2 ?_
      walk_at "r"
      refine (shtold_ok S30.g R124 (fz_le _ _) S30.here.2.2.2.2.2 fit).mono fun kv2 h30 hq16 => ?_
      obtain ⟨rk2, k30, z30⟩ := hq16
      have S31 := S30.newx k30 (X := fun F' => RD F' kv2 (shTold 120 ⟨rows, ks, xs⟩)) (fun x l => x.mono l) rk2
      clear S30
      walk_at "r"
      obtain ⟨ds, eds, hds⟩ := shtold_depth ⟨rows, ks, xs⟩
      have r1 := S31.now.1
      have r2 := S31.now.2.2.2.2.2.1
      rw [eds] at r1 r2
      exact O_eqD (by exact om287 hu hds) (r1.mono ge_le) r2 (kq.go ⟨rfl, S31.kb⟩)
end
end
-- the tail of the claim: the part of the heap, the head, the theorem
def SubF (K' : Frag) : Frag → Prop
  | [] => True
  | (a, o) :: r => K'.lookup a = some o ∧ SubF K' r
theorem SubF.in {K' : Frag} {h : Heap} (X : K'.In h) : ∀ {K : Frag}, SubF K' K → K.In h
  | [], _ => fun a o e => by cases e
  | (a, o) :: r, ⟨e1, e2⟩ => fun b x e => by
    simp only [List.lookup] at e
    split at e
    · rename_i q; cases e; rw [beq_iff_eq.mp q]; exact X _ _ e1
    · exact SubF.in X e2 b x e
namespace hd
theorem tw17311223219408574766 : True := trivial
theorem tw10727248033764811480 : True := trivial
theorem tw3350844169311001129 : True := trivial
theorem tw8031314433607086095 : True := trivial
theorem tw3219085151875037572 : True := trivial
theorem tw11319097763535126812 : True := trivial
theorem tw3259873300814134281 : True := trivial
theorem tw11136197038861592535 : True := trivial
theorem tw16259696140248634718 : True := trivial
theorem tw978945382295711627 : True := trivial
theorem tw5373601922739893978 : True := trivial
theorem tw5978321128707920903 : True := trivial
theorem tw18322514126500204803 : True := trivial
theorem tw4360684699965382250 : True := trivial
theorem tw11893437276241958245 : True := trivial
theorem tw6293948785866598258 : True := trivial
theorem tw6407587892757256292 : True := trivial
theorem tw7752767780024739350 : True := trivial
theorem tw3571134770919094901 : True := trivial
theorem tw8735263284916673568 : True := trivial
theorem tw18300207936620678264 : True := trivial
theorem tw12023040214023829324 : True := trivial
theorem tw6276725880618359904 : True := trivial
theorem tw16828841361933241965 : True := trivial
theorem tw9673543361469618366 : True := trivial
theorem tw2867327485932766208 : True := trivial
theorem tw3646829019195819677 : True := trivial
theorem tw4225703048834024713 : True := trivial
theorem tw9641152695372364146 : True := trivial
theorem tw7296583596125217682 : True := trivial
theorem tw16345102440705955213 : True := trivial
theorem tw18103342009636024947 : True := trivial
theorem tw10111801491309104144 : True := trivial
theorem tw701787995468756871 : True := trivial
theorem tw8458067239894703972 : True := trivial
theorem tw11210553801493137410 : True := trivial
theorem tw1011335219593555734 : True := trivial
theorem tw17672654358674132775 : True := trivial
theorem tw11117797201346649052 : True := trivial
theorem tw922143313871775805 : True := trivial
theorem tw6785817131721698500 : True := trivial
theorem tw2114630138375439770 : True := trivial
theorem tw22551697357593593 : True := trivial
theorem tw12901994302517312135 : True := trivial
theorem tw6060742912462422084 : True := trivial
theorem tw1413172679324656950 : True := trivial
theorem tw4494801613693538912 : True := trivial
theorem tw15759970867653108152 : True := trivial
theorem tw15089522573102190283 : True := trivial
theorem tw3451239065008710300 : True := trivial
theorem tw4478166936697009375 : True := trivial
theorem tw17177331786930743035 : True := trivial
theorem tw15790720579355451973 : True := trivial
theorem tw2068664650715991707 : True := trivial
theorem tw6820862383352777685 : True := trivial
theorem tw8457440626546761165 : True := trivial
theorem tw1600037746751723098 : True := trivial
theorem tw10601615944963115059 : True := trivial
theorem tw16056359734778111409 : True := trivial
theorem tw9277588360372424766 : True := trivial
theorem tw15595854959937240912 : True := trivial
theorem tw9960721518486171458 : True := trivial
theorem tw2708950531961675432 : True := trivial
theorem tw15967140613478806237 : True := trivial
theorem tw4086058157674990017 : True := trivial
theorem tw17950676927832955104 : True := trivial
theorem tw17574625026820762457 : True := trivial
theorem tw12070051907170230399 : True := trivial
theorem tw11660266114150955751 : True := trivial
theorem tw15833661619300960221 : True := trivial
theorem tw16634568088961857937 : True := trivial
theorem tw16477043939570097188 : True := trivial
theorem tw17681399029576232318 : True := trivial
theorem tw7540655947842036084 : True := trivial
theorem tw13770079208771991547 : True := trivial
theorem tw8268277133935991078 : True := trivial
theorem tw11032806212648032379 : True := trivial
theorem tw12588582704262371052 : True := trivial
theorem tw13790719812936386609 : True := trivial
theorem tw1580110805410547442 : True := trivial
theorem tw3759623122121258479 : True := trivial
theorem tw4014540891139286612 : True := trivial
theorem tw1800889605409440832 : True := trivial
theorem tw189712035060473897 : True := trivial
theorem tw1506431575118746342 : True := trivial
theorem tw18264374347568628810 : True := trivial
theorem tw15368132723985388332 : True := trivial
theorem tw5902613922787404954 : True := trivial
theorem tw10246146449241189800 : True := trivial
theorem tw7023726343779634624 : True := trivial
theorem tw2167537188350426706 : True := trivial
theorem tw17183224562656869120 : True := trivial
theorem tw9566141503761928105 : True := trivial
theorem tw11652457597714270106 : True := trivial
theorem tw15103106377680225435 : True := trivial
theorem tw17893044597097874663 : True := trivial
theorem tw9386895884608548742 : True := trivial
theorem tw1382963296337349011 : True := trivial
theorem tw16007149819294483003 : True := trivial
theorem tw1222794163293265305 : True := trivial
theorem tw2386827423013361158 : True := trivial
theorem tw17447410573909459338 : True := trivial
theorem tw10949625832625181284 : True := trivial
theorem tw8960069828448710407 : True := trivial
theorem tw13518370688599389936 : True := trivial
theorem tw11631947586910100387 : True := trivial
theorem tw18343703819029505601 : True := trivial
theorem tw5987830557187376847 : True := trivial
theorem tw16064382804478563927 : True := trivial
theorem tw17062030032774818151 : True := trivial
theorem tw15837987909243819085 : True := trivial
theorem tw7289634563603522867 : True := trivial
theorem tw10784824025267889561 : True := trivial
theorem tw4172343393113369950 : True := trivial
theorem tw12936449754285732098 : True := trivial
theorem tw4851647983119433812 : True := trivial
theorem tw991583007596301734 : True := trivial
theorem tw6545403380812914513 : True := trivial
theorem tw17714235663813219645 : True := trivial
theorem tw728884934406724761 : True := trivial
theorem tw13483081372092288885 : True := trivial
theorem tw18293732401869909652 : True := trivial
theorem tw4702841417184801058 : True := trivial
theorem tw5036846961687405229 : True := trivial
theorem tw18219297243305740317 : True := trivial
theorem tw15529170255622000948 : True := trivial
theorem tw15615537253650120727 : True := trivial
theorem tw5278057926702712004 : True := trivial
theorem tw16853341256802265648 : True := trivial
theorem tw14560493823538711346 : True := trivial
theorem tw13368278939475635651 : True := trivial
theorem tw1129884963351977449 : True := trivial
theorem tw16412773359747925120 : True := trivial
theorem tw8117029840178788049 : True := trivial
theorem tw1439246655266547700 : True := trivial
theorem tw11319892378374348655 : True := trivial
theorem tw8112040973832200146 : True := trivial
theorem tw15042006015671813226 : True := trivial
theorem tw6123773746684550334 : True := trivial
theorem tw18093812233618175256 : True := trivial
theorem tw9741134391959003819 : True := trivial
theorem tw4971549296188076032 : True := trivial
theorem tw2101469004524951375 : True := trivial
theorem tw10614716105012338702 : True := trivial
theorem tw14353793391729792155 : True := trivial
theorem tw15166520500009309586 : True := trivial
theorem tw402640490398009360 : True := trivial
theorem tw5343241284826551009 : True := trivial
theorem tw7366208706002141716 : True := trivial
theorem tw16904818350239718627 : True := trivial
theorem tw9748044761591592747 : True := trivial
theorem tw14955159897011116063 : True := trivial
theorem tw12112201142124510154 : True := trivial
theorem tw10525666975642140466 : True := trivial
theorem tw8228950375871286339 : True := trivial
theorem tw17903497710992402801 : True := trivial
theorem tw12647368939536790636 : True := trivial
theorem tw9345676750909349944 : True := trivial
theorem tw16920754564084929960 : True := trivial
theorem tw13919464512627920130 : True := trivial
theorem tw3919010098100093602 : True := trivial
theorem tw7355570028127101125 : True := trivial
theorem tw4478964076566166474 : True := trivial
theorem tw2216850387143573719 : True := trivial
theorem tw17975533764899295144 : True := trivial
theorem tw758273949599710562 : True := trivial
theorem tw1013155817946168525 : True := trivial
theorem tw2603259988358896889 : True := trivial
theorem tw9657781627882305391 : True := trivial
theorem tw11213053971927718326 : True := trivial
theorem tw7120233287515763914 : True := trivial
theorem tw10743916045514856203 : True := trivial
theorem tw17711083657039698284 : True := trivial
theorem tw11389486352061984695 : True := trivial
theorem tw1359830224848277088 : True := trivial
theorem tw12631932088317031055 : True := trivial
theorem tw17901334829092211166 : True := trivial
theorem tw16299908979028503884 : True := trivial
theorem tw17606422857730326317 : True := trivial
theorem tw6838551448383532254 : True := trivial
theorem tw11754176132448286083 : True := trivial
theorem tw11402939732021071671 : True := trivial
theorem tw3109861748172591687 : True := trivial
theorem tw11513968764499736323 : True := trivial
theorem tw5174551420813472067 : True := trivial
theorem tw14457593812595234344 : True := trivial
theorem tw17258206423299326598 : True := trivial
theorem tw4065347644161347641 : True := trivial
theorem tw16211521421427940678 : True := trivial
theorem tw5363564295841288755 : True := trivial
theorem tw395138700845864316 : True := trivial
theorem tw5608270528595127837 : True := trivial
theorem tw4856431653887292112 : True := trivial
theorem tw2608437505485318709 : True := trivial
theorem tw13609717118414637909 : True := trivial
theorem tw8025032847418708242 : True := trivial
theorem tw8671608845466749128 : True := trivial
theorem tw1836080755315867724 : True := trivial
theorem tw4993660671451451078 : True := trivial
theorem tw3008623586974134963 : True := trivial
theorem tw13372043803930879067 : True := trivial
theorem tw16772102934027710169 : True := trivial
theorem tw9557236495431379559 : True := trivial
theorem tw8727321023445011275 : True := trivial
theorem tw13181700845877081190 : True := trivial
theorem tw13866372431405929976 : True := trivial
theorem tw15416985209724490359 : True := trivial
theorem tw18166333605607142505 : True := trivial
theorem tw307737655149646647 : True := trivial
theorem tw8047900516022102942 : True := trivial
theorem tw12092154237167983948 : True := trivial
theorem tw18293851220164018083 : True := trivial
theorem tw6830512106363814048 : True := trivial
theorem tw10583446816852156582 : True := trivial
theorem tw9783614193127449063 : True := trivial
theorem tw3915529967508079626 : True := trivial
theorem tw18245042118932799458 : True := trivial
theorem tw1865391376527767206 : True := trivial
theorem tw5732804406350252772 : True := trivial
theorem tw1241404454085649124 : True := trivial
theorem tw2327210489368252092 : True := trivial
theorem tw16970440968685349367 : True := trivial
theorem tw9430268157657104642 : True := trivial
theorem tw8545014587354053640 : True := trivial
theorem tw9427301549700849589 : True := trivial
theorem tw3828038474966422129 : True := trivial
theorem tw14478148883734587675 : True := trivial
theorem tw8977307856219701671 : True := trivial
theorem tw6264232113106981867 : True := trivial
theorem tw14400467628812073631 : True := trivial
theorem tw8990313861142287110 : True := trivial
theorem tw17948085552500728524 : True := trivial
theorem tw7519716089354478335 : True := trivial
theorem tw14960593345356199642 : True := trivial
theorem tw17599816209265215132 : True := trivial
theorem tw7068711184596962023 : True := trivial
theorem tw4315991029959535628 : True := trivial
theorem tw6598312636042714100 : True := trivial
theorem tw7082855905992002993 : True := trivial
theorem tw4377701919642642989 : True := trivial
theorem tw10752148897807903841 : True := trivial
theorem tw15673258824015622330 : True := trivial
theorem tw17047115858639842297 : True := trivial
theorem tw12113243949977362033 : True := trivial
theorem tw1847840615245081061 : True := trivial
theorem tw8428860471423672150 : True := trivial
theorem tw12629568148972539762 : True := trivial
theorem tw15344866539931968096 : True := trivial
theorem tw5366084841770067474 : True := trivial
theorem tw15508949281206285077 : True := trivial
theorem tw7510230149288206974 : True := trivial
theorem tw212345690472687942 : True := trivial
theorem tw1589133516308662214 : True := trivial
theorem tw11251137523995926341 : True := trivial
theorem tw16473244170626142550 : True := trivial
theorem tw17387473266821786944 : True := trivial
theorem tw8789358453043137523 : True := trivial
theorem tw6990203504111849199 : True := trivial
theorem tw5282504435634884242 : True := trivial
theorem tw3480954088277226078 : True := trivial
theorem tw15043168886218598503 : True := trivial
theorem tw17330945745186091897 : True := trivial
theorem tw6931407450589930559 : True := trivial
theorem tw12050417470231563642 : True := trivial
theorem tw13217225542625558698 : True := trivial
theorem tw7494724483528729301 : True := trivial
theorem tw18241275227582772068 : True := trivial
theorem tw16649331688326792143 : True := trivial
theorem tw7763873220885509757 : True := trivial
theorem tw3442329435671937591 : True := trivial
theorem tw13277076834127875243 : True := trivial
theorem tw16171809288044610508 : True := trivial
theorem tw5562173858411828344 : True := trivial
theorem tw2252305205657439004 : True := trivial
theorem tw4870687313549177768 : True := trivial
theorem tw1409312971732116557 : True := trivial
theorem tw13431754692932380062 : True := trivial
theorem tw15367242080415987702 : True := trivial
theorem tw8356816923877370021 : True := trivial
theorem tw17739348878880393726 : True := trivial
theorem tw14620637471214046174 : True := trivial
theorem tw14896477498954680388 : True := trivial
theorem tw5635641802508607975 : True := trivial
theorem tw1882180444382439491 : True := trivial
theorem tw15683763237869141255 : True := trivial
theorem tw17420951861521290806 : True := trivial
theorem tw11631869004601391166 : True := trivial
theorem tw10678649693572172417 : True := trivial
theorem tw10024716035694756283 : True := trivial
theorem tw6998783941825042932 : True := trivial
theorem tw16154546982801380032 : True := trivial
theorem tw13783031573616600631 : True := trivial
theorem tw18185175575083235020 : True := trivial
theorem tw16011055738799735888 : True := trivial
theorem tw10030107230732127627 : True := trivial
theorem tw3429492842335990350 : True := trivial
theorem tw9719896912496429819 : True := trivial
theorem tw432457690288141553 : True := trivial
theorem tw16640546478005224243 : True := trivial
theorem tw7085514621470718492 : True := trivial
theorem tw14553816603554493358 : True := trivial
theorem tw1452849714261714991 : True := trivial
theorem tw7610815399733428385 : True := trivial
theorem tw3953601041324332601 : True := trivial
theorem tw8879563391730754479 : True := trivial
theorem tw12173100003817136821 : True := trivial
theorem tw8770205317985620760 : True := trivial
theorem tw2329189449893159454 : True := trivial
theorem tw16794629799341752650 : True := trivial
theorem tw15422856539912107476 : True := trivial
theorem tw17588044629489971554 : True := trivial
theorem tw11151547217846952531 : True := trivial
theorem tw5054737718236178183 : True := trivial
theorem tw17986969038992634876 : True := trivial
theorem tw8068729725432388964 : True := trivial
theorem tw3309697970292668127 : True := trivial
theorem tw9763420282994701918 : True := trivial
theorem tw13321331477185743149 : True := trivial
theorem tw6438293893037913957 : True := trivial
theorem tw15083628210047938546 : True := trivial
theorem tw6868836192036940282 : True := trivial
theorem tw15643275761693703936 : True := trivial
theorem tw15910714762333108613 : True := trivial
theorem tw5629675986466331604 : True := trivial
theorem tw1848646778235469078 : True := trivial
theorem tw2845679848157327705 : True := trivial
theorem tw16157073509204512506 : True := trivial
theorem tw7270182246851987180 : True := trivial
theorem tw15220180469806662145 : True := trivial
theorem tw8004679753235328684 : True := trivial
theorem tw5716766192118558609 : True := trivial
theorem tw14980023328507725902 : True := trivial
theorem tw7721951785955056133 : True := trivial
theorem tw226724450230711188 : True := trivial
theorem tw7512474625130614241 : True := trivial
theorem tw3085183777334472315 : True := trivial
theorem tw5480042469492414594 : True := trivial
theorem tw16713699803418581334 : True := trivial
theorem tw519851828213033955 : True := trivial
theorem tw5292301768408028288 : True := trivial
theorem tw16029623286316568529 : True := trivial
theorem tw17001982702790524580 : True := trivial
theorem tw5245234834050458271 : True := trivial
theorem tw10012880186880212623 : True := trivial
theorem tw162610821266807592 : True := trivial
theorem tw9702936160620672325 : True := trivial
theorem tw9244321171653502345 : True := trivial
theorem tw17562767543260142214 : True := trivial
theorem tw8684328023851190084 : True := trivial
theorem tw2315301623876862497 : True := trivial
theorem tw13893168526513508166 : True := trivial
theorem tw13285133528070534704 : True := trivial
theorem tw15279998641719260112 : True := trivial
theorem tw8716120427605611371 : True := trivial
theorem tw8609351116199087170 : True := trivial
theorem tw6759412095888398321 : True := trivial
theorem tw6882427118574961969 : True := trivial
theorem tw8516288146210602744 : True := trivial
theorem tw3694398316872202419 : True := trivial
theorem tw7628703163842673926 : True := trivial
theorem tw15948780112781908787 : True := trivial
theorem tw2502866573005156581 : True := trivial
theorem tw17234923516513369237 : True := trivial
theorem tw3530705653197291679 : True := trivial
theorem tw14598272352848978880 : True := trivial
theorem tw1194904439430580092 : True := trivial
theorem tw8381844023166312768 : True := trivial
theorem tw8493152586797012548 : True := trivial
theorem tw13220430256171166289 : True := trivial
theorem tw1610171440888473627 : True := trivial
theorem tw6804821044290156842 : True := trivial
theorem tw7654286748164834634 : True := trivial
theorem tw6423634429210846174 : True := trivial
theorem tw9908193460736022307 : True := trivial
theorem tw8184699220007379433 : True := trivial
theorem tw15946388913382835224 : True := trivial
theorem tw14060154772996877548 : True := trivial
theorem tw9496365245306024149 : True := trivial
theorem tw11011131195910976488 : True := trivial
theorem tw17650839729002327288 : True := trivial
theorem tw17919194246423945575 : True := trivial
theorem tw6906073325868019850 : True := trivial
theorem tw9533747618267967006 : True := trivial
theorem tw697623264460660564 : True := trivial
theorem tw15463257786427224491 : True := trivial
theorem tw7540741092611519060 : True := trivial
theorem tw11713075325732132258 : True := trivial
theorem tw7534799579077118603 : True := trivial
theorem tw6547078798241139092 : True := trivial
theorem tw3704167492566942397 : True := trivial
theorem tw12575139184659369484 : True := trivial
theorem tw17843490464661113860 : True := trivial
theorem tw2304311442786299043 : True := trivial
theorem tw10404513684093684653 : True := trivial
theorem tw10919297434634762262 : True := trivial
theorem tw17377529257436501650 : True := trivial
theorem tw16945582573551092051 : True := trivial
theorem tw16006246977917349235 : True := trivial
theorem tw7880807054014371918 : True := trivial
theorem tw15813434630575017362 : True := trivial
theorem tw13642289790063256904 : True := trivial
theorem tw5009564483982726761 : True := trivial
theorem tw9298403506768410418 : True := trivial
theorem tw5238241317806426387 : True := trivial
theorem tw1781861727890032366 : True := trivial
theorem tw280609765759037681 : True := trivial
theorem tw5148922909946612681 : True := trivial
theorem tw845060206244984605 : True := trivial
theorem tw10860895700388868024 : True := trivial
theorem tw920214292312260371 : True := trivial
theorem tw12127338746724423809 : True := trivial
theorem tw7914949630228597729 : True := trivial
theorem tw11953376511379268794 : True := trivial
theorem tw3229955645248102723 : True := trivial
theorem tw13828106393651249627 : True := trivial
theorem tw11232374478483605306 : True := trivial
theorem tw9170477692918782315 : True := trivial
theorem tw6305734824756694309 : True := trivial
theorem tw13225837485096350037 : True := trivial
theorem tw1997569388931296116 : True := trivial
theorem tw6442067068224118133 : True := trivial
theorem tw14103535550066685397 : True := trivial
theorem tw4272726840584523970 : True := trivial
theorem tw6767318904944593275 : True := trivial
theorem tw10458740792067480800 : True := trivial
theorem tw6555240042291301478 : True := trivial
theorem tw17054507655720011243 : True := trivial
theorem tw8226494294326810461 : True := trivial
theorem tw7028611270464810887 : True := trivial
theorem tw9421340871869096474 : True := trivial
theorem tw13267510147771200024 : True := trivial
theorem tw12271959270614036898 : True := trivial
theorem tw8959176491354863721 : True := trivial
theorem tw5511420028821071320 : True := trivial
theorem tw10258999931320997221 : True := trivial
theorem tw6082411064634330575 : True := trivial
theorem tw11917015161858427179 : True := trivial
theorem tw6411954120941647267 : True := trivial
theorem tw7754304195085646258 : True := trivial
theorem tw15616948245753086127 : True := trivial
theorem tw4115565904173853331 : True := trivial
theorem tw4402725079659364252 : True := trivial
theorem tw6196171512934965099 : True := trivial
theorem tw8343274005884668182 : True := trivial
theorem tw10657642232665330674 : True := trivial
theorem tw4595758421323213155 : True := trivial
theorem tw12715556860635103574 : True := trivial
theorem tw14717894019320604661 : True := trivial
theorem tw974590082735218474 : True := trivial
theorem tw10180746495848690579 : True := trivial
theorem tw10788907462341429916 : True := trivial
theorem tw15770740941851376516 : True := trivial
theorem tw16240987189780228909 : True := trivial
theorem tw15089598144259253128 : True := trivial
theorem tw9571657101598308349 : True := trivial
theorem tw18293269684757346571 : True := trivial
theorem tw991500863812532542 : True := trivial
theorem tw8937217757347908520 : True := trivial
theorem tw9699921096746590425 : True := trivial
theorem tw4521480514310152432 : True := trivial
theorem tw1476953355023367494 : True := trivial
theorem tw6580291421010603419 : True := trivial
theorem tw464777395874653626 : True := trivial
theorem tw6464495981786294532 : True := trivial
theorem tw16114801073306886617 : True := trivial
theorem tw17665311703635508150 : True := trivial
theorem tw221497870779424605 : True := trivial
theorem tw26425463804135960 : True := trivial
theorem tw6002799498382763191 : True := trivial
theorem tw9467675929350293001 : True := trivial
end hd
set_option Elab.async true
theorem hd : PySem.Challenge.rw_og0181_01.Holds := by
  w_on
  o_law
  k_head
  (case hw => w_witness2)
  k_fill
  intro w s₀ s₁ mg mb G Y fa o pm cd doc dV kV ho hd hcd hD hmg hg args vals as hpre hlay hrd hwl hlo
  have KX0 := kIn_of Y
  refine Ground.open G ?_
  intro T B D TE TW
  clear G Y hcd hD
  wrow_args hpre hlay hrd hwl hlo
  have KK : (KX w.params).In s₁.heap := SubF.in KX0 (by repeat (first | exact trivial | refine ⟨by kernel_rfl, ?_⟩))
  have ef := mg_of KX0 T.g (n := Str.ofString "law") (v := .ref 502) (by kernel_rfl)
  have e2 : fa = 502 := by
    have := hmg.symm.trans ef
    cases this; rfl
  subst e2
  rename_i ns hs hlay0 hL1 hr1 hl2 w4 w3 l vs w0 hL ra w1 r0 hI hr hcond hcond2
  obtain ⟨ol, el, cl, nl, dl⟩ := hL
  have G : GF ⟨w, _, _, mg, mb⟩ s₁.heap := ⟨KK, topRead_of T⟩
  have hz : vs.length ≤ 1000 := by
    have := hI.length
    have : ¬ (63 : Int) < ns.length := hcond
    omega
  refine wpAny_mono ((law_ok (A := callerA) G ⟨rfl, by decide, by decide⟩ Le.refl ⟨ol, el, cl, nl, dl⟩ hI hz).all s₁ s₁.toks) (fun v s' hq => ?_) (fun _ _ q => q.elim)
  obtain ⟨h', tk', e, hv, kb⟩ := hq
  subst e hv
  refine GoodW.toG ⟨.inl ⟨_, .bool true, [], rfl, raisesW_false (by wrow_none_raised), .bool true, ?_, unshared_nil⟩, fun b o e => kb b o e (by simp), rfl, hg⟩
  first
    | (with_unfolding_all rfl)
    | (refine' postW_of ?s ?v ?e; (case s => o_shape); (case v => wtm_val); (case e => w_fin))
end Mine
set_option maxRecDepth 100000 in
set_option maxHeartbeats 8000000 in
theorem PySem.Challenge.cw_og0181_01_holds : PySem.Challenge.rw_og0181_01.Holds := by
  exact Mine.hd
