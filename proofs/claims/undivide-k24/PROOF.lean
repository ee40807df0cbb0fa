import PyProof.Rows.All
import Wide.All
import OpenK.AllK
import Wide.FinOn
import HandS.ForMost
import HandS.Words
import PySem.Challenge.RW_undivide_k24_whole_undivided
import KE.KStateDown
import Lean
import HandS.WordsExc
import HandS.Defaults
import HandS.Exc
import HandS.ExcInit
import HandS.Head0
import HandS.Head1
import HandS.Head2
import HandS.HeadEnd
import HandS.HeadHook1
import HandS.HeadHook2
import HandS.HeadHook3
import HandS.HeadHook4
import HandS.Wide
import HandS.Codes
import KE.KDictKeyed
import KE.KDictDisplayH
import KE.KDictWalk
import KE.KDictOf
import HandS.Walk
import KE.KDictPairs
import KE.SortData
import PyProof.TupleOfSeq
import KE.KDictSum
import HandS.Zip
import HandS.TupAny
import HandS.TryOnly
import KE.GoesMore
import HandS.More
import HandS.TupMul
import KE.DatumOrd
import HandS.IsInst
set_option Elab.async false
set_option linter.all false
/-! Fractions as Rat: what fraction, plus, less, times, over come to. Plain Lean. -/
namespace U

theorem divInt_add (a b : Rat) : Rat.divInt (a.num * b.den + b.num * a.den) (a.den * b.den) = a + b := by
  have e := Rat.divInt_add_divInt a.num b.num (d₁ := (a.den : Int)) (d₂ := (b.den : Int)) (by have := a.den_nz; omega) (by have := b.den_nz; omega)
  rw [Rat.num_divInt_den, Rat.num_divInt_den] at e
  exact e.symm
theorem divInt_sub (a b : Rat) : Rat.divInt (a.num * b.den - b.num * a.den) (a.den * b.den) = a - b := by
  have e := Rat.divInt_sub_divInt a.num b.num (d₁ := (a.den : Int)) (d₂ := (b.den : Int)) (by have := a.den_nz; omega) (by have := b.den_nz; omega)
  rw [Rat.num_divInt_den, Rat.num_divInt_den] at e
  exact e.symm
theorem divInt_mul (a b : Rat) : Rat.divInt (a.num * b.num) (a.den * b.den) = a * b := by
  have e := Rat.divInt_mul_divInt a.num b.num (d₁ := (a.den : Int)) (d₂ := (b.den : Int))
  rw [Rat.num_divInt_den, Rat.num_divInt_den] at e
  exact e.symm
theorem divInt_div (a b : Rat) : Rat.divInt (a.num * b.den) (a.den * b.num) = a / b := by
  have e := Rat.divInt_mul_divInt a.num (b.den : Int) (d₁ := (a.den : Int)) (d₂ := b.num)
  rw [← e, Rat.num_divInt_den, Rat.div_def]
  congr 1
  rw [← Rat.inv_divInt, Rat.num_divInt_den]
theorem divInt_self (a : Rat) : Rat.divInt a.num a.den = a := Rat.num_divInt_den a

/-- the divisor that fraction takes -/
def partI (n d : Int) : Int := if d < 0 then 0 - (Int.gcd n d : Int) else (Int.gcd n d : Int)
theorem gcd_pos {n d : Int} (h : d ≠ 0) : 0 < Int.gcd n d := Int.gcd_pos_of_ne_zero_right n h
theorem partI_ne {n d : Int} (h : d ≠ 0) : partI n d ≠ 0 := by
  have := gcd_pos (n := n) h
  unfold partI
  split <;> omega
theorem partI_abs (n d : Int) : (partI n d).natAbs = Int.gcd n d := by
  unfold partI
  split <;> omega
theorem partI_le {n d : Int} (h : d ≠ 0) : (partI n d).natAbs ≤ d.natAbs := by
  rw [partI_abs]
  exact Nat.le_of_dvd (by omega) (by
    have := Int.gcd_dvd_right (a := n) (b := d)
    have q := Int.natAbs_dvd_natAbs.mpr this
    rwa [Int.natAbs_natCast] at q)
theorem fdiv_neg_of_dvd {a b : Int} (hb : b ≠ 0) (h : b ∣ a) : a.fdiv (-b) = -(a / b) := by
  obtain ⟨c, rfl⟩ := h
  rw [show b * c = (-b) * (-c) by simp [Int.neg_mul_neg], Int.mul_fdiv_cancel_left _ (by omega), show (-b) * (-c) = b * c by simp [Int.neg_mul_neg], Int.mul_ediv_cancel_left _ hb]
theorem fdiv_of_dvd {a b : Int} (hb : b ≠ 0) (h : b ∣ a) : a.fdiv b = a / b := by
  obtain ⟨c, rfl⟩ := h
  rw [Int.mul_fdiv_cancel_left _ hb, Int.mul_ediv_cancel_left _ hb]
theorem num_part {n d : Int} (h : d ≠ 0) : n.fdiv (partI n d) = (Rat.divInt n d).num := by
  have g0 : (Int.gcd n d : Int) ≠ 0 := by have := gcd_pos (n := n) h; omega
  have dv : (Int.gcd n d : Int) ∣ n := Int.gcd_dvd_left ..
  rw [Rat.num_divInt, Int.gcd_comm d n]
  unfold partI
  split
  · rename_i hd
    rw [show (0 : Int) - (Int.gcd n d : Int) = -(Int.gcd n d : Int) by omega, fdiv_neg_of_dvd g0 dv, Int.sign_eq_neg_one_of_neg hd, Int.neg_one_mul, Int.neg_ediv_of_dvd dv]
  · rename_i hd
    rw [fdiv_of_dvd g0 dv, Int.sign_eq_one_of_pos (by omega), Int.one_mul]
theorem den_part {n d : Int} (h : d ≠ 0) : d.fdiv (partI n d) = ((Rat.divInt n d).den : Int) := by
  have g0 : (Int.gcd n d : Int) ≠ 0 := by have := gcd_pos (n := n) h; omega
  have dv : (Int.gcd n d : Int) ∣ d := Int.gcd_dvd_right ..
  rw [Rat.den_divInt, if_neg h, Int.gcd_comm d n]
  unfold partI
  split
  · rename_i hd
    rw [show (0 : Int) - (Int.gcd n d : Int) = -(Int.gcd n d : Int) by omega, fdiv_neg_of_dvd g0 dv, ← Int.neg_ediv_of_dvd dv]
    have e : -d = ((d.natAbs : Nat) : Int) := by omega
    rw [e, Int.natCast_ediv]
  · rename_i hd
    rw [fdiv_of_dvd g0 dv]
    have e : d = ((d.natAbs : Nat) : Int) := by omega
    conv => lhs; lhs; rw [e]
    rw [Int.natCast_ediv]
/-- one turn of the common divisor's loop -/
theorem gcd_turn {a b : Int} (ha : 0 ≤ a) (hb : 0 ≤ b) : Int.gcd b (a % b) = Int.gcd a b := by
  obtain ⟨m, rfl⟩ := Int.eq_ofNat_of_zero_le ha
  obtain ⟨n, rfl⟩ := Int.eq_ofNat_of_zero_le hb
  rw [← Int.natCast_emod]
  show Nat.gcd n (m % n) = Nat.gcd m n
  rw [Nat.gcd_comm n, ← Nat.gcd_rec, Nat.gcd_comm]
theorem gcd_end {a : Int} (h : 0 ≤ a) : (Int.gcd a 0 : Int) = a := by
  rw [Int.gcd_zero_right]
  omega
theorem gcd_abs (a b : Int) : Int.gcd (if a < 0 then -a else a) (if b < 0 then -b else b) = Int.gcd a b := by
  split <;> split <;> simp [Int.gcd_neg, Int.neg_gcd]
end U
set_option Elab.async false
set_option linter.all false
set_option maxRecDepth 100000
/-! The text by places. Printed by gen_top.py. -/
namespace U
open PySem L2
def top (i : Nat) : Stmt := PySem.Challenge.pw_undivide_k24_whole_undivided.main.body.getD i (.Pass ⟨0, 0, 0, 0⟩)
abbrev s_NoOver_init : Stmt := inClass (top 2) 0
abbrev s_common : Stmt := top 6
abbrev s_fraction : Stmt := top 7
abbrev s_plus : Stmt := top 8
abbrev s_less : Stmt := top 9
abbrev s_times : Stmt := top 10
abbrev s_over : Stmt := top 11
abbrev s_letter_mark : Stmt := top 14
abbrev s_number_form : Stmt := top 15
abbrev s_mark_form : Stmt := top 16
abbrev s_added : Stmt := top 17
abbrev s_scaled : Stmt := top 18
abbrev s_taken_off : Stmt := top 19
abbrev s_multiplied : Stmt := top 20
abbrev s_Maker_init : Stmt := inClass (top 21) 0
abbrev s_Maker_put : Stmt := inClass (top 21) 1
abbrev s_Maker_once : Stmt := inClass (top 21) 2
abbrev s_Maker_row_of_mark : Stmt := inClass (top 21) 3
abbrev s_Maker_row_of_product : Stmt := inClass (top 21) 4
abbrev s_Maker_last_of : Stmt := inClass (top 21) 5
abbrev s_Maker_mark_row : Stmt := inClass (top 21) 6
abbrev s_row_value : Stmt := top 23
abbrev s_run : Stmt := top 24
abbrev s_Rules_init : Stmt := inClass (top 26) 0
abbrev s_Rules_reading : Stmt := inClass (top 26) 1
abbrev s_Rules_put_together : Stmt := inClass (top 26) 2
abbrev s_Rules_rule : Stmt := inClass (top 26) 3
abbrev s_Rules_last_form : Stmt := inClass (top 26) 4
abbrev s_Rules_can_be_told : Stmt := inClass (top 26) 5
abbrev s_needed_rows : Stmt := top 28
abbrev s_undivided : Stmt := top 29
abbrev s_poly : Stmt := top 31
abbrev s_turned : Stmt := top 32
abbrev s_poly_plus : Stmt := top 33
abbrev s_poly_less : Stmt := top 34
abbrev s_powers_added : Stmt := top 35
abbrev s_poly_times : Stmt := top 36
abbrev s_plain_poly : Stmt := top 38
abbrev s_row_quotient : Stmt := top 39
abbrev s_quotients : Stmt := top 40
abbrev s_points_up_to : Stmt := top 41
abbrev s_runs_at : Stmt := top 42
abbrev s_good_point : Stmt := top 43
abbrev s_l_box : Stmt := top 45
abbrev s_l_take : Stmt := top 46
abbrev s_l_names : Stmt := top 47
abbrev s_l_fraction : Stmt := top 48
abbrev s_l_plus : Stmt := top 49
abbrev s_l_times : Stmt := top 50
abbrev s_l_number : Stmt := top 51
abbrev s_l_small : Stmt := top 52
abbrev s_l_point : Stmt := top 53
abbrev s_l_weight : Stmt := top 54
abbrev s_l_drawn_row : Stmt := top 55
abbrev s_l_deed : Stmt := top 56
abbrev s_l_run : Stmt := top 57
abbrev s_l_good : Stmt := top 58
abbrev s_l_number_is : Stmt := top 59
abbrev s_l_fraction_is : Stmt := top 60
abbrev s_l_whole_row_is : Stmt := top 61
abbrev s_l_whole_is : Stmt := top 62
abbrev s_l_old : Stmt := top 63
abbrev s_l_pointed : Stmt := top 64
abbrev s_l_paper_is : Stmt := top 65
abbrev s_law : Stmt := top 66
end U
set_option Elab.async false
set_option linter.all false
set_option maxRecDepth 100000
set_option maxHeartbeats 0
/-! The head: facts by names, one kernel run. Printed by gen_head.py. -/
namespace U
open PySem PySem.Spec PyProof.Rows L2

def d_NoOver_init : He.DefD := ⟨("NoOver", some "__init__"), "__init__", "NoOver.__init__", defArgs s_NoOver_init, defBody s_NoOver_init, defScope s_NoOver_init, [], []⟩
def d_common : He.DefD := ⟨("common", none), "common", "common", defArgs s_common, defBody s_common, defScope s_common, [], []⟩
def d_fraction : He.DefD := ⟨("fraction", none), "fraction", "fraction", defArgs s_fraction, defBody s_fraction, defScope s_fraction, [], []⟩
def d_plus : He.DefD := ⟨("plus", none), "plus", "plus", defArgs s_plus, defBody s_plus, defScope s_plus, [], []⟩
def d_less : He.DefD := ⟨("less", none), "less", "less", defArgs s_less, defBody s_less, defScope s_less, [], []⟩
def d_times : He.DefD := ⟨("times", none), "times", "times", defArgs s_times, defBody s_times, defScope s_times, [], []⟩
def d_over : He.DefD := ⟨("over", none), "over", "over", defArgs s_over, defBody s_over, defScope s_over, [], []⟩
def d_letter_mark : He.DefD := ⟨("letter_mark", none), "letter_mark", "letter_mark", defArgs s_letter_mark, defBody s_letter_mark, defScope s_letter_mark, [], []⟩
def d_number_form : He.DefD := ⟨("number_form", none), "number_form", "number_form", defArgs s_number_form, defBody s_number_form, defScope s_number_form, [], []⟩
def d_mark_form : He.DefD := ⟨("mark_form", none), "mark_form", "mark_form", defArgs s_mark_form, defBody s_mark_form, defScope s_mark_form, [], []⟩
def d_added : He.DefD := ⟨("added", none), "added", "added", defArgs s_added, defBody s_added, defScope s_added, [], []⟩
def d_scaled : He.DefD := ⟨("scaled", none), "scaled", "scaled", defArgs s_scaled, defBody s_scaled, defScope s_scaled, [], []⟩
def d_taken_off : He.DefD := ⟨("taken_off", none), "taken_off", "taken_off", defArgs s_taken_off, defBody s_taken_off, defScope s_taken_off, [], []⟩
def d_multiplied : He.DefD := ⟨("multiplied", none), "multiplied", "multiplied", defArgs s_multiplied, defBody s_multiplied, defScope s_multiplied, [], []⟩
def d_Maker_init : He.DefD := ⟨("Maker", some "__init__"), "__init__", "Maker.__init__", defArgs s_Maker_init, defBody s_Maker_init, defScope s_Maker_init, [], []⟩
def d_Maker_put : He.DefD := ⟨("Maker", some "put"), "put", "Maker.put", defArgs s_Maker_put, defBody s_Maker_put, defScope s_Maker_put, [.non], []⟩
def d_Maker_once : He.DefD := ⟨("Maker", some "once"), "once", "Maker.once", defArgs s_Maker_once, defBody s_Maker_once, defScope s_Maker_once, [], []⟩
def d_Maker_row_of_mark : He.DefD := ⟨("Maker", some "row_of_mark"), "row_of_mark", "Maker.row_of_mark", defArgs s_Maker_row_of_mark, defBody s_Maker_row_of_mark, defScope s_Maker_row_of_mark, [], []⟩
def d_Maker_row_of_product : He.DefD := ⟨("Maker", some "row_of_product"), "row_of_product", "Maker.row_of_product", defArgs s_Maker_row_of_product, defBody s_Maker_row_of_product, defScope s_Maker_row_of_product, [], []⟩
def d_Maker_last_of : He.DefD := ⟨("Maker", some "last_of"), "last_of", "Maker.last_of", defArgs s_Maker_last_of, defBody s_Maker_last_of, defScope s_Maker_last_of, [.non], []⟩
def d_Maker_mark_row : He.DefD := ⟨("Maker", some "mark_row"), "mark_row", "Maker.mark_row", defArgs s_Maker_mark_row, defBody s_Maker_mark_row, defScope s_Maker_mark_row, [], []⟩
def d_row_value : He.DefD := ⟨("row_value", none), "row_value", "row_value", defArgs s_row_value, defBody s_row_value, defScope s_row_value, [], []⟩
def d_run : He.DefD := ⟨("run", none), "run", "run", defArgs s_run, defBody s_run, defScope s_run, [], []⟩
def d_Rules_init : He.DefD := ⟨("Rules", some "__init__"), "__init__", "Rules.__init__", defArgs s_Rules_init, defBody s_Rules_init, defScope s_Rules_init, [], []⟩
def d_Rules_reading : He.DefD := ⟨("Rules", some "reading"), "reading", "Rules.reading", defArgs s_Rules_reading, defBody s_Rules_reading, defScope s_Rules_reading, [], []⟩
def d_Rules_put_together : He.DefD := ⟨("Rules", some "put_together"), "put_together", "Rules.put_together", defArgs s_Rules_put_together, defBody s_Rules_put_together, defScope s_Rules_put_together, [], []⟩
def d_Rules_rule : He.DefD := ⟨("Rules", some "rule"), "rule", "Rules.rule", defArgs s_Rules_rule, defBody s_Rules_rule, defScope s_Rules_rule, [], []⟩
def d_Rules_last_form : He.DefD := ⟨("Rules", some "last_form"), "last_form", "Rules.last_form", defArgs s_Rules_last_form, defBody s_Rules_last_form, defScope s_Rules_last_form, [], []⟩
def d_Rules_can_be_told : He.DefD := ⟨("Rules", some "can_be_told"), "can_be_told", "Rules.can_be_told", defArgs s_Rules_can_be_told, defBody s_Rules_can_be_told, defScope s_Rules_can_be_told, [], []⟩
def d_needed_rows : He.DefD := ⟨("needed_rows", none), "needed_rows", "needed_rows", defArgs s_needed_rows, defBody s_needed_rows, defScope s_needed_rows, [], []⟩
def d_undivided : He.DefD := ⟨("undivided", none), "undivided", "undivided", defArgs s_undivided, defBody s_undivided, defScope s_undivided, [], []⟩
def d_poly : He.DefD := ⟨("poly", none), "poly", "poly", defArgs s_poly, defBody s_poly, defScope s_poly, [], []⟩
def d_turned : He.DefD := ⟨("turned", none), "turned", "turned", defArgs s_turned, defBody s_turned, defScope s_turned, [], []⟩
def d_poly_plus : He.DefD := ⟨("poly_plus", none), "poly_plus", "poly_plus", defArgs s_poly_plus, defBody s_poly_plus, defScope s_poly_plus, [], []⟩
def d_poly_less : He.DefD := ⟨("poly_less", none), "poly_less", "poly_less", defArgs s_poly_less, defBody s_poly_less, defScope s_poly_less, [], []⟩
def d_powers_added : He.DefD := ⟨("powers_added", none), "powers_added", "powers_added", defArgs s_powers_added, defBody s_powers_added, defScope s_powers_added, [], []⟩
def d_poly_times : He.DefD := ⟨("poly_times", none), "poly_times", "poly_times", defArgs s_poly_times, defBody s_poly_times, defScope s_poly_times, [], []⟩
def d_plain_poly : He.DefD := ⟨("plain_poly", none), "plain_poly", "plain_poly", defArgs s_plain_poly, defBody s_plain_poly, defScope s_plain_poly, [], []⟩
def d_row_quotient : He.DefD := ⟨("row_quotient", none), "row_quotient", "row_quotient", defArgs s_row_quotient, defBody s_row_quotient, defScope s_row_quotient, [], []⟩
def d_quotients : He.DefD := ⟨("quotients", none), "quotients", "quotients", defArgs s_quotients, defBody s_quotients, defScope s_quotients, [], []⟩
def d_points_up_to : He.DefD := ⟨("points_up_to", none), "points_up_to", "points_up_to", defArgs s_points_up_to, defBody s_points_up_to, defScope s_points_up_to, [], []⟩
def d_runs_at : He.DefD := ⟨("runs_at", none), "runs_at", "runs_at", defArgs s_runs_at, defBody s_runs_at, defScope s_runs_at, [], []⟩
def d_good_point : He.DefD := ⟨("good_point", none), "good_point", "good_point", defArgs s_good_point, defBody s_good_point, defScope s_good_point, [], []⟩
def d_l_box : He.DefD := ⟨("_law_box", none), "_law_box", "_law_box", defArgs s_l_box, defBody s_l_box, defScope s_l_box, [], []⟩
def d_l_take : He.DefD := ⟨("_law_take", none), "_law_take", "_law_take", defArgs s_l_take, defBody s_l_take, defScope s_l_take, [], []⟩
def d_l_names : He.DefD := ⟨("_law_names", none), "_law_names", "_law_names", defArgs s_l_names, defBody s_l_names, defScope s_l_names, [], []⟩
def d_l_fraction : He.DefD := ⟨("_law_fraction", none), "_law_fraction", "_law_fraction", defArgs s_l_fraction, defBody s_l_fraction, defScope s_l_fraction, [], []⟩
def d_l_plus : He.DefD := ⟨("_law_plus", none), "_law_plus", "_law_plus", defArgs s_l_plus, defBody s_l_plus, defScope s_l_plus, [], []⟩
def d_l_times : He.DefD := ⟨("_law_times", none), "_law_times", "_law_times", defArgs s_l_times, defBody s_l_times, defScope s_l_times, [], []⟩
def d_l_number : He.DefD := ⟨("_law_number", none), "_law_number", "_law_number", defArgs s_l_number, defBody s_l_number, defScope s_l_number, [], []⟩
def d_l_small : He.DefD := ⟨("_law_small", none), "_law_small", "_law_small", defArgs s_l_small, defBody s_l_small, defScope s_l_small, [], []⟩
def d_l_point : He.DefD := ⟨("_law_point", none), "_law_point", "_law_point", defArgs s_l_point, defBody s_l_point, defScope s_l_point, [], []⟩
def d_l_weight : He.DefD := ⟨("_law_weight", none), "_law_weight", "_law_weight", defArgs s_l_weight, defBody s_l_weight, defScope s_l_weight, [], []⟩
def d_l_drawn_row : He.DefD := ⟨("_law_drawn_row", none), "_law_drawn_row", "_law_drawn_row", defArgs s_l_drawn_row, defBody s_l_drawn_row, defScope s_l_drawn_row, [], []⟩
def d_l_deed : He.DefD := ⟨("_law_deed", none), "_law_deed", "_law_deed", defArgs s_l_deed, defBody s_l_deed, defScope s_l_deed, [], []⟩
def d_l_run : He.DefD := ⟨("_law_run", none), "_law_run", "_law_run", defArgs s_l_run, defBody s_l_run, defScope s_l_run, [], []⟩
def d_l_good : He.DefD := ⟨("_law_good", none), "_law_good", "_law_good", defArgs s_l_good, defBody s_l_good, defScope s_l_good, [], []⟩
def d_l_number_is : He.DefD := ⟨("_law_number_is", none), "_law_number_is", "_law_number_is", defArgs s_l_number_is, defBody s_l_number_is, defScope s_l_number_is, [], []⟩
def d_l_fraction_is : He.DefD := ⟨("_law_fraction_is", none), "_law_fraction_is", "_law_fraction_is", defArgs s_l_fraction_is, defBody s_l_fraction_is, defScope s_l_fraction_is, [], []⟩
def d_l_whole_row_is : He.DefD := ⟨("_law_whole_row_is", none), "_law_whole_row_is", "_law_whole_row_is", defArgs s_l_whole_row_is, defBody s_l_whole_row_is, defScope s_l_whole_row_is, [], []⟩
def d_l_whole_is : He.DefD := ⟨("_law_whole_is", none), "_law_whole_is", "_law_whole_is", defArgs s_l_whole_is, defBody s_l_whole_is, defScope s_l_whole_is, [], []⟩
def d_l_old : He.DefD := ⟨("_law_old", none), "_law_old", "_law_old", defArgs s_l_old, defBody s_l_old, defScope s_l_old, [], []⟩
def d_l_pointed : He.DefD := ⟨("_law_pointed", none), "_law_pointed", "_law_pointed", defArgs s_l_pointed, defBody s_l_pointed, defScope s_l_pointed, [], []⟩
def d_l_paper_is : He.DefD := ⟨("_law_paper_is", none), "_law_paper_is", "_law_paper_is", defArgs s_l_paper_is, defBody s_l_paper_is, defScope s_l_paper_is, [], []⟩
def d_law : He.DefD := ⟨("law", none), "law", "law", defArgs s_law, defBody s_law, defScope s_law, [], []⟩
def fn : List He.DefD := ([d_NoOver_init, d_common, d_fraction, d_plus, d_less, d_times, d_over, d_letter_mark, d_number_form, d_mark_form, d_added, d_scaled, d_taken_off, d_multiplied, d_Maker_init, d_Maker_put, d_Maker_once, d_Maker_row_of_mark, d_Maker_row_of_product, d_Maker_last_of, d_Maker_mark_row, d_row_value, d_run, d_Rules_init, d_Rules_reading, d_Rules_put_together, d_Rules_rule, d_Rules_last_form, d_Rules_can_be_told, d_needed_rows] : List He.DefD) ++ ([d_undivided, d_poly, d_turned, d_poly_plus, d_poly_less, d_powers_added, d_poly_times, d_plain_poly, d_row_quotient, d_quotients, d_points_up_to, d_runs_at, d_good_point, d_l_box, d_l_take, d_l_names, d_l_fraction, d_l_plus, d_l_times, d_l_number, d_l_small, d_l_point, d_l_weight, d_l_drawn_row, d_l_deed, d_l_run, d_l_good, d_l_number_is, d_l_fraction_is, d_l_whole_row_is] : List He.DefD) ++ ([d_l_whole_is, d_l_old, d_l_pointed, d_l_paper_is, d_law] : List He.DefD)
def fa : List He.Fa := ([.glo "common", .glo "fraction", .glo "plus", .glo "less", .glo "times", .glo "over", .glo "letter_mark", .glo "number_form", .glo "mark_form", .glo "added", .glo "scaled", .glo "taken_off", .glo "multiplied", .meth "Maker" "put", .meth "Maker" "once", .meth "Maker" "row_of_mark", .meth "Maker" "row_of_product", .meth "Maker" "last_of", .meth "Maker" "mark_row", .glo "row_value", .glo "run", .meth "Rules" "reading", .meth "Rules" "put_together", .meth "Rules" "rule", .meth "Rules" "last_form", .meth "Rules" "can_be_told", .glo "needed_rows", .glo "undivided", .glo "poly", .glo "turned"] : List He.Fa) ++ ([.glo "poly_plus", .glo "poly_less", .glo "powers_added", .glo "poly_times", .glo "plain_poly", .glo "row_quotient", .glo "quotients", .glo "points_up_to", .glo "runs_at", .glo "good_point", .glo "_law_box", .glo "_law_take", .glo "_law_names", .glo "_law_fraction", .glo "_law_plus", .glo "_law_times", .glo "_law_number", .glo "_law_small", .glo "_law_point", .glo "_law_weight", .glo "_law_drawn_row", .glo "_law_deed", .glo "_law_run", .glo "_law_good", .glo "_law_number_is", .glo "_law_fraction_is", .glo "_law_whole_row_is", .glo "_law_whole_is", .glo "_law_old", .glo "_law_pointed"] : List He.Fa) ++ ([.glo "_law_paper_is", .glo "law", .glo "Maker", .cls "Maker", .mkr "Maker", .glo "Rules", .cls "Rules", .mkr "Rules", .glo "NoOver", .glo "UndivideError", .glo "NOUGHT", .glo "ONE_fractions", .glo "ONE_forms", .noat "Maker" "rows", .noat "Maker" "paper", .noat "Maker" "known", .noat "Rules" "rows", .noat "Rules" "point", .noat "Rules" "most", .noat "Rules" "came", .noat "Rules" "rules", .free "abs", .free "len", .free "range", .free "dict", .free "sorted", .free "tuple", .free "list", .free "enumerate", .free "zip"] : List He.Fa) ++ ([.free "max", .free "min", .free "int", .free "isinstance", .free "all", .free "bool", .free "str"] : List He.Fa)
/-- the exception class: what HandS.ExcInit asks, and the tuples of the top -/
def excB (K : PySem.W.Frag) : Bool := match K.lookup (He.ga K "NoOver") with
  | some ⟨.type "type", _, .cls cd, sl⟩ => (match cd.mro, sl.toList with
    | .ref C' :: bm, [_, _, _, _, some (.builtin n), _] => C' == He.ga K "NoOver" && (n == "ValueError.__new__" && (!cd.hasDel && (cd.hasDict && PySem.HandSPX.refsVE bm)))
    | _, _ => false)
  | _ => false
def exB (K : PySem.W.Frag) : Bool := excB K
  && He.tupB K "NOUGHT" [.int 0, .int 1] && He.tupB K "ONE_fractions" [.int 1, .int 1] && He.tupB K "ONE_forms" [.int 1, .int 1]
  && He.eqO (PySem.W.findIn K (.ref (He.ga K "NoOver")) "__setattr__") (some (some (.builtin "object.__setattr__")))
  && decide (PySem.W.subIn K (.ref (He.ga K "NoOver")) (.type "BaseException") = some true)
  && decide (PySem.W.typeIn K (.ref (He.ga K "NoOver")) = some (.type "type"))
  && PySem.W.keepIn K (.ref (He.ga K "NoOver"))
  && He.eqO (PySem.W.findIn K (.ref (He.ga K "NoOver")) "at") (some none)
  && He.eqO (PySem.W.findIn K (.ref (He.ga K "NoOver")) "__init__") (some (some (.ref (He.ma K (He.ga K "NoOver") "__init__"))))
  && decide (PySem.W.typeIn K (.ref (He.ma K (He.ga K "NoOver") "__init__")) = some (.type "function"))
  && decide (PySem.W.exmOne K (.ref (He.ga K "NoOver")) (.ref (He.ga K "NoOver")) = some true)
  && decide (PySem.W.typeIn K (.ref (He.ga K "UndivideError")) = some (.type "type"))
  && PySem.W.keepIn K (.ref (He.ga K "UndivideError"))
  && PySem.W.readsIn K (He.ga K "UndivideError") (.type "type")
  && He.eqO (PySem.W.specialIn K (.ref (He.ga K "UndivideError")) "__getattribute__") (some (some (.builtin "type.__getattribute__")))
  && (match PySem.W.findCls K (.ref (He.ga K "UndivideError")) (.type "type") "__init__" with
    | some (.val (.builtin n)) => n == "ValueError.__init__"
    | _ => false)
abbrev R : PySem.W.OpenRow := PySem.W.OpenLaw.row PySem.Challenge.rw_undivide_k24_whole_undivided
/-- as He.hookX, the statics' record in the part, too -/
def asY (g : Addr → Option Obj) : List Addr := cStatics :: He.asD g 4
def obsY (g : Addr → Option Obj) : He.AlX := (He.obsT fa fn [] (He.frT g (asY g)), exB (He.frT g (asY g)))
theorem saysY_of {w : World} {h : Heap} (e : obsY h.get? = He.valX fn [] w) : He.SaysX fa fn [] [] exB w h (He.frT h.get? (asY h.get?)) := by
  have e1 : He.obsT fa fn [] (He.frT h.get? (asY h.get?)) = He.valT fn [] w := congrArg (fun z : He.AlX => z.1) e
  have e2 : exB (He.frT h.get? (asY h.get?)) = true := congrArg (fun z : He.AlX => z.2) e
  exact ⟨e1, e2, (fun p hp => by cases hp), (fun p hp => by cases hp), (fun p hp => by cases hp)⟩
def hk : PySem.W.Hook where
  α := He.AlX
  obs := fun s => obsY s.heap.get?
  val := fun w => He.valX fn [] w
  says := fun w h => ∃ K : PySem.W.Frag, K.In h ∧ He.SaysX fa fn [] [] exB w h K
  of := fun _ _ e => ⟨_, He.frT_in, saysY_of e⟩
  keeps := fun _ _ _ ⟨K, hK, c⟩ k => ⟨K, PySem.W.Frag.In.keeps hK k, ⟨c.t, c.more, c.hd, c.out, fun p hp => k _ _ (c.empty p hp)⟩⟩
def ob (s : PySem.W.SharedT) : He.AlX := obsY (HandSHeadRun.getT s)
theorem ob_eq (s : PySem.W.SharedT) : ob s = hk.obs s.abs := by
  have e : HandSHeadRun.getT s = s.abs.heap.get? := funext (HandSHeadRun.getT_eq s)
  show obsY (HandSHeadRun.getT s) = obsY s.abs.heap.get?
  rw [e]

def loose : List PySem.Str := (["UndivideError", "NoOver", "NOUGHT", "ONE_fractions", "common", "fraction", "plus", "less", "times", "over", "ONE_forms", "letter_mark", "number_form", "mark_form", "added", "scaled", "taken_off", "multiplied", "Maker", "row_value", "run", "Rules", "needed_rows", "undivided", "poly", "turned", "poly_plus", "poly_less", "powers_added", "poly_times"] : List PySem.Str) ++ (["plain_poly", "row_quotient", "quotients", "points_up_to", "runs_at", "good_point", "_law_box", "_law_take", "_law_names", "_law_fraction", "_law_plus", "_law_times", "_law_number", "_law_small", "_law_point", "_law_weight", "_law_drawn_row", "_law_deed", "_law_run", "_law_good", "_law_number_is", "_law_fraction_is", "_law_whole_row_is", "_law_whole_is", "_law_old", "_law_pointed", "_law_paper_is"] : List PySem.Str)
abbrev qv : PySem.Program := PySem.W.view R.prog [66]
theorem run (w : World) : HandSHeadRun.RunEq R qv hk ob 6000 loose w := by
  intro os
  kernel_rfl
end U
set_option Elab.async false
set_option linter.all false
set_option maxRecDepth 100000
set_option maxHeartbeats 4000000
/-! Data that never changes (ints, texts, None, tuples of such) in the abstract heap; defs by name. -/
namespace U
open PySem PySem.Spec PyProof.Rows L2

/-! ### what stays -/
/-- the tuples stay -/
def Kp (H H' : Hp) : Prop := ∀ (a : Addr) (xs : List V), H a = some (.tup xs) → H' a = some (.tup xs)
theorem Kp.refl (H : Hp) : Kp H H := fun _ _ h => h
theorem Kp.trans {H H1 H2 : Hp} (a : Kp H H1) (b : Kp H1 H2) : Kp H H2 := fun c xs h => b c xs (a c xs h)
theorem Kp.of {H H' : Hp} (s : Same H H') : Kp H H' := fun a _ h => s a _ h
theorem Kp.new {H : Hp} {p : Addr} {o : HO} (h : H p = none) : Kp H (upd H p o) := fun a xs e => by
  rw [upd_ne (ne_of_none e h)]
  exact e
/-- a thing that is no tuple is written -/
theorem Kp.put {H : Hp} {p : Addr} {o u : HO} (h : H p = some u) (hu : ∀ xs, u ≠ .tup xs) : Kp H (upd H p o) := fun a xs e => by
  rw [upd_ne (fun z => by rw [z, h] at e; exact hu _ (Option.some.inj e))]
  exact e
theorem Same.new {H : Hp} {p : Addr} {o : HO} (h : H p = none) : Same H (upd H p o) := fun a u e => by
  rw [upd_ne (ne_of_none e h)]
  exact e
theorem Same.new' {H0 H : Hp} {p : Addr} {o : HO} (s : Same H0 H) (h : H p = none) : Same H0 (upd H p o) := L2.Same.trans s (Same.new h)
/-- all but what S tells stays, and the tuples -/
structure Ch (S : Addr → Prop) (H H' : Hp) : Prop where
  keep : ∀ b o, ¬ S b → H b = some o → H' b = some o
  kp : Kp H H'
theorem Ch.refl (S : Addr → Prop) (H : Hp) : Ch S H H := ⟨fun _ _ _ h => h, Kp.refl H⟩
theorem Ch.of {S : Addr → Prop} {H H' : Hp} (s : Same H H') : Ch S H H' := ⟨fun b o _ h => s b o h, Kp.of s⟩
theorem Ch.trans {S : Addr → Prop} {H H1 H2 : Hp} (a : Ch S H H1) (b : Ch S H1 H2) : Ch S H H2 := ⟨fun c o n h => b.keep c o n (a.keep c o n h), a.kp.trans b.kp⟩
/-- a second change at other places: of S, or new ones -/
theorem Ch.trans' {S T : Addr → Prop} {H H1 H2 : Hp} (a : Ch S H H1) (b : Ch T H1 H2) (h : ∀ c, T c → S c ∨ H c = none) : Ch S H H2 := ⟨fun c o n e => b.keep c o (fun t => by
  rcases h c t with q | q
  · exact n q
  · rw [q] at e; cases e) (a.keep c o n e), a.kp.trans b.kp⟩
theorem Ch.same {S : Addr → Prop} {H H1 H2 : Hp} (a : Ch S H H1) (b : Same H1 H2) : Ch S H H2 := a.trans (.of b)
theorem Ch.mono {S T : Addr → Prop} {H H1 : Hp} (a : Ch S H H1) (h : ∀ c, S c → T c) : Ch T H H1 := ⟨fun c o n e => a.keep c o (fun t => n (h c t)) e, a.kp⟩
theorem Ch.put {S : Addr → Prop} {H : Hp} {p : Addr} {o u : HO} (hS : S p) (h : H p = some u) (hu : ∀ xs, u ≠ .tup xs) : Ch S H (upd H p o) := ⟨fun b q n e => by
  have ne : b ≠ p := fun z => n (by rw [z]; exact hS)
  rw [upd_ne ne]
  exact e, Kp.put h hu⟩
theorem Ch.new {S : Addr → Prop} {H : Hp} {p : Addr} {o : HO} (h : H p = none) : Ch S H (upd H p o) := .of (Same.new h)
/-- what was new and not touched -/
theorem Ch.toSame {S : Addr → Prop} {H H1 : Hp} (a : Ch S H H1) (h : ∀ c, S c → H c = none) : Same H H1 := fun b o e => a.keep b o (fun s => by rw [h b s] at e; cases e) e

/-! ### data -/
/-- a tuple: tracked, or of the written part -/
def Tq (K : PySem.W.Frag) (H : Hp) (a : Addr) (xs : List V) : Prop :=
  H a = some (.tup xs) ∨ ∃ (o : Obj) (its : Array Value) (n : Nat), K.lookup a = some o ∧ o.cls = .type "tuple" ∧ o.data = .seq its n ∧ its.size ≤ sizeLine ∧ Vals xs its.toList
theorem Tq.sq {K : PySem.W.Frag} {H : Hp} {a : Addr} {xs : List V} (h : Tq K H a xs) : SqT K H a xs := h.elim (fun h => .inl (.inl h)) .inr
theorem Tq.up {K : PySem.W.Frag} {H H' : Hp} {a : Addr} {xs : List V} (h : Tq K H a xs) (k : Kp H H') : Tq K H' a xs := h.elim (fun h => .inl (k _ _ h)) .inr
mutual
inductive TD (K : PySem.W.Frag) (H : Hp) : V → PyData → Prop
  | non : TD K H .non .none
  | bl (b : Bool) : TD K H (.bl b) (.bool b)
  | int (i : Int) : TD K H (.int i) (.int i)
  | str (x : Str) : TD K H (.str x) (.str x)
  | tup {a : Addr} {xs : List V} {ds : List PyData} : Tq K H a xs → TDs K H xs ds → TD K H (.ref a) (.tuple ds)
inductive TDs (K : PySem.W.Frag) (H : Hp) : List V → List PyData → Prop
  | nil : TDs K H [] []
  | cons {v : V} {vs : List V} {d : PyData} {ds : List PyData} : TD K H v d → TDs K H vs ds → TDs K H (v :: vs) (d :: ds)
end
section
variable {K : PySem.W.Frag} {H H' : Hp}
mutual
theorem TD.up (k : Kp H H') : ∀ {v : V} {d : PyData}, TD K H v d → TD K H' v d
  | _, _, .non => .non
  | _, _, .bl b => .bl b
  | _, _, .int i => .int i
  | _, _, .str x => .str x
  | _, _, .tup h hs => .tup (h.up k) (TDs.up k hs)
theorem TDs.up (k : Kp H H') : ∀ {vs : List V} {ds : List PyData}, TDs K H vs ds → TDs K H' vs ds
  | _, _, .nil => .nil
  | _, _, .cons h hs => .cons (TD.up k h) (TDs.up k hs)
end
mutual
theorem TD.dp : ∀ {v : V} {d : PyData}, TD K H v d → Dp K H v d
  | _, _, .non => .non
  | _, _, .bl b => .bl b
  | _, _, .int i => .int i
  | _, _, .str x => .str x
  | _, _, .tup h hs => .tup h.sq (TDs.dp hs)
theorem TDs.dp : ∀ {vs : List V} {ds : List PyData}, TDs K H vs ds → DpAll K H vs ds
  | _, _, .nil => .nil
  | _, _, .cons h hs => .cons (TD.dp h) (TDs.dp hs)
end
theorem TD.int_inv {v : V} {i : Int} (h : TD K H v (.int i)) : v = .int i := by cases h; rfl
theorem TD.str_inv {v : V} {i : Str} (h : TD K H v (.str i)) : v = .str i := by cases h; rfl
theorem TD.non_inv {v : V} (h : TD K H v .none) : v = .non := by cases h; rfl
theorem TD.bl_inv {v : V} {b : Bool} (h : TD K H v (.bool b)) : v = .bl b := by cases h; rfl
theorem TD.tup_inv {v : V} {ds : List PyData} (h : TD K H v (.tuple ds)) : ∃ a xs, v = .ref a ∧ Tq K H a xs ∧ TDs K H xs ds := by
  cases h with
  | tup h hs => exact ⟨_, _, rfl, h, hs⟩
theorem TDs.len : ∀ {vs : List V} {ds : List PyData}, TDs K H vs ds → vs.length = ds.length
  | _, _, .nil => rfl
  | _, _, .cons _ hs => congrArg Nat.succ (TDs.len hs)
theorem TDs.get : ∀ {vs : List V} {ds : List PyData} {i : Nat} {d : PyData}, TDs K H vs ds → ds[i]? = some d → ∃ v, vs[i]? = some v ∧ TD K H v d
  | _, _, 0, _, .cons h _, e => by simp at e; subst e; exact ⟨_, rfl, h⟩
  | _, _, i + 1, _, .cons _ hs, e => by simpa using TDs.get (i := i) hs (by simpa using e)
  | _, _, _, _, .nil, e => by simp at e
theorem TDs.get' : ∀ {vs : List V} {ds : List PyData} {i : Nat} {v : V}, TDs K H vs ds → vs[i]? = some v → ∃ d, ds[i]? = some d ∧ TD K H v d
  | _, _, 0, _, .cons h _, e => by simp at e; subst e; exact ⟨_, rfl, h⟩
  | _, _, i + 1, _, .cons _ hs, e => by simpa using TDs.get' (i := i) hs (by simpa using e)
  | _, _, _, _, .nil, e => by simp at e
theorem TDs.snoc : ∀ {vs : List V} {ds : List PyData} {v : V} {d : PyData}, TDs K H vs ds → TD K H v d → TDs K H (vs ++ [v]) (ds ++ [d])
  | _, _, _, _, .nil, h => .cons h .nil
  | _, _, _, _, .cons q hs, h => .cons q (TDs.snoc hs h)
theorem TDs.app : ∀ {vs ws : List V} {ds es : List PyData}, TDs K H vs ds → TDs K H ws es → TDs K H (vs ++ ws) (ds ++ es)
  | _, _, _, _, .nil, h => h
  | _, _, _, _, .cons q hs, h => .cons q (TDs.app hs h)
theorem TDs.set : ∀ {vs : List V} {ds : List PyData} {v : V} {d : PyData} (i : Nat), TDs K H vs ds → TD K H v d → TDs K H (vs.set i v) (ds.set i d)
  | _, _, _, _, _, .nil, _ => .nil
  | _, _, _, _, 0, .cons _ hs, h => .cons h hs
  | _, _, _, _, i + 1, .cons q hs, h => .cons q (TDs.set i hs h)
theorem TDs.drop : ∀ {vs : List V} {ds : List PyData} (i : Nat), TDs K H vs ds → TDs K H (vs.drop i) (ds.drop i)
  | _, _, 0, h => h
  | _, _, _ + 1, .nil => .nil
  | _, _, i + 1, .cons _ hs => TDs.drop i hs
theorem TDs.take : ∀ {vs : List V} {ds : List PyData} (i : Nat), TDs K H vs ds → TDs K H (vs.take i) (ds.take i)
  | _, _, 0, h => .nil
  | _, _, _ + 1, .nil => .nil
  | _, _, i + 1, .cons h hs => .cons h (TDs.take i hs)
end

/-! ### fractions -/
def eF (q : Rat) : PyData := .tuple [.int q.num, .int q.den]
theorem eF_inj {p q : Rat} (h : eF p = eF q) : p = q := by
  unfold eF at h
  injection h with h
  injection h with h1 h2
  injection h2 with h2 _
  injection h1 with h1
  injection h2 with h2
  exact Rat.ext h1 (by omega)
section
variable {K : PySem.W.Frag} {H H' : Hp}
theorem TD.fr {v : V} {q : Rat} (h : TD K H v (eF q)) : ∃ a, v = .ref a ∧ Tq K H a [.int q.num, .int q.den] := by
  obtain ⟨a, xs, rfl, ht, hs⟩ := h.tup_inv
  cases hs with
  | cons h1 hs => cases hs with
    | cons h2 hs => cases hs with
      | nil =>
        rw [h1.int_inv, h2.int_inv] at ht
        exact ⟨a, rfl, ht⟩
theorem TD.of_fr {a : Addr} {q : Rat} (h : Tq K H a [.int q.num, .int q.den]) : TD K H (.ref a) (eF q) := .tup h (.cons (.int _) (.cons (.int _) .nil))
end

/-! ### defs by name -/
/-- a def of the top, of no defaults -/
def DefAt (K : PySem.W.Frag) (mg : Str → Option Value) (x : Str) (st : Stmt) : Prop :=
  ∃ (f : Addr) (fd : FuncData), FunD K x x (defArgs st) (defBody st) (defScope st) [] [] f fd ∧ mg x = some (.ref f)
/-- a def that may be called by its name -/
structure Cal (P : Program) (w : World) (K : PySem.W.Frag) (mg : Str → Option Value) (base : Heap) (k : Nat) (x : Str) (sp : Sp) : Prop where
  ex : ∃ (f : Addr) (fd : FuncData) (ps : List Str), FnOk P w K mg base CX0 k f fd ps sp ∧ mg x = some (.ref f) ∧ PySem.W.keepIn K (.ref f) = true ∧ Binds K fd ps []
section
variable {P : Program} {w : World} {K : PySem.W.Frag} {mg : Str → Option Value} {base : Heap}
theorem cal_of {x : Str} {st : Stmt} {N ps : List Str} {k : Nat} {sp : Sp} (D : DefAt K mg x st) (sc : FnScope N ps (defScope st))
    (b : ∀ (kV doc pm : Value) (an : Option Addr) (cdv ct : Value) (us : List Value), us.length = ps.length → bindArgs (PySem.W.fnOf x x (defArgs st) (defBody st) (defScope st) .none kV doc pm an cdv ct) ⟨us, []⟩ = pure (ps.zip us))
    (len : ∀ vs H Q E, sp vs H Q E → vs.length = ps.length)
    (hbody : ∀ (f : Addr) (cdv : Value) (A : Around) (outer : List Env) (s : Shared) (H : Hp) (vs : List V) (Q : VK) (E : XK), Room k (A.deeper (envOfC x (defScope st) s.heap.objs.size f cdv)) → sp vs H Q E →
      ∃ t, PSs (cxOf CX0 P w K mg base N x (defScope st) f cdv A outer s H E).nox (defBody st) t ∧ t { nx := fun _ H' => Q .non H', rt := Q } (start N vs) H) : Cal P w K mg base (k + 1) x sp := by
  obtain ⟨f, fd, F, hm⟩ := D
  refine ⟨f, fd, ps, F.ok sc len fun cdv A outer s H vs Q E hr h => ?_, hm, F.kp, F.bindsN b⟩
  obtain ⟨t, h1, h2⟩ := hbody f cdv A outer s H vs Q E hr h
  exact ⟨t, h1.nox, h2⟩
theorem Cal.mono {j k : Nat} {x : Str} {sp : Sp} (c : Cal P w K mg base j x sp) (h : j ≤ k) : Cal P w K mg base k x sp := by
  obtain ⟨f, fd, ps, F, r⟩ := c.ex
  exact ⟨f, fd, ps, F.mono h, r⟩
theorem Cal.imp {k : Nat} {x : Str} {sp sp' : Sp} (c : Cal P w K mg base k x sp) (h : ∀ vs H Q E, sp' vs H Q E → sp vs H Q E) : Cal P w K mg base k x sp' := by
  obtain ⟨f, fd, ps, F, r⟩ := c.ex
  exact ⟨f, fd, ps, F.imp h, r⟩
end
section
variable {X : Cx} {k j : Nat} {C : Addr} {x m : Str} {sp : Sp} {p pos apos : Pos} {e o : Expr} {es : List Expr} {ta : TE} {t : TA}
theorem pe_c (c : Cal X.prog X.w X.K X.mg X.base k x sp) (hr : Room j X.A) (hk : k ≤ j) (hg : Gl X x) (ha : PA X (e :: es) t)
    (hdb : (x == ("__debug__" : Str)) = false := by decide) (he : starEach (e :: es) X.env = (false, eval e X.env) :: starEach es X.env := by rfl) (hpl : (backTo pos (starEach es X.env)).any (·.1) = false := by rfl) :
    PE X (.Call (.Name x p) (e :: es) [] pos) (tCall sp [] E0 t) := by
  obtain ⟨f, fd, ps, F, hm, kp, b⟩ := c.ex
  exact pe_call F (hr.mono hk) hg hm kp b .nil pass0 ha hdb he hpl
end
/-! ### readings -/
theorem a0 {α : Type} {x : α} {xs : List α} : atI (x :: xs) 0 = some x := atI_nat (j := 0) rfl
theorem a1 {α : Type} {x y : α} {xs : List α} : atI (x :: y :: xs) 1 = some y := atI_nat (j := 1) rfl
theorem a2 {α : Type} {x y z : α} {xs : List α} : atI (x :: y :: z :: xs) 2 = some z := atI_nat (j := 2) rfl
/-- // of great numbers, any sign of the divisor -/
def CDivS (_ j : Int) : Prop := j ≠ 0 ∧ j.natAbs.log2 < 9000
section
variable {X : Cx}
theorem op_fdivS : OpR X (binaryOp .FloorDiv) (rI CDivS fun i j => .int (i.fdiv j)) := opI fun i j _ _ _ _ _ hc q => floordiv_int hc.1 q (.inl (PyProof.noPylong_of_log2 hc.2))
end
theorem two_le : 2 ≤ sizeLine := by decide
theorem three_le : 3 ≤ sizeLine := by decide
theorem log2_lt {n k : Nat} (h : n < 2 ^ k) (hk : 0 < k) : n.log2 < k := PySem.Flt.log2_lt_of hk h
end U
set_option Elab.async false
set_option linter.all false
set_option maxRecDepth 100000
set_option maxHeartbeats 4000000
/-! common, fraction, plus, less, times, over; the law's own of these. -/
namespace U
open PySem PySem.Spec PyProof.Rows L2

/-- small enough for the divisions -/
def Sz (n : Nat) (q : Rat) : Prop := q.num.natAbs < 2 ^ n ∧ q.den < 2 ^ n
def spCommon : Sp := fun vs H Q _ => ∃ a b : Int, vs = [.int a, .int b] ∧ Q (.int (Int.gcd a b : Int)) H
def spFraction (K : PySem.W.Frag) : Sp := fun vs H Q _ => ∃ n d : Int, vs = [.int n, .int d] ∧ d ≠ 0 ∧ d.natAbs < 2 ^ 9000 ∧ ∀ H' v, Same H H' → TD K H' v (eF (Rat.divInt n d)) → Q v H'
/-- a deed on two fractions -/
def spDeed (K : PySem.W.Frag) (ok : Rat → Rat → Prop) (f : Rat → Rat → Rat) : Sp := fun vs H Q _ => ∃ (x y : V) (a b : Rat), vs = [x, y] ∧ TD K H x (eF a) ∧ TD K H y (eF b) ∧ ok a b ∧ ∀ H' v, Same H H' → TD K H' v (eF (f a b)) → Q v H'
def okS (a b : Rat) : Prop := Sz 4400 a ∧ Sz 4400 b
def okO (a b : Rat) : Prop := Sz 4400 a ∧ Sz 4400 b ∧ b ≠ 0

section
variable {P : Program} {w : World} {K : PySem.W.Frag} {mg : Str → Option Value} {base : Heap}
theorem mulW {a b : Int} (ha : a.natAbs < 2 ^ 4400) (hb : b.natAbs < 2 ^ 4400) : CMulW a b := wide_mul ha hb (by decide) (by decide) (by decide)
theorem natAbs_den (q : Rat) : ((q.den : Nat) : Int).natAbs = q.den := by omega
theorem mul_lt9 {a b : Int} (ha : a.natAbs < 2 ^ 4400) (hb : b.natAbs < 2 ^ 4400) : (a * b).natAbs < 2 ^ 9000 :=
  Nat.lt_of_lt_of_le (wide_lt ha hb) (Nat.pow_le_pow_right (by decide) (by omega))

theorem sc_common : FnScope ["one", "other"] ["one", "other"] (defScope s_common) := ⟨rfl, rfl, rfl, by decide +kernel, rfl, by decide +kernel, by decide +kernel⟩
theorem c_common (D : DefAt K mg "common" s_common) (mA : mg "abs" = none) : Cal P w K mg base 1 "common" spCommon := by
  refine cal_of D sc_common (fun _ _ _ _ _ _ us hl => match us, hl with | [_, _], _ => rfl) (fun vs H Q E h => ?_) (fun f cdv A outer s H vs Q E hr h => ?_)
  · obtain ⟨a, b, rfl, _⟩ := h
    rfl
  · obtain ⟨a, b, rfl, q⟩ := h
    refine ⟨_, pss_cons (ps_par (i := 0) (j := 1) (by rfl) sc_common.nd rfl rfl (by decide) rfl rfl
        (pa_cons (pe_callB call_abs (by rfl) mA (by decide +kernel) (pa_cons (pv 0) pa_nil)) (pa_cons (pe_callB call_abs (by rfl) mA (by decide +kernel) (pa_cons (pv 1) pa_nil)) pa_nil)) (by rfl))
      (pss_cons (ps_while PassesOwn.never (pt_cmpR op_gt (pv 1) pe_int (nomark _))
        (pss_one (ps_par (i := 0) (j := 1) (by rfl) sc_common.nd rfl rfl (by decide) rfl rfl (pa_cons (pv 1) (pa_cons (pe_op op_mod (pv 0) (pv 1)) pa_nil)) (by rfl))))
      (pss_one (ps_ret (pv 0)))), ?_⟩
    refine ⟨_, rfl, _, rfl, _, rfl, _, rfl, _, _, rfl, ?_⟩
    refine ⟨fun m σ H' => ∃ x y : Int, σ = [some (.int x), some (.int y)] ∧ H' = H ∧ 0 ≤ x ∧ 0 ≤ y ∧ m = y.toNat ∧ Int.gcd x y = Int.gcd a b,
      ⟨_, _, _, rfl, rfl, by split <;> omega, by split <;> omega, rfl, gcd_abs a b⟩, ?_⟩
    rintro m σ H' ⟨x, y, rfl, rfl, hx, hy, rfl, hg⟩
    refine ⟨_, rfl, _, _, rfl, rfl, _, rfl, ?_⟩
    refine ite2 (fun h => ?_) (fun h => ?_)
    · have hy' : 0 < y := of_decide_eq_true h
      refine ⟨fun σ' H'' => ∃ m', m' < y.toNat ∧ ∃ x y : Int, σ' = [some (.int x), some (.int y)] ∧ H'' = H' ∧ 0 ≤ x ∧ 0 ≤ y ∧ m' = y.toNat ∧ Int.gcd x y = Int.gcd a b, fun _ _ h => h, ?_⟩
      refine ⟨_, rfl, _, rfl, _, rfl, _, _, rfl, rfl, hy', _, _, rfl, ?_⟩
      have h1 := Int.emod_nonneg x (b := y) (by omega)
      have h2 := Int.emod_lt_of_pos x hy'
      exact ⟨_, by omega, _, _, rfl, rfl, hy, h1, rfl, (gcd_turn hx hy).trans hg⟩
    · have e : y = 0 := by
        have : ¬ 0 < y := fun z => h (decide_eq_true z)
        omega
      subst e
      refine ⟨_, rfl, ?_⟩
      rw [← hg, gcd_end hx] at q
      exact q
theorem sc_fraction : FnScope ["n", "d", "part"] ["n", "d"] (defScope s_fraction) := ⟨rfl, rfl, rfl, by decide +kernel, rfl, by decide +kernel, by decide +kernel⟩
theorem c_fraction (D : DefAt K mg "fraction" s_fraction) (cC : Cal P w K mg base 1 "common" spCommon) : Cal P w K mg base 2 "fraction" (spFraction K) := by
  refine cal_of D sc_fraction (fun _ _ _ _ _ _ us hl => match us, hl with | [_, _], _ => rfl) (fun vs H Q E h => ?_) (fun f cdv A outer s H vs Q E hr h => ?_)
  · obtain ⟨a, b, rfl, _⟩ := h
    rfl
  · obtain ⟨n, d, rfl, hd, hz, q⟩ := h
    refine ⟨_, pss_cons (ps_set (i := 2) sc_fraction.nd rfl (Or.inl rfl) (pe_c cC hr (by decide) (by rfl) (pa_cons (pv 0) (pa_cons (pv 1) pa_nil))))
      (pss_cons (ps_if (pt_cmpR op_lt (pv 1) pe_int (nomark _)) (pss_one (ps_set (i := 2) sc_fraction.nd rfl (Or.inl rfl) (pe_op op_sub pe_int (pv 2)))) pss_nil)
      (pss_one (ps_ret (pe_tup (pa_cons (pe_op op_fdivS (pv 0) (pv 2)) (pa_cons (pe_op op_fdivS (pv 1) (pv 2)) pa_nil)))))), ?_⟩
    refine ⟨_, rfl, _, rfl, _, _, rfl, ?_⟩
    have np := partI_ne (n := n) hd
    have lp : (partI n d).natAbs.log2 < 9000 := log2_lt (Nat.lt_of_le_of_lt (partI_le hd) hz) (by decide)
    have fin : ∀ p : Addr, H p = none → Q (.ref p) (upd H p (.tup [.int (n.fdiv (partI n d)), .int (d.fdiv (partI n d))])) := fun p hp => by
      refine q _ _ (Same.new hp) (TD.of_fr (.inl ?_))
      rw [upd_same, num_part hd, den_part hd]
    refine ⟨_, rfl, _, _, rfl, rfl, _, rfl, ?_⟩
    refine ite2 (fun h => ?_) (fun h => ?_)
    · have e : partI n d = 0 - (Int.gcd n d : Int) := if_pos (of_decide_eq_true h)
      rw [e] at np lp fin
      exact ⟨_, rfl, _, _, rfl, rfl, _, rfl, _, rfl, _, _, rfl, rfl, ⟨np, lp⟩, _, rfl, _, rfl, _, _, rfl, rfl, ⟨np, lp⟩, two_le, fin⟩
    · have e : partI n d = (Int.gcd n d : Int) := if_neg fun z => h (decide_eq_true z)
      rw [e] at np lp fin
      exact ⟨_, rfl, _, rfl, _, _, rfl, rfl, ⟨np, lp⟩, _, rfl, _, rfl, _, _, rfl, rfl, ⟨np, lp⟩, two_le, fin⟩
theorem sc_plus : FnScope ["one", "other"] ["one", "other"] (defScope s_plus) := ⟨rfl, rfl, rfl, by decide +kernel, rfl, by decide +kernel, by decide +kernel⟩
theorem c_plus (D : DefAt K mg "plus" s_plus) (cF : Cal P w K mg base 2 "fraction" (spFraction K)) : Cal P w K mg base 3 "plus" (spDeed K okS (· + ·)) := by
  refine cal_of D sc_plus (fun _ _ _ _ _ _ us hl => match us, hl with | [_, _], _ => rfl) (fun vs H Q E h => ?_) (fun f cdv A outer s H vs Q E hr h => ?_)
  · obtain ⟨x, y, a, b, rfl, _⟩ := h
    rfl
  · obtain ⟨x, y, a, b, rfl, hx, hy, ⟨⟨sa, da⟩, ⟨sb, db⟩⟩, q⟩ := h
    obtain ⟨p, rfl, hp⟩ := hx.fr
    obtain ⟨r, rfl, hr'⟩ := hy.fr
    refine ⟨_, pss_one (ps_ret (pe_c cF hr (by decide) (by rfl) (pa_cons (pe_op op_add (pe_op op_mulW (pe_ix ix_tup (pv 0) pe_int (fun _ _ => rfl)) (pe_ix ix_tup (pv 1) pe_int (fun _ _ => rfl))) (pe_op op_mulW (pe_ix ix_tup (pv 1) pe_int (fun _ _ => rfl)) (pe_ix ix_tup (pv 0) pe_int (fun _ _ => rfl))))
      (pa_cons (pe_op op_mulW (pe_ix ix_tup (pv 0) pe_int (fun _ _ => rfl)) (pe_ix ix_tup (pv 1) pe_int (fun _ _ => rfl))) pa_nil)))), ?_⟩
    refine ⟨_, rfl, _, _, _, _, rfl, rfl, hp.sq, a0, _, rfl, _, _, _, _, rfl, rfl, hr'.sq, a1, _, _, rfl, rfl, mulW sa (by rw [natAbs_den]; exact db),
      _, rfl, _, _, _, _, rfl, rfl, hr'.sq, a0, _, rfl, _, _, _, _, rfl, rfl, hp.sq, a1, _, _, rfl, rfl, mulW sb (by rw [natAbs_den]; exact da), _, _, rfl, rfl,
      _, rfl, _, _, _, _, rfl, rfl, hp.sq, a1, _, rfl, _, _, _, _, rfl, rfl, hr'.sq, a1, _, _, rfl, rfl, mulW (by rw [natAbs_den]; exact da) (by rw [natAbs_den]; exact db), ?_⟩
    refine ⟨_, _, rfl, ?_, mul_lt9 (by rw [natAbs_den]; exact da) (by rw [natAbs_den]; exact db), fun H' v sm td => ?_⟩
    · exact Int.mul_ne_zero (by have := a.den_nz; omega) (by have := b.den_nz; omega)
    · rw [divInt_add] at td
      exact q _ _ sm td
theorem sc_less : FnScope ["one", "other"] ["one", "other"] (defScope s_less) := ⟨rfl, rfl, rfl, by decide +kernel, rfl, by decide +kernel, by decide +kernel⟩
theorem c_less (D : DefAt K mg "less" s_less) (cF : Cal P w K mg base 2 "fraction" (spFraction K)) : Cal P w K mg base 3 "less" (spDeed K okS (· - ·)) := by
  refine cal_of D sc_less (fun _ _ _ _ _ _ us hl => match us, hl with | [_, _], _ => rfl) (fun vs H Q E h => ?_) (fun f cdv A outer s H vs Q E hr h => ?_)
  · obtain ⟨x, y, a, b, rfl, _⟩ := h
    rfl
  · obtain ⟨x, y, a, b, rfl, hx, hy, ⟨⟨sa, da⟩, ⟨sb, db⟩⟩, q⟩ := h
    obtain ⟨p, rfl, hp⟩ := hx.fr
    obtain ⟨r, rfl, hr'⟩ := hy.fr
    refine ⟨_, pss_one (ps_ret (pe_c cF hr (by decide) (by rfl) (pa_cons (pe_op op_sub (pe_op op_mulW (pe_ix ix_tup (pv 0) pe_int (fun _ _ => rfl)) (pe_ix ix_tup (pv 1) pe_int (fun _ _ => rfl))) (pe_op op_mulW (pe_ix ix_tup (pv 1) pe_int (fun _ _ => rfl)) (pe_ix ix_tup (pv 0) pe_int (fun _ _ => rfl)))) (pa_cons (pe_op op_mulW (pe_ix ix_tup (pv 0) pe_int (fun _ _ => rfl)) (pe_ix ix_tup (pv 1) pe_int (fun _ _ => rfl))) pa_nil)))), ?_⟩
    refine ⟨_, rfl, _, _, _, _, rfl, rfl, hp.sq, a0, _, rfl, _, _, _, _, rfl, rfl, hr'.sq, a1, _, _, rfl, rfl, mulW sa (by rw [natAbs_den]; exact db), _, rfl, _, _, _, _, rfl, rfl, hr'.sq, a0, _, rfl, _, _, _, _, rfl, rfl, hp.sq, a1, _, _, rfl, rfl, mulW sb (by rw [natAbs_den]; exact da), _, _, rfl, rfl, _, rfl, _, _, _, _, rfl, rfl, hp.sq, a1, _, rfl, _, _, _, _, rfl, rfl, hr'.sq, a1, _, _, rfl, rfl, mulW (by rw [natAbs_den]; exact da) (by rw [natAbs_den]; exact db), ?_⟩
    refine ⟨_, _, rfl, ?_, mul_lt9 (by rw [natAbs_den]; exact da) (by rw [natAbs_den]; exact db), fun H' v sm td => ?_⟩
    · exact Int.mul_ne_zero (by have := a.den_nz; omega) (by have := b.den_nz; omega)
    · rw [divInt_sub] at td
      exact q _ _ sm td
theorem sc_times : FnScope ["one", "other"] ["one", "other"] (defScope s_times) := ⟨rfl, rfl, rfl, by decide +kernel, rfl, by decide +kernel, by decide +kernel⟩
theorem c_times (D : DefAt K mg "times" s_times) (cF : Cal P w K mg base 2 "fraction" (spFraction K)) : Cal P w K mg base 3 "times" (spDeed K okS (· * ·)) := by
  refine cal_of D sc_times (fun _ _ _ _ _ _ us hl => match us, hl with | [_, _], _ => rfl) (fun vs H Q E h => ?_) (fun f cdv A outer s H vs Q E hr h => ?_)
  · obtain ⟨x, y, a, b, rfl, _⟩ := h
    rfl
  · obtain ⟨x, y, a, b, rfl, hx, hy, ⟨⟨sa, da⟩, ⟨sb, db⟩⟩, q⟩ := h
    obtain ⟨p, rfl, hp⟩ := hx.fr
    obtain ⟨r, rfl, hr'⟩ := hy.fr
    refine ⟨_, pss_one (ps_ret (pe_c cF hr (by decide) (by rfl) (pa_cons (pe_op op_mulW (pe_ix ix_tup (pv 0) pe_int (fun _ _ => rfl)) (pe_ix ix_tup (pv 1) pe_int (fun _ _ => rfl))) (pa_cons (pe_op op_mulW (pe_ix ix_tup (pv 0) pe_int (fun _ _ => rfl)) (pe_ix ix_tup (pv 1) pe_int (fun _ _ => rfl))) pa_nil)))), ?_⟩
    refine ⟨_, rfl, _, _, _, _, rfl, rfl, hp.sq, a0, _, rfl, _, _, _, _, rfl, rfl, hr'.sq, a0, _, _, rfl, rfl, mulW sa sb, _, rfl, _, _, _, _, rfl, rfl, hp.sq, a1, _, rfl, _, _, _, _, rfl, rfl, hr'.sq, a1, _, _, rfl, rfl, mulW (by rw [natAbs_den]; exact da) (by rw [natAbs_den]; exact db), ?_⟩
    refine ⟨_, _, rfl, ?_, mul_lt9 (by rw [natAbs_den]; exact da) (by rw [natAbs_den]; exact db), fun H' v sm td => ?_⟩
    · exact Int.mul_ne_zero (by have := a.den_nz; omega) (by have := b.den_nz; omega)
    · rw [divInt_mul] at td
      exact q _ _ sm td
theorem sc_over : FnScope ["one", "other"] ["one", "other"] (defScope s_over) := ⟨rfl, rfl, rfl, by decide +kernel, rfl, by decide +kernel, by decide +kernel⟩
theorem c_over (D : DefAt K mg "over" s_over) (cF : Cal P w K mg base 2 "fraction" (spFraction K)) : Cal P w K mg base 3 "over" (spDeed K okO (· / ·)) := by
  refine cal_of D sc_over (fun _ _ _ _ _ _ us hl => match us, hl with | [_, _], _ => rfl) (fun vs H Q E h => ?_) (fun f cdv A outer s H vs Q E hr h => ?_)
  · obtain ⟨x, y, a, b, rfl, _⟩ := h
    rfl
  · obtain ⟨x, y, a, b, rfl, hx, hy, ⟨⟨sa, da⟩, ⟨sb, db⟩, hb0⟩, q⟩ := h
    obtain ⟨p, rfl, hp⟩ := hx.fr
    obtain ⟨r, rfl, hr'⟩ := hy.fr
    refine ⟨_, pss_one (ps_ret (pe_c cF hr (by decide) (by rfl) (pa_cons (pe_op op_mulW (pe_ix ix_tup (pv 0) pe_int (fun _ _ => rfl)) (pe_ix ix_tup (pv 1) pe_int (fun _ _ => rfl))) (pa_cons (pe_op op_mulW (pe_ix ix_tup (pv 0) pe_int (fun _ _ => rfl)) (pe_ix ix_tup (pv 1) pe_int (fun _ _ => rfl))) pa_nil)))), ?_⟩
    refine ⟨_, rfl, _, _, _, _, rfl, rfl, hp.sq, a0, _, rfl, _, _, _, _, rfl, rfl, hr'.sq, a1, _, _, rfl, rfl, mulW sa (by rw [natAbs_den]; exact db), _, rfl, _, _, _, _, rfl, rfl, hp.sq, a1, _, rfl, _, _, _, _, rfl, rfl, hr'.sq, a0, _, _, rfl, rfl, mulW (by rw [natAbs_den]; exact da) sb, ?_⟩
    refine ⟨_, _, rfl, ?_, mul_lt9 (by rw [natAbs_den]; exact da) sb, fun H' v sm td => ?_⟩
    · exact Int.mul_ne_zero (by have := a.den_nz; omega) (fun z => hb0 (Rat.num_eq_zero.mp z))
    · rw [divInt_div] at td
      exact q _ _ sm td
theorem sc_l_plus : FnScope ["_law_one", "_law_other"] ["_law_one", "_law_other"] (defScope s_l_plus) := ⟨rfl, rfl, rfl, by decide +kernel, rfl, by decide +kernel, by decide +kernel⟩
theorem c_l_plus (D : DefAt K mg "_law_plus" s_l_plus) (cF : Cal P w K mg base 2 "_law_fraction" (spFraction K)) : Cal P w K mg base 3 "_law_plus" (spDeed K okS (· + ·)) := by
  refine cal_of D sc_l_plus (fun _ _ _ _ _ _ us hl => match us, hl with | [_, _], _ => rfl) (fun vs H Q E h => ?_) (fun f cdv A outer s H vs Q E hr h => ?_)
  · obtain ⟨x, y, a, b, rfl, _⟩ := h
    rfl
  · obtain ⟨x, y, a, b, rfl, hx, hy, ⟨⟨sa, da⟩, ⟨sb, db⟩⟩, q⟩ := h
    obtain ⟨p, rfl, hp⟩ := hx.fr
    obtain ⟨r, rfl, hr'⟩ := hy.fr
    refine ⟨_, pss_one (ps_ret (pe_c cF hr (by decide) (by rfl) (pa_cons (pe_op op_add (pe_op op_mulW (pe_ix ix_tup (pv 0) pe_int (fun _ _ => rfl)) (pe_ix ix_tup (pv 1) pe_int (fun _ _ => rfl))) (pe_op op_mulW (pe_ix ix_tup (pv 1) pe_int (fun _ _ => rfl)) (pe_ix ix_tup (pv 0) pe_int (fun _ _ => rfl)))) (pa_cons (pe_op op_mulW (pe_ix ix_tup (pv 0) pe_int (fun _ _ => rfl)) (pe_ix ix_tup (pv 1) pe_int (fun _ _ => rfl))) pa_nil)))), ?_⟩
    refine ⟨_, rfl, _, _, _, _, rfl, rfl, hp.sq, a0, _, rfl, _, _, _, _, rfl, rfl, hr'.sq, a1, _, _, rfl, rfl, mulW sa (by rw [natAbs_den]; exact db), _, rfl, _, _, _, _, rfl, rfl, hr'.sq, a0, _, rfl, _, _, _, _, rfl, rfl, hp.sq, a1, _, _, rfl, rfl, mulW sb (by rw [natAbs_den]; exact da), _, _, rfl, rfl, _, rfl, _, _, _, _, rfl, rfl, hp.sq, a1, _, rfl, _, _, _, _, rfl, rfl, hr'.sq, a1, _, _, rfl, rfl, mulW (by rw [natAbs_den]; exact da) (by rw [natAbs_den]; exact db), ?_⟩
    refine ⟨_, _, rfl, ?_, mul_lt9 (by rw [natAbs_den]; exact da) (by rw [natAbs_den]; exact db), fun H' v sm td => ?_⟩
    · exact Int.mul_ne_zero (by have := a.den_nz; omega) (by have := b.den_nz; omega)
    · rw [divInt_add] at td
      exact q _ _ sm td
theorem sc_l_times : FnScope ["_law_one", "_law_other"] ["_law_one", "_law_other"] (defScope s_l_times) := ⟨rfl, rfl, rfl, by decide +kernel, rfl, by decide +kernel, by decide +kernel⟩
theorem c_l_times (D : DefAt K mg "_law_times" s_l_times) (cF : Cal P w K mg base 2 "_law_fraction" (spFraction K)) : Cal P w K mg base 3 "_law_times" (spDeed K okS (· * ·)) := by
  refine cal_of D sc_l_times (fun _ _ _ _ _ _ us hl => match us, hl with | [_, _], _ => rfl) (fun vs H Q E h => ?_) (fun f cdv A outer s H vs Q E hr h => ?_)
  · obtain ⟨x, y, a, b, rfl, _⟩ := h
    rfl
  · obtain ⟨x, y, a, b, rfl, hx, hy, ⟨⟨sa, da⟩, ⟨sb, db⟩⟩, q⟩ := h
    obtain ⟨p, rfl, hp⟩ := hx.fr
    obtain ⟨r, rfl, hr'⟩ := hy.fr
    refine ⟨_, pss_one (ps_ret (pe_c cF hr (by decide) (by rfl) (pa_cons (pe_op op_mulW (pe_ix ix_tup (pv 0) pe_int (fun _ _ => rfl)) (pe_ix ix_tup (pv 1) pe_int (fun _ _ => rfl))) (pa_cons (pe_op op_mulW (pe_ix ix_tup (pv 0) pe_int (fun _ _ => rfl)) (pe_ix ix_tup (pv 1) pe_int (fun _ _ => rfl))) pa_nil)))), ?_⟩
    refine ⟨_, rfl, _, _, _, _, rfl, rfl, hp.sq, a0, _, rfl, _, _, _, _, rfl, rfl, hr'.sq, a0, _, _, rfl, rfl, mulW sa sb, _, rfl, _, _, _, _, rfl, rfl, hp.sq, a1, _, rfl, _, _, _, _, rfl, rfl, hr'.sq, a1, _, _, rfl, rfl, mulW (by rw [natAbs_den]; exact da) (by rw [natAbs_den]; exact db), ?_⟩
    refine ⟨_, _, rfl, ?_, mul_lt9 (by rw [natAbs_den]; exact da) (by rw [natAbs_den]; exact db), fun H' v sm td => ?_⟩
    · exact Int.mul_ne_zero (by have := a.den_nz; omega) (by have := b.den_nz; omega)
    · rw [divInt_mul] at td
      exact q _ _ sm td
theorem sc_l_fraction : FnScope ["_law_n", "_law_d", "_law_one", "_law_two"] ["_law_n", "_law_d"] (defScope s_l_fraction) := ⟨rfl, rfl, rfl, by decide +kernel, rfl, by decide +kernel, by decide +kernel⟩
theorem c_l_fraction (D : DefAt K mg "_law_fraction" s_l_fraction) (mA : mg "abs" = none) : Cal P w K mg base 2 "_law_fraction" (spFraction K) := by
  refine cal_of D sc_l_fraction (fun _ _ _ _ _ _ us hl => match us, hl with | [_, _], _ => rfl) (fun vs H Q E h => ?_) (fun f cdv A outer s H vs Q E hr h => ?_)
  · obtain ⟨a, b, rfl, _⟩ := h
    rfl
  · obtain ⟨n, d, rfl, hd, hz, q⟩ := h
    refine ⟨_, (pss_cons (ps_set (i := 2) sc_l_fraction.nd rfl (Or.inl rfl) (pe_callB call_abs (by rfl) mA (by decide +kernel) (pa_cons (pv 0) pa_nil)))
(pss_cons (ps_set (i := 3) sc_l_fraction.nd rfl (Or.inl rfl) (pe_callB call_abs (by rfl) mA (by decide +kernel) (pa_cons (pv 1) pa_nil)))
(pss_cons (ps_while PassesOwn.never (pt_cmpR op_ne (pv 3) pe_int (nomark _))
(pss_one (ps_par (i := 2) (j := 3) (by rfl) sc_l_fraction.nd rfl rfl (by decide) rfl rfl (pa_cons (pv 3) (pa_cons (pe_op op_mod (pv 2) (pv 3)) pa_nil)) (by rfl))))
(pss_cons (ps_if (pt_cmpR op_lt (pv 1) pe_int (nomark _))
(pss_one (ps_set (i := 2) sc_l_fraction.nd rfl (Or.inl rfl) (pe_op op_sub pe_int (pv 2))))
pss_nil)
(pss_one (ps_ret (pe_tup (pa_cons (pe_op op_fdivS (pv 0) (pv 2)) (pa_cons (pe_op op_fdivS (pv 1) (pv 2)) pa_nil))))))))), ?_⟩
    refine ⟨_, rfl, _, rfl, _, rfl, _, rfl, ?_⟩
    refine ⟨fun m σ H' => ∃ x y : Int, σ = [some (.int n), some (.int d), some (.int x), some (.int y)] ∧ H' = H ∧ 0 ≤ x ∧ 0 ≤ y ∧ m = y.toNat ∧ Int.gcd x y = Int.gcd n d,
      ⟨_, _, _, rfl, rfl, by split <;> omega, by split <;> omega, rfl, gcd_abs n d⟩, ?_⟩
    rintro m σ H' ⟨x, y, rfl, rfl, hx, hy, rfl, hg⟩
    refine ⟨_, rfl, rfl, _, rfl, ?_⟩
    have e0 : (!decide (V.int y = V.int 0)) = !decide (y = 0) := by simp
    refine (show if (!decide (V.int y = V.int 0)) = true then _ else _ from ?_)
    rw [e0]
    refine ite2 (fun h => ?_) (fun h => ?_)
    · have hy' : 0 < y := by
        have : ¬ y = 0 := by simpa using h
        omega
      refine ⟨fun σ' H'' => ∃ m', m' < y.toNat ∧ ∃ x y : Int, σ' = [some (.int n), some (.int d), some (.int x), some (.int y)] ∧ H'' = H' ∧ 0 ≤ x ∧ 0 ≤ y ∧ m' = y.toNat ∧ Int.gcd x y = Int.gcd n d, fun _ _ h => h, ?_⟩
      refine ⟨_, rfl, _, rfl, _, rfl, _, _, rfl, rfl, hy', _, _, rfl, ?_⟩
      have h1 := Int.emod_nonneg x (b := y) (by omega)
      have h2 := Int.emod_lt_of_pos x hy'
      exact ⟨_, by omega, _, _, rfl, rfl, hy, h1, rfl, (gcd_turn hx hy).trans hg⟩
    · have e : y = 0 := by simpa using h
      subst e
      have ex : x = (Int.gcd n d : Int) := by rw [← hg, gcd_end hx]
      subst ex
      have np := partI_ne (n := n) hd
      have lp : (partI n d).natAbs.log2 < 9000 := log2_lt (Nat.lt_of_le_of_lt (partI_le hd) hz) (by decide)
      have fin : ∀ p : Addr, H' p = none → Q (.ref p) (upd H' p (.tup [.int (n.fdiv (partI n d)), .int (d.fdiv (partI n d))])) := fun p hp => by
        refine q _ _ (Same.new hp) (TD.of_fr (.inl ?_))
        rw [upd_same, num_part hd, den_part hd]
      refine ⟨_, rfl, _, _, rfl, rfl, _, rfl, ?_⟩
      refine ite2 (fun h => ?_) (fun h => ?_)
      · have e : partI n d = 0 - (Int.gcd n d : Int) := if_pos (of_decide_eq_true h)
        rw [e] at np lp fin
        exact ⟨_, rfl, _, _, rfl, rfl, _, rfl, _, rfl, _, _, rfl, rfl, ⟨np, lp⟩, _, rfl, _, rfl, _, _, rfl, rfl, ⟨np, lp⟩, two_le, fin⟩
      · have e : partI n d = (Int.gcd n d : Int) := if_neg fun z => h (decide_eq_true z)
        rw [e] at np lp fin
        exact ⟨_, rfl, _, rfl, _, _, rfl, rfl, ⟨np, lp⟩, _, rfl, _, rfl, _, _, rfl, rfl, ⟨np, lp⟩, two_le, fin⟩
end
end U
set_option Elab.async false
set_option linter.all false
set_option maxRecDepth 100000
set_option maxHeartbeats 4000000
/-! Dicts whose keys are nested tuples, in the abstract heap: the object itself is pinned, what it holds is told apart. -/
namespace U
open PySem PySem.Spec PyProof.Rows L2

/-- at d stands just this object -/
def pinO (d : Addr) (o : Obj) : HO := .ext fun h => h.get? d = some o
theorem pinO_ok {P : Program} {w : World} {H : Hp} {h : Heap} {d : Addr} {o : Obj} (e : h.get? d = some o) : ObjOk P w H h d (pinO d o) := ⟨e, ⟨o, e⟩, fun _ _ q k => k _ q⟩
theorem pinO_at {P : Program} {w : World} {H : Hp} {h : Heap} {d : Addr} {o : Obj} (ok : HOk P w H h) (e : H d = some (pinO d o)) : h.get? d = some o := (ok d _ e).1
theorem pinO_tup {d : Addr} {o : Obj} (xs : List V) : pinO d o ≠ .tup xs := fun z => HO.noConfusion z
theorem pinO_lst {d : Addr} {o : Obj} (xs : List V) : pinO d o ≠ .lst xs := fun z => HO.noConfusion z

/-- the object is a dict: its keys (and where they stand), its values -/
abbrev NRel : List (NestedKey × Addr × V) → List (NestedKey × Addr × Value) → Prop := Paired fun p q => p.1 = q.1 ∧ p.2.1 = q.2.1 ∧ RelV p.2.2 q.2.2
structure NObj (P : Program) (w : World) (o : Obj) (kvs : List (NestedKey × Addr × V)) : Prop where
  ex : ∃ xs es ep, NRel kvs xs ∧ o.ExactDict ∧ o.data = .dict es ep ∧ es.toList = xs.map (entryOfKey (nestedKind P w)) ∧ (xs.map (·.1)).Nodup
  len : kvs.length ≤ sizeLine
def toF (kvs : List (NestedKey × Addr × V)) : List (NestedKey × V) := kvs.map fun x => (x.1, x.2.2)
/-- at d stands the object o, a dict of nested keys with the items F, in their order -/
structure NDo (P : Program) (w : World) (K : PySem.W.Frag) (H : Hp) (d : Addr) (o : Obj) (F : List (NestedKey × V)) : Prop where
  at_ : H d = some (pinO d o)
  ex : ∃ kvs, NObj P w o kvs ∧ toF kvs = F ∧ ∀ x ∈ kvs, TD K H (.ref x.2.1) x.1.data ∧ x.1.depth ≤ 8
  low : (d == sysModules) = false
def ND (P : Program) (w : World) (K : PySem.W.Frag) (H : Hp) (d : Addr) (F : List (NestedKey × V)) : Prop := ∃ o, NDo P w K H d o F
section
variable {P : Program} {w : World} {K : PySem.W.Frag} {H H' : Hp} {d : Addr} {o : Obj} {F : List (NestedKey × V)}
theorem NDo.up (h : NDo P w K H d o F) (k : Kp H H') (e : H' d = some (pinO d o)) : NDo P w K H' d o F := by
  obtain ⟨kvs, h1, h2, h3⟩ := h.ex
  exact ⟨e, ⟨kvs, h1, h2, fun x hx => ⟨(h3 x hx).1.up k, (h3 x hx).2⟩⟩, h.low⟩
theorem NDo.same (h : NDo P w K H d o F) (s : Same H H') : NDo P w K H' d o F := h.up (.of s) (s _ _ h.at_)
theorem ND.same (h : ND P w K H d F) (s : Same H H') : ND P w K H' d F := let ⟨o, q⟩ := h; ⟨o, q.same s⟩
theorem ND.ch {S : Addr → Prop} (h : ND P w K H d F) (c : Ch S H H') (n : ¬ S d) : ND P w K H' d F := let ⟨o, q⟩ := h; ⟨o, q.up c.kp (c.keep _ _ n q.at_)⟩
theorem NDo.len (h : NDo P w K H d o F) : F.length ≤ sizeLine := by
  obtain ⟨kvs, h1, rfl, _⟩ := h.ex
  unfold toF
  rw [List.length_map]
  exact h1.len
theorem NRel.keys {kvs : List (NestedKey × Addr × V)} {xs : List (NestedKey × Addr × Value)} (r : NRel kvs xs) : kvs.map (·.1) = xs.map (·.1) := by
  induction r with
  | nil => rfl
  | cons h _ ih => rw [List.map_cons, List.map_cons, h.1, ih]
theorem toF_keys (kvs : List (NestedKey × Addr × V)) : (toF kvs).map (·.1) = kvs.map (·.1) := by
  unfold toF
  rw [List.map_map]
  rfl
theorem NDo.nodup (h : NDo P w K H d o F) : (F.map (·.1)).Nodup := by
  obtain ⟨kvs, h1, rfl, _⟩ := h.ex
  obtain ⟨xs, es, ep, r, _, _, _, n⟩ := h1.ex
  rw [toF_keys, NRel.keys r]
  exact n
end

/-! ### from the abstract heap to the model's -/
section
variable {X : Cx} {pins : List (Addr × Obj)} {σ : L2.St} {H : Hp} {s : Shared}
mutual
theorem nis (I : Inv X pins σ H s) : ∀ (k : NestedKey) (v : V) (u : Value), TD X.K H v k.data → RelV v u → NestedIs s.heap k u
  | .none, _, _, h, r => by
    rw [NestedKey.data] at h
    cases h
    cases r
    exact .none
  | .num i, _, _, h, r => by
    rw [NestedKey.data] at h
    cases h
    obtain ⟨t, rfl⟩ := r
    exact .int _ _
  | .text x, _, _, h, r => by
    rw [NestedKey.data] at h
    cases h
    obtain ⟨t, rfl⟩ := r
    exact .text _ _
  | .tup ks, _, _, h, r => by
    rw [NestedKey.data] at h
    cases h with
    | tup h1 h2 =>
      cases r
      obtain ⟨its, rv, ⟨o, ho, hc, n, hd⟩, _⟩ := I.tuple h1.sq
      exact .tup ho hc hd (nisAll I ks _ its h2 rv)
theorem nisAll (I : Inv X pins σ H s) : ∀ (ks : List NestedKey) (vs : List V) (us : List Value), TDs X.K H vs (NestedKey.datas ks) → Vals vs us → NestedAll s.heap ks us
  | [], _, _, h, r => by
    rw [NestedKey.datas] at h
    cases h
    cases r
    exact .nil
  | k :: ks, _, _, h, r => by
    rw [NestedKey.datas] at h
    cases h with
    | cons h1 h2 =>
      cases r with
      | cons r1 r2 => exact .cons (nis I k _ _ h1 r1) (nisAll I ks _ _ h2 r2)
end
theorem nkey (I : Inv X pins σ H s) {k : NestedKey} {a : Addr} (h : TD X.K H (.ref a) k.data) (hd : k.depth ≤ 8) : (nestedKind X.prog X.w).is s.heap k a := ⟨nis I k _ _ h rfl, hd⟩
variable {d : Addr} {o : Obj} {F : List (NestedKey × V)}
theorem NRel.mem : ∀ {kvs : List (NestedKey × Addr × V)} {xs : List (NestedKey × Addr × Value)}, NRel kvs xs → ∀ x ∈ xs, ∃ y ∈ kvs, y.1 = x.1 ∧ y.2.1 = x.2.1
  | _, _, .nil, x, hx => by cases hx
  | _, _, .cons h t, x, hx => by
    rcases List.mem_cons.mp hx with rfl | hx
    · exact ⟨_, List.mem_cons_self .., h.1, h.2.1⟩
    · obtain ⟨y, hy, e⟩ := NRel.mem t x hx
      exact ⟨y, List.mem_cons_of_mem _ hy, e⟩
/-- what the model has there -/
theorem NDo.dict (I : Inv X pins σ H s) (h : NDo X.prog X.w X.K H d o F) : ∃ kvs xs, toF kvs = F ∧ NRel kvs xs ∧ kvs.length ≤ sizeLine ∧ s.heap.DictOfH (nestedKind X.prog X.w) d xs ∧ (∀ x ∈ kvs, TD X.K H (.ref x.2.1) x.1.data ∧ x.1.depth ≤ 8) := by
  obtain ⟨kvs, h1, h2, h3⟩ := h.ex
  obtain ⟨xs, es, ep, r, hc, hd, he, hn⟩ := h1.ex
  refine ⟨kvs, xs, h2, r, h1.len, ⟨o, es, ep, pinO_at I.hok h.at_, hc, hd, he, fun x hx => ?_, hn⟩, h3⟩
  obtain ⟨y, hy, e1, e2⟩ := NRel.mem r x hx
  rw [← e1, ← e2]
  exact nkey I (h3 y hy).1 (h3 y hy).2
end
theorem NRel.val {kvs : List (NestedKey × Addr × V)} {xs : List (NestedKey × Addr × Value)} (r : NRel kvs xs) (k : NestedKey) : RelO (valV (toF kvs) k) ((atKey xs k).map (·.2)) := by
  induction r with
  | nil => exact True.intro
  | @cons p q ps qs h t ih =>
    obtain ⟨h1, _, h2⟩ := h
    have e0 : toF (p :: ps) = (p.1, p.2.2) :: toF ps := rfl
    rw [e0]
    by_cases e : p.1 = k
    · have e' : q.1 = k := h1.symm.trans e
      have b : atKey (q :: qs) k = some q.2 := by simp [atKey, List.find?_cons, e']
      rw [valV_pos e, b]; exact h2
    · have e' : ¬ q.1 = k := fun z => e (h1.trans z)
      have b : atKey (q :: qs) k = atKey qs k := by simp [atKey, List.find?_cons, e']
      rw [valV_neg e, b]; exact ih
/-- the list with its addresses behind a store -/
def putA (kvs : List (NestedKey × Addr × V)) (k : NestedKey) (a : Addr) (v : V) : List (NestedKey × Addr × V) :=
  if (valV (toF kvs) k).isSome = true then kvs.map (fun x => if x.1 = k then (x.1, x.2.1, v) else x) else kvs ++ [(k, a, v)]
theorem NRel.repl {kvs : List (NestedKey × Addr × V)} {xs : List (NestedKey × Addr × Value)} (r : NRel kvs xs) (k : NestedKey) {y : V} {u : Value} (ry : RelV y u) :
    NRel (kvs.map fun x => if x.1 = k then (x.1, x.2.1, y) else x) (xs.map (putAt k u)) := by
  induction r with
  | nil => exact .nil
  | @cons p q ps qs h t ih =>
    rw [List.map_cons, List.map_cons]
    refine .cons ?_ ih
    obtain ⟨h1, h2, h3⟩ := h
    unfold putAt
    by_cases e : p.1 = k
    · rw [if_pos e, if_pos (h1.symm.trans e)]; exact ⟨h1, h2, ry⟩
    · rw [if_neg e, if_neg (fun z => e (h1.trans z))]; exact ⟨h1, h2, h3⟩
theorem NRel.put {kvs : List (NestedKey × Addr × V)} {xs : List (NestedKey × Addr × Value)} (r : NRel kvs xs) (k : NestedKey) {b : Addr} {y : V} {u : Value} (ry : RelV y u) : NRel (putA kvs k b y) (storedH xs k b u) := by
  have e : (valV (toF kvs) k).isSome = (atKey xs k).isSome := by rw [(r.val k).isSome_eq, Option.isSome_map]
  unfold putA storedH
  rw [e]
  by_cases q : (atKey xs k).isSome = true
  · rw [if_pos q, if_pos q]; exact r.repl k ry
  · rw [if_neg q, if_neg q]; exact Paired.snoc r ⟨rfl, rfl, ry⟩
theorem toF_put (kvs : List (NestedKey × Addr × V)) (k : NestedKey) (b : Addr) (y : V) : toF (putA kvs k b y) = putK (toF kvs) k y := by
  unfold putA putK
  rw [valV_any]
  split
  · unfold toF
    rw [List.map_map, List.map_map]
    refine List.map_congr_left fun x _ => ?_
    show _ = if x.1 = k then (x.1, y) else (x.1, x.2.2)
    by_cases e : x.1 = k
    · simp [e]
    · simp [e]
  · unfold toF
    rw [List.map_append]
    rfl
theorem mem_putA {kvs : List (NestedKey × Addr × V)} {k : NestedKey} {b : Addr} {y : V} {p : NestedKey × Addr → Prop} (h : ∀ x ∈ kvs, p (x.1, x.2.1)) (hb : p (k, b)) : ∀ x ∈ putA kvs k b y, p (x.1, x.2.1) := by
  intro x hx
  unfold putA at hx
  split at hx
  · obtain ⟨z, hz, rfl⟩ := List.mem_map.mp hx
    by_cases e : z.1 = k
    · rw [if_pos e]; exact h z hz
    · rw [if_neg e]; exact h z hz
  · rcases List.mem_append.mp hx with hx | hx
    · exact h x hx
    · rw [List.mem_singleton.mp hx]; exact hb
theorem length_putA (kvs : List (NestedKey × Addr × V)) (k : NestedKey) (b : Addr) (y : V) : (putA kvs k b y).length ≤ kvs.length + 1 := by
  unfold putA
  split
  · rw [List.length_map]; omega
  · simp
def dropA (kvs : List (NestedKey × Addr × V)) (k : NestedKey) : List (NestedKey × Addr × V) := kvs.filter fun x => decide (x.1 ≠ k)
theorem NRel.drop {kvs : List (NestedKey × Addr × V)} {xs : List (NestedKey × Addr × Value)} (r : NRel kvs xs) (k : NestedKey) : NRel (dropA kvs k) (withoutH xs k) := by
  induction r with
  | nil => exact .nil
  | @cons p q ps qs h t ih =>
    obtain ⟨h1, h2⟩ := id h
    unfold dropA withoutH
    rw [List.filter_cons, List.filter_cons]
    by_cases e : p.1 = k
    · have e' : q.1 = k := h1.symm.trans e
      rw [if_neg (by simp [e]), if_neg (by simp [e'])]; exact ih
    · have e' : ¬ q.1 = k := fun z => e (h1.trans z)
      rw [if_pos (by simp [e]), if_pos (by simp [e'])]; exact .cons h ih
theorem toF_drop (kvs : List (NestedKey × Addr × V)) (k : NestedKey) : toF (dropA kvs k) = dropK (toF kvs) k := by
  unfold dropA dropK toF
  rw [List.filter_map]
  rfl

section
variable {X : Cx} {pins : List (Addr × Obj)} {σ : L2.St} {H : Hp} {s : Shared} {d a : Addr} {o : Obj} {F : List (NestedKey × V)} {k : NestedKey} {v y : V} {u r : Value} {A : Around} {E : Value → Shared → Prop}
theorem nroom (hu : A.units + 64 < cLine) : (nestedKind X.prog X.w).room A.in1 := by
  show A.units + 1 + 8 < cLine
  omega
/-- a dict's object is replaced by another that holds kvs -/
theorem nd_write {h' : Heap} {t' : Nat} {kvs : List (NestedKey × Addr × V)} {xs : List (NestedKey × Addr × Value)} (I : Inv X pins σ H s) (g : NDo X.prog X.w X.K H d o F) (hs : Heap.SameBut d s.heap h') (dd : h'.DictOfH (nestedKind X.prog X.w) d xs)
    (rel : NRel kvs xs) (hl : kvs.length ≤ sizeLine) (hk : ∀ x ∈ kvs, TD X.K H (.ref x.2.1) x.1.data ∧ x.1.depth ≤ 8) :
    ∃ o', Inv X pins σ (upd H d (pinO d o')) { s with heap := h', toks := t' } ∧ NDo X.prog X.w X.K (upd H d (pinO d o')) d o' (toF kvs) := by
  obtain ⟨o', es, ep, ho, hc, hd, he, _, hn⟩ := dd
  refine ⟨o', I.write (x := d) (e := d) (by rw [g.at_]; exact True.intro) (.inl rfl) (fun b q hb z => (hs.2 b hb).trans z) ⟨o', ho⟩ (pinO_ok ho), ⟨upd_same, ⟨kvs, ⟨⟨xs, es, ep, rel, hc, hd, he, hn⟩, hl⟩, rfl, fun x hx => ⟨(hk x hx).1.up (.put g.at_ pinO_tup), (hk x hx).2⟩⟩, g.low⟩⟩
/-- d[k], there -/
theorem nd_getItem {Q : Value → Shared → Prop} (hu : A.units + 64 < cLine) (I : Inv X pins σ H s) (g : NDo X.prog X.w X.K H d o F) (hk : TD X.K H (.ref a) k.data) (hk8 : k.depth ≤ 8) (hv : valV F k = some v) (h : ∀ w' s', Inv X pins σ H s' → RelV v w' → Q w' s') :
    wpAny (model X.prog X.w) A (getItem (.ref d) (.ref a)) Q E s := by
  obtain ⟨kvs, xs, rfl, rel, hl, dd, _⟩ := g.dict I
  obtain ⟨w', hw, rw'⟩ := RelO.some_of (v := v) (o := (atKey xs k).map (·.2)) (by rw [← hv]; exact rel.val k)
  obtain ⟨p, hp, hp2⟩ := Option.map_eq_some_iff.mp hw
  refine wpAny_getItem_heap (nroom hu) (nkey I hk hk8) dd hp ?_
  rw [hp2]
  exact h w' _ (I.tok _) rw'
theorem nd_in {Q : Value → Shared → Prop} (hu : A.units + 64 < cLine) (I : Inv X pins σ H s) (g : NDo X.prog X.w X.K H d o F) (hk : TD X.K H (.ref a) k.data) (hk8 : k.depth ≤ 8) (h : ∀ s', Inv X pins σ H s' → Q (.bool (valV F k).isSome) s') :
    wpAny (model X.prog X.w) A (compareOp .In (.ref a) (.ref d)) Q E s := by
  obtain ⟨kvs, xs, rfl, rel, hl, dd, _⟩ := g.dict I
  refine wpAny_in_heap (nroom hu) (nkey I hk hk8) g.low dd ?_
  have q := (rel.val k).isSome_eq
  rw [Option.isSome_map] at q
  rw [← q]
  exact h _ (I.tok _)
theorem nd_notIn {Q : Value → Shared → Prop} (hu : A.units + 64 < cLine) (I : Inv X pins σ H s) (g : NDo X.prog X.w X.K H d o F) (hk : TD X.K H (.ref a) k.data) (hk8 : k.depth ≤ 8) (h : ∀ s', Inv X pins σ H s' → Q (.bool (!(valV F k).isSome)) s') :
    wpAny (model X.prog X.w) A (compareOp .NotIn (.ref a) (.ref d)) Q E s := by
  obtain ⟨kvs, xs, rfl, rel, hl, dd, _⟩ := g.dict I
  have q := (rel.val k).isSome_eq
  rw [Option.isSome_map] at q
  refine notIn_keyed (knd := nestedKind X.prog X.w) (nroom hu) (nkey I hk hk8) g.low ⟨xs, dd, rfl⟩ ?_
  rw [valueAt_pairsH, Option.isSome_map, ← q]
  exact h _ (I.tok _)
theorem nd_get2 {Q : Value → Shared → Prop} (hu : A.units + 64 < cLine) (I : Inv X pins σ H s) (g : NDo X.prog X.w X.K H d o F) (hk : TD X.K H (.ref a) k.data) (hk8 : k.depth ≤ 8) (ry : RelV y r) (h : ∀ w' s', Inv X pins σ H s' → RelV ((valV F k).getD y) w' → Q w' s') :
    wpAny (model X.prog X.w) A (call (.builtin "dict.get") [.ref d, .ref a, r]) Q E s := by
  obtain ⟨kvs, xs, rfl, rel, hl, dd, _⟩ := g.dict I
  refine call_meetsIn PySem.F.slot_dict_get dd.typeIs PySem.F.entry_dict_get (PySem.F.args_dict_get_3 _ _ _) (meetsH_dict_get_default (nestedKind X.prog X.w) d a g.low r) ⟨nroom hu, k, xs, nkey I hk hk8, dd, h _ _ (I.tok _) ?_⟩
  exact (rel.val k).getD ry
/-- d[k] = v -/
theorem nd_setItem {Q : Unit → Shared → Prop} (hu : A.units + 64 < cLine) (I : Inv X pins σ H s) (g : NDo X.prog X.w X.K H d o F) (hk : TD X.K H (.ref a) k.data) (hk8 : k.depth ≤ 8) (rv : RelV v r) (hz : F.length < sizeLine)
    (h : ∀ o' s', Inv X pins σ (upd H d (pinO d o')) s' → NDo X.prog X.w X.K (upd H d (pinO d o')) d o' (putK F k v) → Q () s') : wpAny (model X.prog X.w) A (setItem (.ref d) (.ref a) r) Q E s := by
  obtain ⟨kvs, xs, rfl, rel, hl, dd, hks⟩ := g.dict I
  refine wpAny_setItem_heap (hsz := by rw [← Paired.length rel]; exact hl) (nroom hu) (nkey I hk hk8) dd fun h' dd' hs => ?_
  have hz' : kvs.length < sizeLine := by
    unfold toF at hz
    rwa [List.length_map] at hz
  obtain ⟨o', I', g'⟩ := nd_write (t' := s.toks + (nestedKind X.prog X.w).draws k) I g hs dd' (rel.put k rv) (by have := length_putA kvs k a v; omega) (mem_putA (p := fun q => TD X.K H (.ref q.2) q.1.data ∧ q.1.depth ≤ 8) hks ⟨hk, hk8⟩)
  rw [toF_put] at g'
  exact h o' _ I' g'
/-- d.pop(k), there -/
theorem nd_pop {Q : Value → Shared → Prop} (hu : A.units + 64 < cLine) (I : Inv X pins σ H s) (g : NDo X.prog X.w X.K H d o F) (hk : TD X.K H (.ref a) k.data) (hk8 : k.depth ≤ 8) (hv : valV F k = some v)
    (h : ∀ o' w' s', Inv X pins σ (upd H d (pinO d o')) s' → NDo X.prog X.w X.K (upd H d (pinO d o')) d o' (dropK F k) → RelV v w' → Q w' s') : wpAny (model X.prog X.w) A (call (.builtin "dict.pop") [.ref d, .ref a]) Q E s := by
  obtain ⟨kvs, xs, rfl, rel, hl, dd, hks⟩ := g.dict I
  obtain ⟨w', hw, rw'⟩ := RelO.some_of (v := v) (o := (atKey xs k).map (·.2)) (by rw [← hv]; exact rel.val k)
  obtain ⟨p, hp, hp2⟩ := Option.map_eq_some_iff.mp hw
  refine call_pop_heap (more := []) (hsz := by rw [← Paired.length rel]; exact hl) (.inl rfl) (F.args_dict_pop_2 _ _) (nroom hu) (nkey I hk hk8) g.low dd hp fun h' dd' hs => ?_
  obtain ⟨o', I', g'⟩ := nd_write (t' := s.toks + (nestedKind X.prog X.w).draws k) I g hs dd' (rel.drop k) (Nat.le_trans (List.length_filter_le _ _) hl) (fun x hx => hks x (List.mem_filter.mp hx).1)
  rw [toF_drop] at g'
  rw [hp2]
  exact h o' w' _ I' g' rw'
theorem NDo.typeIs (I : Inv X pins σ H s) (g : NDo X.prog X.w X.K H d o F) : s.TypeIs (.ref d) "dict" := by
  obtain ⟨_, _, _, _, _, dd, _⟩ := g.dict I
  exact dd.typeIs
theorem NDo.noDict (I : Inv X pins σ H s) (g : NDo X.prog X.w X.K H d o F) : ∀ b, Value.ref d = .ref b → ∃ ob, s.heap.get? b = some ob ∧ ob.dict = none := fun b q => by
  cases q
  obtain ⟨_, _, _, _, _, dd, _⟩ := g.dict I
  obtain ⟨ob, _, _, h1, h2, _⟩ := dd
  exact ⟨ob, h1, h2.2.1⟩
end
end U
set_option Elab.async false
set_option linter.all false
set_option maxRecDepth 100000
set_option maxHeartbeats 4000000
/-! Rules over the dicts of nested keys: d[k], d.get(k, x), k in d, d[k] = v, d.pop(k), {}, {k: v}, for k in d, dict(d), len(d). -/
namespace U
open PySem PySem.Spec PyProof.Rows L2

/-- y is the key k -/
structure KyAt (K : PySem.W.Frag) (H : Hp) (b : Addr) (k : NestedKey) : Prop where
  td : TD K H (.ref b) k.data
  d8 : k.depth ≤ 8
theorem KyAt.up {K : PySem.W.Frag} {H H' : Hp} {b : Addr} {k : NestedKey} (h : KyAt K H b k) (c : Kp H H') : KyAt K H' b k := ⟨h.td.up c, h.d8⟩
def tNGet (P : Program) (w : World) (K : PySem.W.Frag) (td ty : TE) : TE := fun σ H Q => td σ H fun x H1 => ty σ H1 fun y H2 => ∃ (d : Addr) (o : Obj) (F : List (NestedKey × V)) (k : NestedKey) (b : Addr) (v : V), x = .ref d ∧ y = .ref b ∧ NDo P w K H2 d o F ∧ KyAt K H2 b k ∧ valV F k = some v ∧ Q v H2
def tNGet2 (P : Program) (w : World) (K : PySem.W.Frag) (td ty tx : TE) : TE := fun σ H Q => td σ H fun x H1 => ∃ d, x = .ref d ∧ (∃ o F, NDo P w K H1 d o F) ∧ ty σ H1 fun y H2 => tx σ H2 fun z H3 =>
  ∃ (o : Obj) (F : List (NestedKey × V)) (k : NestedKey) (b : Addr), y = .ref b ∧ NDo P w K H3 d o F ∧ KyAt K H3 b k ∧ Q ((valV F k).getD z) H3
def tNIn (P : Program) (w : World) (K : PySem.W.Frag) (ty td : TE) : TE := fun σ H Q => ty σ H fun y H1 => td σ H1 fun x H2 => ∃ (d : Addr) (o : Obj) (F : List (NestedKey × V)) (k : NestedKey) (b : Addr), x = .ref d ∧ y = .ref b ∧ NDo P w K H2 d o F ∧ KyAt K H2 b k ∧ Q (.bl (valV F k).isSome) H2
def tNNotIn (P : Program) (w : World) (K : PySem.W.Frag) (ty td : TE) : TE := fun σ H Q => ty σ H fun y H1 => td σ H1 fun x H2 => ∃ (d : Addr) (o : Obj) (F : List (NestedKey × V)) (k : NestedKey) (b : Addr), x = .ref d ∧ y = .ref b ∧ NDo P w K H2 d o F ∧ KyAt K H2 b k ∧ Q (.bl (!(valV F k).isSome)) H2
def sNPut (P : Program) (w : World) (K : PySem.W.Frag) (td ty tv : TE) : TS := fun D σ H => tv σ H fun v H1 => td σ H1 fun x H2 => ty σ H2 fun y H3 => ∃ (d : Addr) (o : Obj) (F : List (NestedKey × V)) (k : NestedKey) (b : Addr), x = .ref d ∧ y = .ref b ∧ NDo P w K H3 d o F ∧ KyAt K H3 b k ∧ F.length < sizeLine ∧
  ∀ o', NDo P w K (upd H3 d (pinO d o')) d o' (putK F k v) → D.nx σ (upd H3 d (pinO d o'))
def tNPop (P : Program) (w : World) (K : PySem.W.Frag) (td ty : TE) : TE := fun σ H Q => td σ H fun x H1 => ∃ d, x = .ref d ∧ (∃ o F, NDo P w K H1 d o F) ∧ ty σ H1 fun y H2 =>
  ∃ (o : Obj) (F : List (NestedKey × V)) (k : NestedKey) (b : Addr) (v : V), y = .ref b ∧ NDo P w K H2 d o F ∧ KyAt K H2 b k ∧ valV F k = some v ∧ ∀ o', NDo P w K (upd H2 d (pinO d o')) d o' (dropK F k) → Q v (upd H2 d (pinO d o'))
/-- a new dict's object -/
def emptyD : Obj := { cls := .type "dict", data := .dict #[] }
theorem nd_empty {P : Program} {w : World} {K : PySem.W.Frag} {H : Hp} {p : Addr} (hb : (p == sysModules) = false) : NDo P w K (upd H p (pinO p emptyD)) p emptyD [] :=
  ⟨upd_same, ⟨[], ⟨⟨[], #[], 0, .nil, ⟨rfl, rfl, rfl⟩, rfl, rfl, List.nodup_nil⟩, Nat.zero_le _⟩, rfl, fun _ hx => by cases hx⟩, hb⟩
def tNNew (P : Program) (w : World) (K : PySem.W.Frag) : TE := fun _ H Q => ∀ p, H p = none → NDo P w K (upd H p (pinO p emptyD)) p emptyD [] → Q (.ref p) (upd H p (pinO p emptyD))
/-- {k: v} -/
def tNDisp (P : Program) (w : World) (K : PySem.W.Frag) (tk tv : TE) : TE := fun σ H Q => ∀ p, H p = none → tk σ (upd H p (pinO p emptyD)) fun x H1 => tv σ H1 fun y H2 => H2 p = some (pinO p emptyD) ∧ ∃ (b : Addr) (k : NestedKey), x = .ref b ∧ KyAt K H2 b k ∧
  ∀ o', NDo P w K (upd H2 p (pinO p o')) p o' [(k, y)] → Q (.ref p) (upd H2 p (pinO p o'))
/-- for k in d -/
def ItN (P : Program) (w : World) (K : PySem.W.Frag) (d : Addr) (o : Obj) (F : List (NestedKey × V)) : It :=
  ⟨fun i H => NDo P w K H d o F ∧ i < F.length, fun i H x H' => H' = H ∧ ∃ k v b, F[i]? = some (k, v) ∧ x = .ref b ∧ KyAt K H b k, fun i H => NDo P w K H d o F ∧ F.length ≤ i⟩
def iND (P : Program) (w : World) (K : PySem.W.Frag) (td : TE) : TI := fun σ H R => td σ H fun x H1 => ∃ d o F, x = .ref d ∧ NDo P w K H1 d o F ∧ R (ItN P w K d o F) H1
theorem walk_nd {P : Program} {w : World} {K : PySem.W.Frag} {d : Addr} {o : Obj} {F : List (NestedKey × V)} : Walk (ItN P w K d o F) F.length (fun H => NDo P w K H d o F) (fun i H x H' => H' = H ∧ ∃ k v b, F[i]? = some (k, v) ∧ x = .ref b ∧ KyAt K H b k) :=
  ⟨fun _ _ hi q => ⟨q, hi⟩, fun _ q => ⟨q, Nat.le_refl _⟩, fun _ _ _ _ _ _ y => y⟩
section
variable {X : Cx} {o i e f value : Expr} {pos pos' apos cpos : Pos} {td ty tv tx tk : TE}
theorem pe_nget (hu : X.A.units + 64 < cLine) (ho : PE X o td) (hi : PE X i ty) (hs : NoSl i) : PE X (.Subscript o i pos) (tNGet X.prog X.w X.K td ty) := by
  refine ⟨fun pins s σ H Q I h => ?_⟩
  refine subD_of PySem.F.slot_dict_getitem.lookup hs (thn (ho.run pins s σ H _ I h) fun u s1 ⟨x, H1, I1, rx, q1⟩ => thn (hi.run pins s1 σ H1 _ I1 q1) fun iv s2 ⟨y, H2, I2, ry, d, ob, F, k, b, v, ex, ey, g, hk, hv, q2⟩ => ?_)
  subst ex ey
  obtain rfl : u = Value.ref d := rx
  obtain rfl : iv = Value.ref b := ry
  exact ⟨g.typeIs I2, nd_getItem hu I2 g hk.td hk.d8 hv fun w' s3 I3 rw' => ⟨v, H2, I3, rw', q2⟩⟩
theorem pc_nin (hu : X.A.units + 64 < cLine) (hi : PE X i ty) (ho : PE X o td) : PC X .In i o (tNIn X.prog X.w X.K ty td) := by
  refine ⟨fun pins s σ H Q I h => ?_⟩
  refine thn (hi.run pins s σ H _ I h) fun iv s1 ⟨y, H1, I1, ry, q1⟩ => thn (ho.run pins s1 σ H1 _ I1 q1) fun u s2 ⟨x, H2, I2, rx, d, ob, F, k, b, ex, ey, g, hk, q2⟩ => ?_
  subst ex ey
  obtain rfl : u = Value.ref d := rx
  obtain rfl : iv = Value.ref b := ry
  exact nd_in hu I2 g hk.td hk.d8 fun s3 I3 => ⟨.bl (valV F k).isSome, H2, I3, rfl, q2⟩
theorem pc_nnotin (hu : X.A.units + 64 < cLine) (hi : PE X i ty) (ho : PE X o td) : PC X .NotIn i o (tNNotIn X.prog X.w X.K ty td) := by
  refine ⟨fun pins s σ H Q I h => ?_⟩
  refine thn (hi.run pins s σ H _ I h) fun iv s1 ⟨y, H1, I1, ry, q1⟩ => thn (ho.run pins s1 σ H1 _ I1 q1) fun u s2 ⟨x, H2, I2, rx, d, ob, F, k, b, ex, ey, g, hk, q2⟩ => ?_
  subst ex ey
  obtain rfl : u = Value.ref d := rx
  obtain rfl : iv = Value.ref b := ry
  exact nd_notIn hu I2 g hk.td hk.d8 fun s3 I3 => ⟨.bl (!(valV F k).isSome), H2, I3, rfl, q2⟩
theorem ps_nput (hu : X.A.units + 64 < cLine) (ho : PE X o td) (hi : PE X i ty) (hv : PE X value tv) (hs : swapsWith value (some (.Subscript o i pos')) pos.line X.env = pure false) :
    PS X (.Assign [.Subscript o i pos'] value pos) (sNPut X.prog X.w X.K td ty tv) := by
  refine ⟨fun pins s σ H D I h => ?_⟩
  refine wpAny_Assign_Subscript (thn (hv.run pins s σ H _ I h) fun r s1 ⟨v, H1, I1, rv, q1⟩ => thn (ho.run pins s1 σ H1 _ I1 q1) fun u s2 ⟨x, H2, I2, rx, q2⟩ => thn (hi.run pins s2 σ H2 _ I2 q2) fun iv s3 ⟨y, H3, I3, ry, d, ob, F, k, b, ex, ey, g, hk, hz, q3⟩ => ?_) hs
  subst ex ey
  obtain rfl : u = Value.ref d := rx
  obtain rfl : iv = Value.ref b := ry
  exact nd_setItem hu I3 g hk.td hk.d8 rv hz fun o' s4 I4 g4 => ⟨σ, _, I4, q3 o' g4⟩
theorem pe_nget2 (hu : X.A.units + 64 < cLine) (ho : PE X o td) (he : PE X e ty) (hf : PE X f tx) (m : M2 X o "get" apos e f cpos) : PE X (.Call (.Attribute o "get" apos) [e, f] [] cpos) (tNGet2 X.prog X.w X.K td ty tx) := by
  refine ⟨fun pins s σ H Q I h => ?_⟩
  refine wpAny_Call_method m.base m.few m.line PySem.F.plainAttrs_dict PySem.F.slot_dict_get PySem.F.type_dict_get (thn (ho.run pins s σ H _ I h) fun u s1 ⟨x, H1, I1, rx, d, ex, ⟨o1, F1, g1⟩, q1⟩ => ?_)
  subst ex
  obtain rfl : u = Value.ref d := rx
  refine ⟨g1.typeIs I1, g1.noDict I1, ?_⟩
  rw [m.trees]
  refine Calls.callWith_builtin rfl (Calls.evalArgs_plain (Calls.spliced_cons (thn (he.run pins s1 σ H1 _ I1 q1) fun iv s2 ⟨y, H2, I2, ry, q2⟩ =>
    Calls.spliced_cons (thn (hf.run pins s2 σ H2 _ I2 q2) fun fv s3 ⟨z, H3, I3, rz, ob, F, k, b, ey, g, hk, q3⟩ => Calls.spliced_nil ?_))))
  subst ey
  obtain rfl : iv = Value.ref b := ry
  exact nd_get2 hu I3 g hk.td hk.d8 rz fun w' s4 I4 rw' => ⟨_, H3, I4, rw', q3⟩
theorem pe_npop (hu : X.A.units + 64 < cLine) (ho : PE X o td) (he : PE X e ty) (m : M1 X o "pop" apos e cpos) : PE X (.Call (.Attribute o "pop" apos) [e] [] cpos) (tNPop X.prog X.w X.K td ty) := by
  refine ⟨fun pins s σ H Q I h => ?_⟩
  refine wpAny_Call_method m.base m.few m.line PySem.F.plainAttrs_dict PySem.F.slot_dict_pop PySem.F.type_dict_pop (thn (ho.run pins s σ H _ I h) fun u s1 ⟨x, H1, I1, rx, d, ex, ⟨o1, F1, g1⟩, q1⟩ => ?_)
  subst ex
  obtain rfl : u = Value.ref d := rx
  refine ⟨g1.typeIs I1, g1.noDict I1, ?_⟩
  rw [m.trees]
  refine Calls.callWith_builtin rfl (Calls.evalArgs_plain (Calls.spliced_cons (thn (he.run pins s1 σ H1 _ I1 q1) fun iv s2 ⟨y, H2, I2, ry, ob, F, k, b, v, ey, g, hk, hv, q2⟩ => Calls.spliced_nil ?_)))
  subst ey
  obtain rfl : iv = Value.ref b := ry
  exact nd_pop hu I2 g hk.td hk.d8 hv fun o' w' s3 I3 g3 rw' => ⟨v, _, I3, rw', q2 o' g3⟩
theorem low_new {pins : List (Addr × Obj)} {σ : L2.St} {H : Hp} {s : Shared} (I : Inv X pins σ H s) : (s.heap.objs.size == sysModules) = false := beq_eq_false_iff_ne.mpr (Ne.symm (Nat.ne_of_lt I.big))
theorem pe_nnew : PE X (.Dict [] [] pos) (tNNew X.prog X.w X.K) := ⟨fun pins s σ H Q I h =>
  wpAny_Dict_empty ⟨.ref s.heap.objs.size, _, I.laid (a := s.heap.objs.size) (o := pinO s.heap.objs.size emptyD) (t' := s.toks) (fun _ _ q => Heap.get?_push_of_some _ q) (Nat.le_refl _) (pinO_ok (Heap.get?_push_size _ rfl)), rfl, h _ (I.hok.fresh (Nat.le_refl _)) (nd_empty (low_new I))⟩⟩
theorem pe_ndisp (hu : X.A.units + 64 < cLine) (hk : PE X e tk) (hv : PE X value tv) : PE X (.Dict [some e] [value] pos) (tNDisp X.prog X.w X.K tk tv) := by
  refine ⟨fun pins s σ H Q I q => ?_⟩
  have hn := I.hok.fresh (Nat.le_refl s.heap.objs.size)
  have lo := low_new I
  have I1 : Inv X pins σ (upd H s.heap.objs.size (pinO s.heap.objs.size emptyD)) { s with heap := s.heap.push { cls := .type "dict", data := .dict #[] } } :=
    I.laid (t' := s.toks) (fun _ _ q => Heap.get?_push_of_some _ q) (Nat.le_refl _) (pinO_ok (Heap.get?_push_size _ rfl))
  have rk := (pps_cons (pos := pos) hk hv pps_nil).run pins _ σ _ (fun ps H2 => match ps with
    | [(x, y)] => H2 s.heap.objs.size = some (pinO s.heap.objs.size emptyD) ∧ ∃ (b : Addr) (k : NestedKey), x = .ref b ∧ KyAt X.K H2 b k ∧
        ∀ o', NDo X.prog X.w X.K (upd H2 s.heap.objs.size (pinO s.heap.objs.size o')) s.heap.objs.size o' [(k, y)] → Q (.ref s.heap.objs.size) (upd H2 s.heap.objs.size (pinO s.heap.objs.size o'))
    | _ => False) I1 (q _ hn)
  have hu2 : (nestedKind X.prog X.w).room X.A := by
    show X.A.units + 8 < cLine
    omega
  have hn1 := pairTrees_length [some e] [value] X.env pos rfl rfl
  rw [arm_eval_Dict, zip_pairTrees [some e] [value] X.env pos rfl rfl, dictDisplay_pairs _ (fun z => by rw [z] at hn1; cases hn1) (by rw [hn1]; show 1 < 17; omega)]
  refine wpAny_bind (wpAny_standAt (wpAny_bind (wpAny_subDictH (knd := nestedKind X.prog X.w) (Q := fun d s' => wpAny (model X.prog X.w) X.A (pure (Value.ref d)) (EP X pins σ Q) X.xe s') hu2 (by rw [hn1]; show 1 ≤ 15; omega) (wpAny_mono rk (fun vs s2 h2 => ?_) fun _ _ z => z))))
  obtain ⟨ps, H2, I2, rel, q2⟩ := h2
  cases rel with
  | nil => exact q2.elim
  | @cons p v ps vs r1 r2 =>
    cases r2 with
    | cons _ _ => exact q2.elim
    | nil =>
      obtain ⟨x, y⟩ := p
      obtain ⟨xv, yv⟩ := v
      obtain ⟨e0, b, k, ex, hkb, q2⟩ := q2
      subst ex
      obtain ⟨rx, ry⟩ := r1
      obtain rfl : xv = Value.ref b := rx
      have g0 : NDo X.prog X.w X.K H2 s.heap.objs.size emptyD [] := ⟨e0, ⟨[], ⟨⟨[], #[], 0, .nil, ⟨rfl, rfl, rfl⟩, rfl, rfl, List.nodup_nil⟩, Nat.zero_le _⟩, rfl, fun _ hx => by cases hx⟩, lo⟩
      obtain ⟨kvs0, xs0, ef0, rel0, _, dd0, _⟩ := g0.dict I2
      have ek : kvs0 = [] := by
        cases kvs0 with
        | nil => rfl
        | cons _ _ => cases ef0
      subst ek
      cases rel0
      refine ⟨[(k, b, yv)], ⟨rfl, rfl, nkey I2 hkb.td hkb.d8, trivial⟩, dd0, fun h' tk dd' hs => ?_⟩
      have es : storedAllH [] [(k, b, yv)] = [(k, b, yv)] := rfl
      rw [es] at dd'
      obtain ⟨o', I3, g3⟩ := nd_write (t' := tk) (kvs := [(k, b, y)]) I2 g0 hs dd' (.cons ⟨rfl, rfl, ry⟩ .nil) (by show 1 ≤ sizeLine; decide) (fun z hz => by
        rw [List.mem_singleton.mp hz]
        exact ⟨hkb.td, hkb.d8⟩)
      exact wpAny_pure ⟨.ref s.heap.objs.size, _, I3, rfl, q2 o' g3⟩
theorem turn_nd {P : Program} {w : World} {K : PySem.W.Frag} {tg : Expr} {d : Addr} {o : Obj} {F : List (NestedKey × V)} {es : Array DictEntry} {ep : Nat} (it : Addr) (hod : o.data = .dict es ep) : Turn P w K tg (ItN P w K d o F) [it] it (fun i h => h.IsKeyIter it d i F.length ep) where
  mem := by simp
  obj := fun i h st b hb => by
    have e : b = it := by simpa using hb
    subst e
    obtain ⟨oi, e, c, dd⟩ := st
    exact ⟨oi, e, fun v z => by rw [dd] at z; cases z⟩
  keep := fun i h h' st k => st.at fun oi e => k it (by simp) oi e
  item := by
    intro X hP hw hK hc i pins s σ H E I hf st hg
    subst hP hw hK
    obtain ⟨g, hi⟩ := hg
    obtain ⟨f0, f1, f2, f3, f4, f5⟩ := hf it (by simp)
    obtain ⟨kvs, hO, eF, hks⟩ := g.ex
    obtain ⟨xs, es', ep', rel, hcc, hdt, he, hn⟩ := hO.ex
    obtain ⟨rfl, rfl⟩ := dict_ep hod hdt
    have hgd := pinO_at I.hok g.at_
    have lF : F.length = kvs.length := by rw [← eF]; unfold toF; rw [List.length_map]
    have lX : kvs.length = xs.length := Paired.length rel
    have lE : es'.size = xs.length := size_of_entries he
    have hik : i < kvs.length := by omega
    obtain ⟨x, hx⟩ : ∃ x, kvs[i]? = some x := ⟨kvs[i], List.getElem?_eq_getElem hik⟩
    obtain ⟨y, hy, e1, e2, _⟩ := paired_get rel hx
    have hen := entry_at he i
    rw [hy] at hen
    have hFi : F[i]? = some (x.1, x.2.2) := by rw [← eF]; unfold toF; rw [List.getElem?_map, hx]; rfl
    have hm := hks x (List.mem_of_getElem? hx)
    refine next_key_item st hgd hdt (by omega) hen fun h' st' sb => ?_
    have I1 : Inv X pins σ H { s with heap := h' } := I.turned (t' := s.toks) (fun b ob hb e => (sb.2 b hb).trans e) f0 f1 f3 f4 f5
    obtain ⟨oi, e, c, dd⟩ := id st'
    refine ⟨_, rfl, go_of (s := { s with heap := h' }) e c dd (by decide) ⟨.ref x.2.1, H, I1, ?_, ⟨rfl, x.1, x.2.2, x.2.1, hFi, rfl, ⟨hm.1, hm.2⟩⟩, st', fun b hb => (hf b hb).1⟩⟩
    show _ = Value.ref x.2.1
    rw [e2]
    rfl
  done := by
    intro X hP hw hK hc i pins s σ H E I hf st hg
    subst hP hw hK
    obtain ⟨g, hi⟩ := hg
    obtain ⟨f0, f1, f2, f3, f4, f5⟩ := hf it (by simp)
    obtain ⟨kvs, hO, eF, hks⟩ := g.ex
    obtain ⟨xs, es', ep', rel, hcc, hdt, he, hn⟩ := hO.ex
    obtain ⟨rfl, rfl⟩ := dict_ep hod hdt
    have lF : F.length = kvs.length := by rw [← eF]; unfold toF; rw [List.length_map]
    have lX : kvs.length = xs.length := Paired.length rel
    have lE : es'.size = xs.length := size_of_entries he
    exact next_key_end (I.ok.hd hc) st (pinO_at I.hok g.at_) hdt (by omega) hi fun h' eb => ⟨rfl, I.turned (t' := s.toks) (fun b ob hb e => eb b ob hb e) f0 f1 f3 f4 f5⟩
  self := fun A i s Q E st h => wpAny_pyIter_keyiter st h
theorem pi_nd {tg : Expr} (he : PE X e td) : PI X tg e (iND X.prog X.w X.K td) := by
  refine ⟨fun pins s σ H R I h => ?_⟩
  refine thn (he.run pins s σ H _ I h) fun u s1 ⟨x, H1, I1, rx, d, o, F, ex, g, q⟩ => ?_
  subst ex
  obtain rfl : u = Value.ref d := rx
  obtain ⟨kvs, hO, eF, hks⟩ := g.ex
  obtain ⟨xs, es, ep, rel, hcc, hdt, he, hn⟩ := hO.ex
  have lF : F.length = kvs.length := by rw [← eF]; unfold toF; rw [List.length_map]
  have lX : kvs.length = xs.length := Paired.length rel
  have lE : es.size = xs.length := size_of_entries he
  have e1 : es.size = F.length := by omega
  refine iter_keys g.low (pinO_at I1.hok g.at_) hcc hdt (pi_one (tk := s1.toks) I1 _ (turn_nd _ hdt) ⟨_, Heap.get?_push_size _ rfl, rfl, ?_⟩ q)
  rw [e1] <;> rfl
/-- len(d) -/
theorem call_lenN : CallR X (.builtin "len") (fun xs H Q => ∃ d o F, xs = [.ref d] ∧ NDo X.prog X.w X.K H d o F ∧ Q (.int F.length) H) := by
  intro pins s σ H vs us Q I r h
  obtain ⟨d, o, F, rfl, g, q⟩ := h
  obtain ⟨u, rfl, ru⟩ := vals1 r
  cases ru
  obtain ⟨kvs, xs, eF, rel, hl, dd, _⟩ := g.dict I
  have lF : F.length = kvs.length := by rw [← eF]; unfold toF; rw [List.length_map]
  have lX : kvs.length = xs.length := Paired.length rel
  refine PyProof.Rows.call_len_slot (n := xs.length) dd.typeIs PySem.F.slot_dict_len (fun Q' hq => len_keyed (knd := nestedKind X.prog X.w) (kvs := pairsH xs) g.low ⟨xs, dd, rfl⟩ (by rw [pairsH_length]; exact hq)) (by omega) (by rw [sizeLine_eq] at hl; omega) ?_
  rw [← lX, ← lF]
  exact ⟨.int F.length, H, I.tok _, ⟨_, rfl⟩, q⟩
end
end U
set_option Elab.async false
set_option linter.all false
set_option maxRecDepth 100000
set_option maxHeartbeats 4000000
/-! dict(d), dict(pairs) of nested keys. -/
namespace U
open PySem PySem.Spec PyProof.Rows L2
section
variable {X : Cx} {pins : List (Addr × Obj)} {σ : L2.St} {H : Hp} {s : Shared}
/-- a new dict at the end of the heap -/
theorem nd_laid {h' : Heap} {t' : Nat} {kvs : List (NestedKey × Addr × V)} {xs : List (NestedKey × Addr × Value)} (I : Inv X pins σ H s) (k : ∀ b u, s.heap.get? b = some u → h'.get? b = some u) (dd : h'.DictOfH (nestedKind X.prog X.w) s.heap.objs.size xs)
    (rel : NRel kvs xs) (hl : kvs.length ≤ sizeLine) (hk : ∀ x ∈ kvs, TD X.K H (.ref x.2.1) x.1.data ∧ x.1.depth ≤ 8) :
    ∃ o', Inv X pins σ (upd H s.heap.objs.size (pinO s.heap.objs.size o')) { s with heap := h', toks := t' } ∧ NDo X.prog X.w X.K (upd H s.heap.objs.size (pinO s.heap.objs.size o')) s.heap.objs.size o' (toF kvs) := by
  obtain ⟨o', es, ep, ho, hc, hd, he, _, hn⟩ := dd
  have hp := I.hok.fresh (Nat.le_refl s.heap.objs.size)
  exact ⟨o', I.laid (t' := t') k (Nat.le_refl _) (pinO_ok ho), ⟨upd_same, ⟨kvs, ⟨⟨xs, es, ep, rel, hc, hd, he, hn⟩, hl⟩, rfl, fun x hx => ⟨(hk x hx).1.up (.new hp), (hk x hx).2⟩⟩, low_new I⟩⟩
end
theorem hash_keys {w : World} {kvs : List (NestedKey × Addr × V)} {xs : List (NestedKey × Addr × Value)} (r : NRel kvs xs) : (xs.map fun x => x.1.hash w) = (toF kvs).map fun p => p.1.hash w := by
  induction r with
  | nil => rfl
  | cons h _ ih =>
    rw [List.map_cons, ih, ← h.1]
    rfl
section
variable {X : Cx}
theorem call_dictN (hu : X.A.units + 65 < cLine) : CallR X (.type "dict") (fun xs H Q => ∃ a o F, xs = [.ref a] ∧ NDo X.prog X.w X.K H a o F ∧ (F.map fun p => p.1.hash X.w).Nodup ∧ ∀ p o', H p = none → NDo X.prog X.w X.K (upd H p (pinO p o')) p o' F → Q (.ref p) (upd H p (pinO p o'))) := by
  intro pins s σ H vs us Q I r h
  obtain ⟨a, o, F, rfl, g, hh, q⟩ := h
  obtain ⟨u, rfl, ru⟩ := vals1 r
  cases ru
  refine callType_codes (Q₁ := fun obj s₁ => obj = .ref s.heap.objs.size ∧ s₁ = { s with heap := s.heap.push { cls := .type "dict", data := .dict #[] } }) PySem.F.kt_called_dict (PySem.F.kt_typeCall_dict_1 _) PySem.F.entry_dict_init (kt_code_dict_new _ ⟨rfl, rfl⟩) ?_
  rintro obj s₁ ⟨rfl, rfl⟩
  have I2 : Inv X pins σ H { s with heap := s.heap.push { cls := .type "dict", data := .dict #[] } } := I.kept (t' := s.toks) fun b ob q => Heap.get?_push_of_some _ q
  obtain ⟨kvs, xs, eF, rel, hl, dd, hks⟩ := g.dict I2
  have hnew : (s.heap.push { cls := .type "dict", data := .dict #[] }).DictOfH (nestedKind X.prog X.w) s.heap.objs.size [] := Heap.DictOfH.new s.heap
  have hal : a < s.heap.objs.size := I.hok.lt g.at_
  refine ⟨hnew.typeIs, PySem.F.args_dict_init_2 _ _, ?_⟩
  unfold Builtin.«dict.__init__»
  refine wpAny_bind ?_
  unfold Builtin.Dict.selfAndRest
  refine wpAny_bind (wpAny_notOrdered_dict hnew.typeIs ?_)
  show wpAny _ _ (pure (s.heap.objs.size, [Value.ref a])) _ _ _
  refine wpAny_pure ?_
  show wpAny _ _ (Builtin.Dict.updateFrom "dict.__init__" s.heap.objs.size (.ref a) [] .none) _ _ _
  unfold Builtin.Dict.updateFrom
  refine wpAny_bind (wpAny_typeOf dd.typeIs ?_)
  rw [if_neg (by decide)]
  refine wpAny_bind ?_
  unfold Builtin.Dict.merge
  refine wpAny_bind ?_
  unfold Builtin.Dict.readDirectly
  refine wpAny_bind (wpAny_isInstance dd.typeIs isSubtype_dict_dict ?_)
  simp only [Bool.not_true, Bool.false_eq_true, if_false]
  refine wpAny_bind (wpAny_specialOf dd.typeIs PySem.F.slot_dict_iter.lookup (wpAny_pure ?_))
  simp only [beq_self_eq_true, if_true]
  refine wpAny_bind (wpAny_pure ?_)
  have hz : xs.length ≤ sizeLine := by rw [← Paired.length rel]; exact hl
  refine wpAny_mergeDict_heap (knd := nestedKind X.prog X.w) (hsz := by simpa using hz) (nroom (A := X.A.in1) (by show X.A.units + 1 + 64 < cLine; omega)) (Nat.ne_of_gt hal) g.low hnew dd (.inr ⟨keyed_apart nestedKind_stays dd, by
    show (xs.map fun x => x.1.hash X.w).Nodup
    rw [hash_keys rel, eF]
    exact hh⟩) fun h' hd' _ hs' => ?_
  show wpAny _ _ (Builtin.Dict.addKeywords s.heap.objs.size [] >>= _) _ _ _
  rw [storedAllH_nil_of_nodup xs dd.nodup] at hd'
  obtain ⟨o', I3, g3⟩ := nd_laid (t' := s.toks) I (fun b ob e => (hs'.2 b (Nat.ne_of_lt (Heap.lt_size e))).trans (Heap.get?_push_of_some _ e)) hd' rel hl hks
  rw [eF] at g3
  exact wpAny_bind (wpAny_pure (wpAny_pure ⟨rfl, .ref s.heap.objs.size, _, I3, rfl, q _ o' (I.hok.fresh (Nat.le_refl _)) g3⟩))
theorem npairs_of {pins : List (Addr × Obj)} {σ : L2.St} {H : Hp} {s : Shared} (I : Inv X pins σ H s) : ∀ {ps : List Addr} {kvs : List (NestedKey × Addr × V)}, Paired (fun p x => Tq X.K H p [.ref x.2.1, x.2.2] ∧ KyAt X.K H x.2.1 x.1) ps kvs →
    ∃ xs : List (NestedKey × Addr × Value), NRel kvs xs ∧ xs.length = ps.length ∧ ∀ (j : Nat) (q : NestedKey × Addr × Value), xs[j]? = some q → ∃ b : Addr, ps[j]? = some b ∧ IsTup s.heap b #[.ref q.2.1, q.2.2]
  | _, _, .nil => ⟨[], .nil, rfl, fun j q e => by simp at e⟩
  | _, _, .cons (a := p) (b := kv) h t => by
    obtain ⟨prs, r, hl, hp⟩ := npairs_of I t
    obtain ⟨its, rv, ht, _⟩ := I.tuple h.1.sq
    obtain ⟨u, y, ei, ru, ry⟩ := vals2 rv
    subst ei
    cases ru
    refine ⟨(kv.1, kv.2.1, y) :: prs, .cons ⟨rfl, rfl, ry⟩ r, by rw [List.length_cons, List.length_cons, hl], fun j q e => ?_⟩
    cases j with
    | zero =>
      have e' : (kv.1, kv.2.1, y) = q := Option.some.inj e
      subst e'
      exact ⟨p, rfl, ht⟩
    | succ j =>
      obtain ⟨b, e1, e2⟩ := hp j q (by simpa using e)
      exact ⟨b, by simpa using e1, e2⟩
theorem call_dictNP (hu : X.A.units + 65 < cLine) (hcalm : X.calm = true) : CallR X (.type "dict") (fun xs H Q => ∃ (a : Addr) (ps : List Addr) (kvs : List (NestedKey × Addr × V)), xs = [.ref a] ∧ H a = some (.lst (ps.map V.ref)) ∧
    Paired (fun p x => Tq X.K H p [.ref x.2.1, x.2.2] ∧ KyAt X.K H x.2.1 x.1) ps kvs ∧ (kvs.map (·.1)).Nodup ∧ ∀ p o', H p = none → NDo X.prog X.w X.K (upd H p (pinO p o')) p o' (toF kvs) → Q (.ref p) (upd H p (pinO p o'))) := by
  intro pins s σ H vs us Q I r h
  obtain ⟨a, ps, kvs, rfl, hq, hp, hn, q⟩ := h
  obtain ⟨u, rfl, ru⟩ := vals1 r
  cases ru
  obtain ⟨its, rv, pl, hz⟩ := I.list (.of hq)
  have ei := refs_at rv
  subst ei
  rw [List.length_map] at hz
  obtain ⟨xs, rel, hl, hpr⟩ := npairs_of I hp
  obtain ⟨o, n, ho, hc, hd, hdat⟩ := pl
  have hks : ∀ x ∈ kvs, TD X.K H (.ref x.2.1) x.1.data ∧ x.1.depth ≤ 8 := by
    clear rel hn q hpr hl hq rv ho hdat hz
    induction hp with
    | nil => intro x hx; cases hx
    | cons h _ ih =>
      intro x hx
      rcases List.mem_cons.mp hx with rfl | hx
      · exact ⟨h.2.td, h.2.d8⟩
      · exact ih x hx
  have room : (nestedKind X.prog X.w).room X.A.in1.in1 := by
    show X.A.units + 1 + 1 + 8 < cLine
    omega
  have lk : kvs.length = xs.length := Paired.length rel
  have hz' : kvs.length ≤ sizeLine := by omega
  have isk : ∀ x ∈ xs, (nestedKind X.prog X.w).is s.heap x.1 x.2.1 := fun x hx => by
    obtain ⟨y, hy, e1, e2⟩ := NRel.mem rel x hx
    rw [← e1, ← e2]
    exact nkey I (hks y hy).1 (hks y hy).2
  refine call_dict_pairsH (knd := nestedKind X.prog X.w) (ps := xs) (PairArg.list a (ps.map Value.ref).toArray (fun j => ps.getD j 0) (xs.map fun x => (Value.ref x.2.1, x.2.2))) (I.ok.hd hcalm) room ⟨⟨o, n, ho, hc, hd, hdat⟩, ⟨by simp [hl], fun j k v e => ?_⟩⟩ ⟨by simp, fun i key v e => ?_⟩ (fun h' hk x hx => nestedKind_stays.stays (fun b ob vs n' hb _ => hk b ob (Nat.ne_of_lt (Heap.lt_size hb)) (by simp) hb) (isk x hx)) (by rw [List.length_map, ← lk]; exact hz') fun h' tk dd' k => ?_
  · rw [List.getElem?_map] at e
    obtain ⟨x, hx, ex⟩ := Option.map_eq_some_iff.mp e
    cases ex
    obtain ⟨b, e1, e2⟩ := hpr j x hx
    refine ⟨?_, .inl ?_⟩
    · simp [e1]
    · have eg : ps.getD j 0 = b := by simp [List.getD, e1]
      show s.heap.IsTuple (ps.getD j 0) _
      rw [eg]
      exact e2
  · rw [PairRel, List.getElem?_map] at e
    obtain ⟨x, hx, ex⟩ := Option.map_eq_some_iff.mp e
    cases ex
    exact ⟨x.1, x.2.1, hx, rfl⟩
  · rw [storedAllH_nil_of_nodup xs (by rw [← NRel.keys rel]; exact hn)] at dd'
    obtain ⟨o', I3, g3⟩ := nd_laid (t' := tk) I (fun b ob e => k b ob (by simp) e) dd' rel hz' hks
    exact ⟨.ref s.heap.objs.size, _, I3, rfl, q _ o' (I.hok.fresh (Nat.le_refl _)) g3⟩
end
end U
set_option Elab.async false
set_option linter.all false
set_option maxRecDepth 100000
set_option maxHeartbeats 4000000
/-! Sorting tuples among which there may be the empty one; sorted of a dict of nested keys, of a tuple. -/
namespace U
open PySem PySem.W PySem.Calls PyProof.Rows PySem.SeqAt

section
variable {A : Around} {s : Shared}
theorem call_tuple_lt {prog : Program} {w : World} {E : Value → Shared → Prop} {Q : Value → Shared → Prop} {l b : Addr} {items items2 : Array Value} {e r : Nat → Bool} (hl : s.heap.IsTuple l items) (hb : s.heap.IsTuple b items2)
    (he : ∀ j (h1 : j < items.size) (h2 : j < items2.size), EqAt A.in1 s items[j] items2[j] (e j)) (hr : ∀ j (h1 : j < items.size) (h2 : j < items2.size), e j = false → RcLt A.in1 s items[j] items2[j] (r j))
    (h : Q (.bool (firstLt e r (decide (items.size < items2.size)) (List.range (min items.size items2.size)))) s) : wpAny (model prog w) A (call (.builtin "tuple.__lt__") [.ref l, .ref b]) Q E s := by
  obtain ⟨⟨cls, dd, data, sl⟩, ho, hc, n, hd⟩ := id hl
  obtain ⟨⟨cls2, dd2, data2, sl2⟩, ho2, hc2, n2, hd2⟩ := id hb
  simp only at hc hd hc2 hd2
  subst hc hd hc2 hd2
  exact call_meets PySem.F.slot_tuple_lt ⟨_, ho, rfl⟩ PySem.F.entry_tuple_lt (PySem.F.args_tuple_lt_2 _ _) (tuple_ltAt l b items items2 n n2 dd dd2 sl sl2 e r) ⟨ho, ho2, he, hr, h⟩
theorem oneLt_tup {prog : Program} {w : World} {E : Value → Shared → Prop} {xs ys : List PyData} {a b : Value} {as bs : List Addr} {Q : Bool → Shared → Prop} (ra : Reads s.heap a (.tuple xs) as) (rb : Reads s.heap b (.tuple ys) bs) (hal : alikeAll xs ys = true)
    (hu : A.units + min (PyData.tuple xs).depth (PyData.tuple ys).depth < cLine) (hq : Q (dataLt (.tuple xs) (.tuple ys)) s) : wpAny (model prog w) A (oneLt' true a b) Q E s := by
  cases ra with
  | @tuple l o vs n _ as₁ h1 h2 h3 h4 =>
    cases rb with
    | @tuple l' o' vs' n' _ bs₁ k1 k2 k3 k4 =>
      have n1 : vs.size = xs.length := by simpa using ReadsAll.length _ _ _ h4
      have n2 : vs'.size = ys.length := by simpa using ReadsAll.length _ _ _ k4
      rw [dataLt_tuple, ← firstLt_toks xs ys hal, ← n1, ← n2] at hq
      rw [oneLt'_eq]
      simp only [if_true]
      refine wpAny_bind (wpAny_cRoomFor (room_here hu) ?_)
      refine wpAny_bind (wpAny_callSpecialIfBound?_slot (T := "tuple") ⟨_, h1, h2⟩ PySem.F.slot_tuple_lt (call_tuple_lt (e := pairEq xs ys) (r := fun j => dataLt (xs.getD j .none) (ys.getD j .none)) ⟨_, h1, h2, _, h3⟩ ⟨_, k1, k2, _, k3⟩ (fun j j1 j2 => ?_) (fun j j1 j2 hj => ?_) ?_))
      · have := eqAt_alikeAll xs ys A.in1 s vs.toList vs'.toList _ _ h4 k4 hal (room_in hu) j (by simpa using j1) (by simpa using j2)
        simpa using this
      · have := rcLt_alikeAll xs ys A.in1 s vs.toList vs'.toList _ _ h4 k4 hal (room_in hu) j (by simpa using j1) (by simpa using j2) hj
        simpa using this
      · exact wpAny_truthy_bool hq
end
def isNE : PyData → Bool
  | .tuple (_ :: _) => true
  | _ => false
section
variable {M : Model} {A : Around} {E : Value → Shared → Prop} {s : Shared}
/-- the first items of tuples -/
theorem mx_firsts : ∀ {vs : List Value} {ds : List PyData}, EachIs (fun v d => ∃ as, Reads s.heap v d as) vs ds → (∀ d ∈ ds, ∃ xs, d = .tuple xs) →
    ∃ fs : List (Option Value), fs.map (·.isSome) = ds.map isNE ∧ ∀ {Q : List (Option Value) → Shared → Prop}, Q fs s → wpAny M A (vs.mapM firstOfTuple') Q E s
  | _, _, .nil, _ => ⟨[], rfl, fun h => by rw [List.mapM_nil]; exact wpAny_pure h⟩
  | _, _, .cons (a := v) (b := d) ⟨as, r⟩ t, ht => by
    obtain ⟨fs, h1, h2⟩ := mx_firsts t fun d hd => ht d (List.mem_cons_of_mem _ hd)
    obtain ⟨xs, rfl⟩ := ht d (List.mem_cons_self ..)
    cases r with
    | @tuple a o vs n _ _ ho hc hd hr =>
      refine ⟨vs[0]? :: fs, ?_, fun {Q} h => ?_⟩
      · rw [List.map_cons, List.map_cons, h1]
        congr 1
        have hl : vs.size = xs.length := by simpa using ReadsAll.length _ _ _ hr
        cases xs with
        | nil =>
          have : vs[0]? = none := Array.getElem?_eq_none (by rw [hl]; exact Nat.le_refl _)
          rw [this]; rfl
        | cons x xs =>
          have : vs[0]? = some (vs[0]'(by rw [hl]; exact Nat.succ_pos _)) := Array.getElem?_eq_getElem _
          rw [this]; rfl
      · rw [List.mapM_cons]
        refine wpAny_bind ?_
        rw [kas_first_eq]
        refine wpAny_bind (Looks.here (show Looks M s.heap (typeOf (.ref a)) o.cls from (Looks.ld ho).andThen .now) ?_)
        rw [hc, if_neg (by first | decide | simp)]
        refine wpAny_bind (listItems_at ho hd (wpAny_pure ?_))
        exact wpAny_bind (h2 (Q := fun bs s' => wpAny M A (pure (vs[0]? :: bs)) Q E s') (wpAny_pure h))
end
section
variable {prog : Program} {w : World} {A : Around} {s : Shared}
theorem sorts_tups {vs : List Value} {ds : List PyData} (e : EachIs (fun v d => ∃ as, Reads s.heap v d as) vs ds) (hal : AllAlike ds) (ht : ∀ d ∈ ds, ∃ xs, d = .tuple xs) (hu : ∀ d, d ∈ ds → A.units + d.depth < cLine) : SortsAt prog w A s (dataKind s.heap ds) vs := by
  by_cases hall : ∀ d ∈ ds, isNE d = true
  · refine SortsAt.data e hal (.inl fun d hd => ?_) hu
    obtain ⟨xs, rfl⟩ := ht d hd
    cases xs with
    | nil => exact absurd (hall _ hd) (by simp [isNE])
    | cons x xs => exact ⟨x, xs, rfl⟩
  · have room : ∀ {d d' : PyData}, d ∈ ds → A.units + min d.depth d'.depth < cLine := fun {d d'} hd => Nat.lt_of_le_of_lt (Nat.add_le_add_left (Nat.min_le_left _ _) _) (hu d hd)
    have hne : (ds.map isNE).all id = false := by
      rw [Bool.eq_false_iff]
      intro q
      refine hall fun d hd => ?_
      exact List.all_eq_true.mp q _ (List.mem_map.mpr ⟨d, hd, rfl⟩)
    have len := e.length
    refine ⟨fun v hv => ?_, (match (ds.map isNE)[0]? with | some true => general' | _ => oneType'), ?_, fun h2 E Q hq => ?_⟩
    · obtain ⟨d, hd, as, r⟩ := e.left v hv
      exact ⟨_, dataKind_some hal hd r⟩
    · intro E x y a b Q ha hb hq
      obtain ⟨d, as, hd, ra, rfl⟩ := dataKind_inv ha
      obtain ⟨d', as', hd', rb, rfl⟩ := dataKind_inv hb
      have hdd := hal d hd d' hd'
      have rr := room (d' := d') hd
      obtain ⟨xs, rfl⟩ := ht d hd
      obtain ⟨ys, rfl⟩ := ht d' hd'
      split
      · exact oneLt_alike (f := false) (fun q => by cases q) ra rb hdd (fun q => by cases q) rr hq
      · exact oneLt_tup ra rb (by simpa [alike] using hdd) rr hq
    · obtain ⟨fs, f1, f2⟩ := mx_firsts (M := model prog w) (A := A) (E := E) e ht
      rw [keyKind'_eq, List.mapM_toArray, map_eq_pure_bind]
      refine wpAny_bind (wpAny_bind (f2 (wpAny_pure ?_)))
      have hf : ¬ (fs.toArray.all fun x => x.isSome) = true := by
        intro q
        have q2 : (fs.map (·.isSome)).all id = true := by
          rw [List.all_map]
          simpa using q
        rw [f1, hne] at q2
        cases q2
      rw [if_neg hf]
      have h0 : (fs.toArray[0]?.bind id).isSome = ((ds.map isNE)[0]? == some true) := by
        rw [← f1]
        cases fs with
        | nil => rfl
        | cons f fs => cases f <;> rfl
      rw [h0]
      cases q : (ds.map isNE)[0]? with
      | none =>
        rw [q] at hq
        have : ds = [] := by
          cases ds with
          | nil => rfl
          | cons _ _ => simp at q
        rw [this] at len
        rw [len] at h2
        simp at h2
      | some b =>
        rw [q] at hq
        cases b with
        | true => exact wpAny_pure hq
        | false =>
          rw [if_neg (by decide)]
          rw [oneTypeOnly'_eq, List.mapM_toArray, map_eq_pure_bind]
          refine wpAny_bind (wpAny_bind (wpAny_bind (kas_mapM (r := Value.type "tuple") _ (fun v hv Q' hq' => ?_) (wpAny_pure ?_))))
          · obtain ⟨d, hd, as, r⟩ := e.left v hv
            obtain ⟨xs, rfl⟩ := ht d hd
            exact (looks_reads (M := model prog w) r).here hq'
          · cases vs with
            | nil => simp at h2
            | cons v vs =>
              have hall2 : ((List.map (fun _ => Value.type "tuple") (v :: vs)).toArray.all fun x => x == Value.type "tuple") = true := by
                simp only [List.all_toArray, List.all_map, List.all_eq_true]
                intro _ _
                exact beq_self_eq_true _
              have h01 : (List.map (fun _ => Value.type "tuple") (v :: vs)).toArray[0]? = some (Value.type "tuple") := by simp
              rw [h01]
              simp only [hall2, if_true]
              exact wpAny_pure (wpAny_pure hq)
end
end U
set_option Elab.async false
set_option linter.all false
set_option maxRecDepth 100000
set_option maxHeartbeats 4000000
/-! sorted(d), sorted(t), sorted(l) of tuples, over the layer. -/
namespace U
open PySem PySem.Spec PyProof.Rows L2
open PySem.W (EachIs AllAlike dataLe dataKind SortsAt)

section
variable {X : Cx} {pins : List (Addr × Obj)} {σ : L2.St} {H : Hp} {s : Shared} {β : Type}
theorem each_out {K : PySem.W.Frag} {enc : β → PyData} : ∀ {us : List Value} {bs : List β}, EachIs (fun u b => ∃ v, RelV v u ∧ TD K H v (enc b)) us bs → ∃ out : List V, Vals out us ∧ EachIs (fun v b => TD K H v (enc b)) out bs
  | _, _, .nil => ⟨[], .nil, .nil⟩
  | _, _, .cons ⟨v, r, t⟩ e => by
    obtain ⟨out, h1, h2⟩ := each_out e
    exact ⟨v :: out, .cons r h1, .cons t h2⟩
theorem each_in {K : PySem.W.Frag} {enc : β → PyData} : ∀ {xs : List V} {us : List Value} {bs : List β}, Vals xs us → EachIs (fun v b => TD K H v (enc b)) xs bs → EachIs (fun u b => ∃ v, RelV v u ∧ TD K H v (enc b)) us bs
  | _, _, _, .nil, .nil => .nil
  | _, _, _, .cons r rs, .cons t ts => .cons ⟨_, r, t⟩ (each_in rs ts)
/-- sorted(arg): arg's items are us -/
theorem sorted_main {arg : Addr} {us : List Value} {xs : List V} {bs : List β} {enc : β → PyData} {Q : VK} (hcalm : X.calm = true) (hu : X.A.units + 100 < cLine) (I : Inv X pins σ H s)
    (hc : ∀ (E' : Value → Shared → Prop) (R : List Value → Shared → Prop), (∀ (h' : Heap) (tk : Nat), (∀ b o, s.heap.get? b = some o → h'.get? b = some o) → R us { s with heap := h', toks := tk }) → wpAny (model X.prog X.w) X.A.in1 (collect (.ref arg)) R E' s)
    (rv : Vals xs us) (e : EachIs (fun v b => TD X.K H v (enc b)) xs bs) (hal : AllAlike (bs.map enc)) (ht : ∀ b, ∃ ys, enc b = .tuple ys) (hd : ∀ b ∈ bs, (enc b).depth ≤ 8) (hz : xs.length ≤ sizeLine)
    (q : ∀ p out, H p = none → EachIs (fun v b => TD X.K H v (enc b)) out (bs.mergeSort (dataLe false enc)) → Q (.ref p) (upd H p (.lst out))) :
    wpAny (model X.prog X.w) X.A (call (.builtin "sorted") [.ref arg]) (EP X pins σ Q) X.xe s := by
  have lu : us.length = xs.length := rv.length.symm
  have lb : us.length = bs.length := by rw [lu]; exact e.length
  refine Calls.call_function_entry PyProof.Rows.kind_sorted PyProof.Rows.plain_sorted PyProof.Rows.entry_sorted (PyProof.Rows.args_sorted1 _) ?_
  unfold Builtin.«sorted»
  refine wpAny_bind (m := checkCount "sorted" 1 1 _) (wpAny_pure ?_)
  refine wpAny_bind (hc _ _ fun h' tk hk => ?_)
  have I1 : Inv X pins σ H { s with heap := h', toks := tk } := I.kept hk
  refine wpAny_bind (wpAny_newList ?_ (by rw [lu]; exact hz))
  have hoL : (h'.push (seqObj "list" us.toArray 0)).get? h'.objs.size = some (seqObj "list" us.toArray 0) := Heap.get?_push_size _ rfl
  show wpAny _ _ _ _ _ { s with heap := h'.push (seqObj "list" us.toArray 0), toks := tk }
  have er : EachIs (fun u b => ∃ v, RelV v u ∧ TD X.K H v (enc b)) us bs := each_in rv e
  have erd : EachIs (fun v b => ∃ as, Reads (PySem.W.sortingHeap (h'.push (seqObj "list" us.toArray 0)) h'.objs.size us) v (enc b) as) us bs := er.mono fun u b ⟨v, r, t⟩ => by
    obtain ⟨as, rd⟩ := Dp.reads I1 _ v u t.dp r
    refine ⟨as, PyProof.Rows.Reads.keeps (fun b o ho => ?_) rd⟩
    exact PySem.W.sortingHeap_old (Nat.ne_of_lt (Heap.lt_size ho)) (Heap.get?_push_of_some _ ho)
  have S : SortsAt X.prog X.w X.A.in1.in1 { s with heap := PySem.W.sortingHeap (h'.push (seqObj "list" us.toArray 0)) h'.objs.size us, toks := tk } (dataKind (PySem.W.sortingHeap (h'.push (seqObj "list" us.toArray 0)) h'.objs.size us) (bs.map enc)) us := by
    refine sorts_tups (s := { s with heap := PySem.W.sortingHeap (h'.push (seqObj "list" us.toArray 0)) h'.objs.size us, toks := tk }) (PySem.W.each_map (R := fun v d => ∃ as, Reads (PySem.W.sortingHeap (h'.push (seqObj "list" us.toArray 0)) h'.objs.size us) v d as) enc erd) hal (fun d hm => ?_) (fun d hm => ?_)
    · obtain ⟨b, _, rfl⟩ := List.mem_map.mp hm
      exact ht b
    · obtain ⟨b, hb, rfl⟩ := List.mem_map.mp hm
      have := hd b hb
      show X.A.units + 1 + 1 + _ < cLine
      omega
  refine wpAny_bind (wpAny_holding (wpAny_call_entry PyProof.Rows.slot_list_sort ⟨_, hoL, rfl⟩ PyProof.Rows.entry_list_sort
    (PySem.W.list_sort_vals (s := { s with heap := h'.push (seqObj "list" us.toArray 0), toks := tk }) hoL S (by rw [lu]; exact hz) ⟨_, rfl, ?_⟩) (PyProof.Rows.args_list_sort _)))
  have ev := PySem.W.sortVals_data (R := fun u b => ∃ v, RelV v u ∧ TD X.K H v (enc b)) false er erd hal
  obtain ⟨out, ro, eo⟩ := each_out ev
  obtain ⟨e', he'⟩ := PyProof.Rows.sortedHeap_at (vs := us) (out := (PySem.W.sortVals (dataKind (PySem.W.sortingHeap (h'.push (seqObj "list" us.toArray 0)) h'.objs.size us) (bs.map enc)) false us us).toArray) hoL
  have lo : out.length ≤ sizeLine := by
    have h1 := eo.length
    rw [List.length_mergeSort] at h1
    omega
  refine wpAny_pure ⟨_, rfl, .ref h'.objs.size, upd H h'.objs.size (.lst out), I1.laid (t' := tk) (fun b u e => ?_) (Nat.le_refl _)
    (show ObjOk X.prog X.w _ _ _ (.lst out) from ⟨lo, _, e', ro, he'⟩), rfl, q _ _ (I1.hok.fresh (Nat.le_refl _)) eo⟩
  have hb : b < h'.objs.size := Heap.lt_size e
  rw [PyProof.Rows.sortedHeap_old (Nat.ne_of_lt hb) (by rw [size_push']; exact Nat.lt_succ_of_lt hb)]
  exact Heap.get?_push_of_some _ e
end
section
variable {X : Cx}
theorem each_get {K : PySem.W.Frag} {H : Hp} {β : Type} {enc : β → PyData} : ∀ {xs : List V} {bs : List β}, xs.length = bs.length → (∀ (i : Nat) (v : V) (b : β), xs[i]? = some v → bs[i]? = some b → TD K H v (enc b)) → EachIs (fun v b => TD K H v (enc b)) xs bs
  | [], [], _, _ => .nil
  | [], _ :: _, h, _ => by simp at h
  | _ :: _, [], h, _ => by simp at h
  | x :: xs, b :: bs, h, f => .cons (f 0 x b rfl rfl) (each_get (by simpa using h) fun i v c e1 e2 => f (i + 1) v c (by simpa using e1) (by simpa using e2))
theorem each_mapV {α γ : Type} {R : V → γ → Prop} (f : α → γ) : ∀ {vs : List V} {bs : List α}, EachIs (fun v b => R v (f b)) vs bs → EachIs R vs (bs.map f)
  | _, _, .nil => .nil
  | _, _, .cons h1 t => .cons h1 (each_mapV f t)
/-- sorted(d) -/
theorem cr_sortedN (hcalm : X.calm = true) (hu : X.A.units + 100 < cLine) : CallR X (.builtin "sorted") (fun xs H Q => ∃ d o F, xs = [.ref d] ∧ NDo X.prog X.w X.K H d o F ∧ AllAlike ((F.map (·.1)).map NestedKey.data) ∧ (∀ k ∈ F.map (·.1), ∃ ks, k = NestedKey.tup ks) ∧ (∀ k ∈ F.map (·.1), k.data.depth ≤ 8) ∧
    ∀ p out, H p = none → EachIs (fun v k => TD X.K H v k.data) out ((F.map (·.1)).mergeSort (dataLe false NestedKey.data)) → Q (.ref p) (upd H p (.lst out))) := by
  intro pins s σ H vs us Q I r h
  obtain ⟨d, o, F, rfl, g, hal, ht, hd, q⟩ := h
  obtain ⟨u, rfl, ru⟩ := vals1 r
  cases ru
  obtain ⟨kvs, xs, eF, rel, hl, dd, hks⟩ := g.dict I
  obtain ⟨es, ep, hraw, hsz, hes⟩ := dd.raw
  have lX : kvs.length = xs.length := Paired.length rel
  have lF : (F.map (·.1)).length = kvs.length := by rw [← eF]; unfold toF; simp
  have hA := I.ok.hd hcalm
  -- tuples: enc is total only on tuples; pass through the subtype of the keys
  have sub : ∃ bs : List { k : NestedKey // ∃ ks, k = .tup ks }, bs.map (·.1) = F.map (·.1) := by
    clear hal hd q eF lF
    generalize F.map (·.1) = l at ht ⊢
    induction l with
    | nil => exact ⟨[], rfl⟩
    | cons k l ih =>
      obtain ⟨bs, e⟩ := ih fun k hk => ht k (List.mem_cons_of_mem _ hk)
      exact ⟨⟨k, ht k (List.mem_cons_self ..)⟩ :: bs, by rw [List.map_cons, e]⟩
  obtain ⟨bs, eb⟩ := sub
  have lb : bs.length = kvs.length := by rw [← lF, ← eb, List.length_map]
  refine sorted_main (us := xs.map fun x => .ref x.2.1) (xs := kvs.map fun x => .ref x.2.1) (bs := bs) (enc := fun k => k.1.data) hcalm hu I (fun E' R hR => ?_) ?_ ?_ ?_ (fun b => ?_) (fun b hb => ?_) (by rw [List.length_map]; exact hl) (fun p out hp e => q p out hp ?_)
  · refine PySem.W.kdu_collect (A := X.A.in1) (KdlSrc.rawDict g.low) hA hraw (by rw [hsz, ← lX]; exact hl) fun h' tk acc hk hacc => ?_
    have ea : acc.toList = xs.map fun x => Value.ref x.2.1 := by
      apply List.ext_getElem?
      intro i
      rw [Array.getElem?_toList, List.getElem?_map]
      by_cases hi : i < es.size
      · obtain ⟨y, hy, e1, _⟩ := hes i hi
        have hai : i < acc.size := by rw [hacc.1]; exact hi
        obtain ⟨hi', ev⟩ := hacc.2 i acc[i] (Array.getElem?_eq_getElem hai)
        rw [Array.getElem?_eq_getElem hai, hy, ev, e1]
        rfl
      · rw [Array.getElem?_eq_none (by rw [hacc.1]; omega), List.getElem?_eq_none (by omega)]
        rfl
    rw [ea]
    exact hR h' tk hk
  · clear eF hl dd hks hraw hes lX lF lb hsz
    induction rel with
    | nil => exact .nil
    | cons h _ ih =>
      rw [List.map_cons, List.map_cons]
      refine .cons ?_ ih
      rw [h.2.1]
      rfl
  · refine each_get (by rw [List.length_map, lb]) fun i v b e1 e2 => ?_
    rw [List.getElem?_map] at e1
    obtain ⟨x, hx, rfl⟩ := Option.map_eq_some_iff.mp e1
    have e3 : (bs.map (·.1))[i]? = some b.1 := by rw [List.getElem?_map, e2]; rfl
    rw [eb, ← eF, toF_keys, List.getElem?_map, hx] at e3
    have e4 : x.1 = b.1 := Option.some.inj e3
    rw [← e4]
    exact (hks x (List.mem_of_getElem? hx)).1
  · have : (bs.map fun k => k.1.data) = (F.map (·.1)).map NestedKey.data := by rw [← eb, List.map_map]; rfl
    rw [this]
    exact hal
  · obtain ⟨k, ks, rfl⟩ := b
    exact ⟨NestedKey.datas ks, by rw [NestedKey.data]⟩
  · exact hd b.1 (by rw [← eb]; exact List.mem_map.mpr ⟨b, hb, rfl⟩)
  · have em : (bs.mergeSort (dataLe false fun k => k.1.data)).map (·.1) = (F.map (·.1)).mergeSort (dataLe false NestedKey.data) := by
      rw [← eb]
      exact PySem.W.sort_maps (fun k : { k : NestedKey // ∃ ks, k = .tup ks } => k.1) fun _ _ _ _ => rfl
    rw [← em]
    exact each_mapV (R := fun v k => TD X.K H v (NestedKey.data k)) (fun k : { k : NestedKey // ∃ ks, k = .tup ks } => k.1) e
/-- sorted(t), t a tuple of tuples -/
theorem cr_sortedT {β : Type} {enc : β → PyData} (hcalm : X.calm = true) (hu : X.A.units + 100 < cLine) (hal : ∀ b c, PySem.W.alike (enc b) (enc c) = true) (ht : ∀ b, ∃ ys, enc b = .tuple ys) (hd : ∀ b, (enc b).depth ≤ 8) :
    CallR X (.builtin "sorted") (fun xs H Q => ∃ a ys bs, xs = [.ref a] ∧ Tq X.K H a ys ∧ EachIs (fun v b => TD X.K H v (enc b)) ys bs ∧
    ∀ p out, H p = none → EachIs (fun v b => TD X.K H v (enc b)) out (bs.mergeSort (dataLe false enc)) → Q (.ref p) (upd H p (.lst out))) := by
  intro pins s σ H vs us Q I r h
  obtain ⟨a, ys, bs, rfl, ha, e, q⟩ := h
  obtain ⟨u, rfl, ru⟩ := vals1 r
  cases ru
  obtain ⟨its, rv, ⟨o, ho, hc, n, hdat⟩, hz⟩ := I.tuple ha.sq
  refine sorted_main (us := its) (xs := ys) (bs := bs) (enc := enc) hcalm hu I (fun E' R hR => ?_) rv e (PySem.W.AllAlike.of hal) ht (fun b _ => hd b) hz q
  refine wpAny_collect_seq a (.inr rfl) ho hc hdat (fun h' hk => ?_) (by rw [List.size_toArray, ← rv.length]; exact hz)
  have := hR h' s.toks hk
  simpa using this
end
end U
set_option Elab.async false
set_option linter.all false
set_option maxRecDepth 100000
set_option maxHeartbeats 4000000
/-! Monomials of marks as keys: their hashes are unlike (a finite look). -/
namespace U
open PySem
abbrev Mark := Int × Int
abbrev Mono := List Mark
def keyK (p : Mark) : NestedKey := .tup [.num p.1, .num p.2]
def keyM (m : Mono) : NestedKey := .tup (m.map keyK)
def eK (p : Mark) : PyData := .tuple [.int p.1, .int p.2]
def eM (m : Mono) : PyData := .tuple (m.map eK)
theorem keyK_data (p : Mark) : (keyK p).data = eK p := by simp [keyK, eK, NestedKey.data, NestedKey.datas]
theorem datas_map (m : Mono) : NestedKey.datas (m.map keyK) = m.map eK := by
  induction m with
  | nil => simp [NestedKey.datas]
  | cons p m ih => rw [List.map_cons, List.map_cons, NestedKey.datas, ih, keyK_data]
theorem keyM_data (m : Mono) : (keyM m).data = eM m := by rw [keyM, NestedKey.data, datas_map, eM]
theorem depth_all (m : Mono) : NestedKey.depthAll (m.map keyK) ≤ 1 := by
  induction m with
  | nil => simp [NestedKey.depthAll]
  | cons p m ih =>
    rw [List.map_cons, NestedKey.depthAll]
    have : (keyK p).depth = 1 := by simp [keyK, NestedKey.depth, NestedKey.depthAll]
    omega
theorem keyM_depth (m : Mono) : (keyM m).depth ≤ 8 := by
  rw [keyM, NestedKey.depth]
  have := depth_all m
  omega
theorem keyK_depth (p : Mark) : (keyK p).depth ≤ 8 := by simp [keyK, NestedKey.depth, NestedKey.depthAll]
theorem keyK_inj {p q : Mark} (h : keyK p = keyK q) : p = q := by
  unfold keyK at h
  injection h with h
  injection h with h1 h2
  injection h2 with h2 _
  injection h1 with h1
  injection h2 with h2
  exact Prod.ext h1 h2
theorem keyKs_inj : ∀ {m n : Mono}, m.map keyK = n.map keyK → m = n
  | [], [], _ => rfl
  | [], _ :: _, h => by cases h
  | _ :: _, [], h => by cases h
  | p :: m, q :: n, h => by
    rw [List.map_cons, List.map_cons] at h
    injection h with h1 h2
    rw [keyK_inj h1, keyKs_inj h2]
theorem keyM_inj {m n : Mono} (h : keyM m = keyM n) : m = n := by
  unfold keyM at h
  injection h with h
  exact keyKs_inj h
/-- the hash, without the world -/
def hK (p : Mark) : Int := reduceHash (Builtin.Tuple.tupleHashOf [hashInt p.1, hashInt p.2])
def hM (m : Mono) : Int := reduceHash (Builtin.Tuple.tupleHashOf (m.map hK))
theorem hK_eq (w : World) (p : Mark) : (keyK p).hash w = hK p := by simp [keyK, hK, NestedKey.hash, NestedKey.hashes]
theorem hashes_map (w : World) (m : Mono) : NestedKey.hashes w (m.map keyK) = m.map hK := by
  induction m with
  | nil => simp [NestedKey.hashes]
  | cons p m ih => rw [List.map_cons, List.map_cons, NestedKey.hashes, ih, hK_eq]
theorem hM_eq (w : World) (m : Mono) : (keyM m).hash w = hM m := by rw [keyM, NestedKey.hash, hashes_map, hM]
/-- the marks that come -/
def OkMark (p : Mark) : Prop := (p.1 = -1 ∧ 0 ≤ p.2 ∧ p.2 < 3) ∨ (0 ≤ p.1 ∧ p.1 < 10 ∧ 1 ≤ p.2 ∧ p.2 ≤ 5)
def InS (m : Mono) : Prop := m.length ≤ 2 ∧ ∀ p ∈ m, OkMark p
def markL : List Mark := [(-1, 0), (-1, 1), (-1, 2)] ++ (List.range 10).flatMap fun (i : Nat) => (List.range 5).map fun (k : Nat) => ((i : Int), (k : Int) + 1)
def hashOf (L : List Mark) : List Int := reduceHash (Builtin.Tuple.tupleHashOf []) :: ((L.map hK).map fun a => reduceHash (Builtin.Tuple.tupleHashOf [a])) ++ (L.map hK).flatMap fun a => (L.map hK).map fun b => reduceHash (Builtin.Tuple.tupleHashOf [a, b])
def monoOf (L : List Mark) : List Mono := [] :: (L.map fun a => [a]) ++ L.flatMap fun a => L.map fun b => [a, b]
theorem hashOf_eq (L : List Mark) : (monoOf L).map hM = hashOf L := by
  have e1 : hM [] = reduceHash (Builtin.Tuple.tupleHashOf []) := by simp only [hM, List.map_nil]
  have e2 : ∀ a, hM [a] = reduceHash (Builtin.Tuple.tupleHashOf [hK a]) := fun a => by simp only [hM, List.map_cons, List.map_nil]
  have e3 : ∀ a b, hM [a, b] = reduceHash (Builtin.Tuple.tupleHashOf [hK a, hK b]) := fun a b => by simp only [hM, List.map_cons, List.map_nil]
  have f2 : List.map (fun x => hM [x]) L = List.map (fun x => reduceHash (Builtin.Tuple.tupleHashOf [hK x])) L := List.map_congr_left fun x _ => e2 x
  have f3 : ∀ a, List.map (fun x => hM [a, x]) L = List.map (fun x => reduceHash (Builtin.Tuple.tupleHashOf [hK a, hK x])) L := fun a => List.map_congr_left fun x _ => e3 a x
  simp only [monoOf, hashOf, List.map_append, List.map_cons, List.map_map, List.map_flatMap, List.flatMap_map, Function.comp_def, e1, f2, f3]
/-- all hashes of keys of at most two marks -/
def allH : List Int := hashOf markL
def allM : List Mono := monoOf markL
theorem allH_eq : allM.map hM = allH := hashOf_eq markL
/-- no two alike: by a tree -/
inductive BTr where
  | leaf
  | node (l : BTr) (x : Nat) (r : BTr)
def BTr.ins : BTr → Nat → BTr
  | .leaf, x => .node .leaf x .leaf
  | .node l y r, x => match Nat.blt y x with
    | true => .node l y (r.ins x)
    | false => .node (l.ins x) y r
def BTr.toL : BTr → List Nat → List Nat
  | .leaf, acc => acc
  | .node l x r, acc => l.toL (x :: r.toL acc)
def strict : List Nat → Bool
  | [] => true
  | x :: l => match l with
    | [] => true
    | y :: _ => Nat.blt x y && strict l
theorem toL_app : ∀ (t : BTr) (acc : List Nat), t.toL acc = t.toL [] ++ acc
  | .leaf, acc => rfl
  | .node l x r, acc => by
    show l.toL (x :: r.toL acc) = l.toL (x :: r.toL []) ++ acc
    rw [toL_app l, toL_app l (x :: r.toL []), toL_app r acc]
    simp
theorem ins_perm : ∀ (t : BTr) (x : Nat), ((t.ins x).toL []).Perm (x :: t.toL [])
  | .leaf, x => .refl _
  | .node l y r, x => by
    show ((match Nat.blt y x with
    | true => BTr.node l y (r.ins x)
    | false => BTr.node (l.ins x) y r).toL []).Perm (x :: l.toL (y :: r.toL []))
    cases Nat.blt y x with
    | true =>
      show (l.toL (y :: (r.ins x).toL [])).Perm (x :: l.toL (y :: r.toL []))
      rw [toL_app l, toL_app l (y :: r.toL [])]
      refine ((List.Perm.append_left _ ((ins_perm r x).cons y)).trans ?_)
      refine (List.Perm.append_left _ (List.Perm.swap x y _)).trans ?_
      exact List.perm_middle
    | false =>
      show ((l.ins x).toL (y :: r.toL [])).Perm (x :: l.toL (y :: r.toL []))
      rw [toL_app (l.ins x), toL_app l (y :: r.toL [])]
      exact (ins_perm l x).append_right _
def build : List Nat → BTr → BTr
  | [], t => t
  | x :: l, t => build l (t.ins x)
theorem build_perm : ∀ (l : List Nat) (t : BTr), ((build l t).toL []).Perm (l ++ t.toL [])
  | [], t => .refl _
  | x :: l, t => by
    show ((build l (t.ins x)).toL []).Perm (x :: (l ++ t.toL []))
    refine (build_perm l (t.ins x)).trans ((List.Perm.append_left _ (ins_perm t x)).trans ?_)
    exact List.perm_middle
theorem strict_lt : ∀ {l : List Nat} {x : Nat}, strict (x :: l) = true → (∀ y ∈ l, x < y) ∧ strict l = true
  | [], _, _ => ⟨(fun _ h => nomatch h), rfl⟩
  | y :: l, x, h => by
    have h' : (Nat.blt x y && strict (y :: l)) = true := h
    rw [Bool.and_eq_true] at h'
    obtain ⟨h1, h2⟩ := h'
    have hxy : x < y := Nat.le_of_ble_eq_true h1
    refine ⟨fun z hz => ?_, h2⟩
    rcases List.mem_cons.mp hz with rfl | hz
    · exact hxy
    · exact Nat.lt_trans hxy ((strict_lt h2).1 z hz)
theorem strict_nodup : ∀ {l : List Nat}, strict l = true → l.Nodup
  | [], _ => List.nodup_nil
  | x :: l, h => by
    obtain ⟨h1, h2⟩ := strict_lt h
    exact List.nodup_cons.mpr ⟨fun hm => Nat.lt_irrefl _ (h1 x hm), strict_nodup h2⟩
theorem allH_apart : strict ((build (allH.map Int.natAbs) .leaf).toL []) = true := by decide +kernel
theorem nodup_of_map {α β : Type} (f : α → β) : ∀ {l : List α}, (l.map f).Nodup → l.Nodup
  | [], _ => List.nodup_nil
  | x :: l, h => by
    rw [List.map_cons] at h
    obtain ⟨h1, h2⟩ := List.nodup_cons.mp h
    exact List.nodup_cons.mpr ⟨fun hm => h1 (List.mem_map.mpr ⟨x, hm, rfl⟩), nodup_of_map f h2⟩
theorem allH_nodup : allH.Nodup := by
  have p := build_perm (allH.map Int.natAbs) .leaf
  have n := (p.nodup_iff).mp (strict_nodup allH_apart)
  have e : allH.map Int.natAbs ++ BTr.leaf.toL [] = allH.map Int.natAbs := by
    show allH.map Int.natAbs ++ [] = _
    rw [List.append_nil]
  rw [e] at n
  exact nodup_of_map Int.natAbs n
theorem mem_markL {p : Mark} (h : OkMark p) : p ∈ markL := by
  obtain ⟨a, b⟩ := p
  unfold markL
  rcases h with ⟨h1, h2, h3⟩ | ⟨h1, h2, h3, h4⟩
  · refine List.mem_append_left _ ?_
    dsimp only at h1 h2 h3
    subst h1
    have : b = 0 ∨ b = 1 ∨ b = 2 := by omega
    rcases this with rfl | rfl | rfl <;> simp
  · refine List.mem_append_right _ (List.mem_flatMap.mpr ⟨a.toNat, List.mem_range.mpr ?_, List.mem_map.mpr ⟨(b - 1).toNat, List.mem_range.mpr ?_, ?_⟩⟩)
    · dsimp only at h1 h2; omega
    · dsimp only at h3 h4; omega
    · dsimp only at h1 h2 h3 h4
      refine Prod.ext ?_ ?_
      · show ((a.toNat : Nat) : Int) = a; omega
      · show (((b - 1).toNat : Nat) : Int) + 1 = b; omega
theorem mem_allM {m : Mono} (h : InS m) : m ∈ allM := by
  obtain ⟨h1, h2⟩ := h
  unfold allM monoOf
  match m, h1, h2 with
  | [], _, _ => simp
  | [a], _, h2 =>
    refine List.mem_append_left _ (List.mem_cons_of_mem _ (List.mem_map.mpr ⟨a, mem_markL (h2 a (by simp)), rfl⟩))
  | [a, b], _, h2 => exact List.mem_append_right _ (List.mem_flatMap.mpr ⟨a, mem_markL (h2 a (by simp)), List.mem_map.mpr ⟨b, mem_markL (h2 b (by simp)), rfl⟩⟩)
  | _ :: _ :: _ :: _, h1, _ => simp at h1
theorem inj_of_nodup_map {α β : Type} (f : α → β) : ∀ {l : List α}, (l.map f).Nodup → ∀ {a b : α}, a ∈ l → b ∈ l → f a = f b → a = b
  | [], _, _, _, h, _, _ => by cases h
  | x :: l, hn, a, b, ha, hb, e => by
    rw [List.map_cons] at hn
    obtain ⟨h1, h2⟩ := List.nodup_cons.mp hn
    rcases List.mem_cons.mp ha with ea | ha'
    · rcases List.mem_cons.mp hb with eb | hb'
      · rw [ea, eb]
      · rw [← ea, e] at h1
        exact absurd (List.mem_map.mpr ⟨b, hb', rfl⟩) h1
    · rcases List.mem_cons.mp hb with eb | hb'
      · rw [← eb, ← e] at h1
        exact absurd (List.mem_map.mpr ⟨a, ha', rfl⟩) h1
      · exact inj_of_nodup_map f h2 ha' hb' e
theorem hM_inj {m n : Mono} (hm : InS m) (hn : InS n) (e : hM m = hM n) : m = n := inj_of_nodup_map hM (by rw [allH_eq]; exact allH_nodup) (mem_allM hm) (mem_allM hn) e
theorem nodup_map_of_inj {α β : Type} (f : α → β) : ∀ {l : List α}, l.Nodup → (∀ a ∈ l, ∀ b ∈ l, f a = f b → a = b) → (l.map f).Nodup
  | [], _, _ => List.nodup_nil
  | x :: l, hn, h => by
    obtain ⟨h1, h2⟩ := List.nodup_cons.mp hn
    rw [List.map_cons]
    refine List.nodup_cons.mpr ⟨fun hm => ?_, nodup_map_of_inj f h2 fun a ha b hb => h a (List.mem_cons_of_mem _ ha) b (List.mem_cons_of_mem _ hb)⟩
    obtain ⟨y, hy, e⟩ := List.mem_map.mp hm
    rw [h x (List.mem_cons_self ..) y (List.mem_cons_of_mem _ hy) e.symm] at h1
    exact h1 hy
/-- what dict(form) asks -/
theorem hashes_apart (w : World) {ms : List Mono} (hn : ms.Nodup) (h : ∀ m ∈ ms, InS m) : (ms.map fun m => (keyM m).hash w).Nodup := by
  have e : (ms.map fun m => (keyM m).hash w) = ms.map hM := List.map_congr_left fun m _ => hM_eq w m
  rw [e]
  exact nodup_map_of_inj hM hn fun a ha b hb q => hM_inj (h a ha) (h b hb) q
end U
set_option Elab.async false
set_option linter.all false
set_option maxRecDepth 100000
set_option maxHeartbeats 4000000
/-! Tables in plain Lean, and how a dict of nested keys holds one. -/
namespace U
open PySem PySem.Spec PyProof.Rows L2
section
variable {α β : Type} [DecidableEq α]
def tget (G : List (α × β)) (a : α) : Option β := (G.find? fun p => decide (p.1 = a)).map (·.2)
def tput (G : List (α × β)) (a : α) (b : β) : List (α × β) := if (G.any fun p => decide (p.1 = a)) = true then G.map (fun p => if p.1 = a then (p.1, b) else p) else G ++ [(a, b)]
def tdrop (G : List (α × β)) (a : α) : List (α × β) := G.filter fun p => decide (p.1 ≠ a)
theorem tget_nil {a : α} : tget ([] : List (α × β)) a = none := rfl
theorem tget_pos {p : α × β} {G : List (α × β)} {a : α} (e : p.1 = a) : tget (p :: G) a = some p.2 := by simp [tget, List.find?_cons, e]
theorem tget_neg {p : α × β} {G : List (α × β)} {a : α} (e : ¬ p.1 = a) : tget (p :: G) a = tget G a := by simp [tget, List.find?_cons, e]
theorem tget_any (a : α) : ∀ G : List (α × β), (G.any fun p => decide (p.1 = a)) = (tget G a).isSome
  | [] => rfl
  | p :: G => by
    rw [List.any_cons]
    by_cases e : p.1 = a
    · simp only [tget_pos e, decide_eq_true e, Bool.true_or, Option.isSome_some]
    · rw [tget_neg e, decide_eq_false e, Bool.false_or]; exact tget_any a G
theorem tget_mem {a : α} {b : β} : ∀ {G : List (α × β)}, tget G a = some b → (a, b) ∈ G
  | [], h => by cases h
  | p :: G, h => by
    by_cases e : p.1 = a
    · rw [tget_pos e] at h
      cases h
      subst e
      exact List.mem_cons_self ..
    · rw [tget_neg e] at h
      exact List.mem_cons_of_mem _ (tget_mem h)
theorem tget_none {a : α} : ∀ {G : List (α × β)}, tget G a = none → ∀ b, (a, b) ∉ G
  | [], _, b => by simp
  | p :: G, h, b => by
    by_cases e : p.1 = a
    · rw [tget_pos e] at h; cases h
    · rw [tget_neg e] at h
      intro hm
      rcases List.mem_cons.mp hm with q | q
      · exact e (by rw [← q])
      · exact tget_none h b q
theorem tget_of_mem {a : α} {b : β} : ∀ {G : List (α × β)}, (G.map (·.1)).Nodup → (a, b) ∈ G → tget G a = some b
  | [], _, h => by cases h
  | p :: G, hn, h => by
    rw [List.map_cons] at hn
    obtain ⟨h1, h2⟩ := List.nodup_cons.mp hn
    rcases List.mem_cons.mp h with q | q
    · subst q; exact tget_pos rfl
    · rw [tget_neg (fun e => h1 (e ▸ List.mem_map.mpr ⟨_, q, rfl⟩)), tget_of_mem h2 q]
theorem tget_map (a c : α) (b : β) : ∀ G : List (α × β), tget (G.map fun p => if p.1 = a then (p.1, b) else p) c = (tget G c).map fun x => if c = a then b else x
  | [] => rfl
  | p :: G => by
    have ih := tget_map a c b G
    rw [List.map_cons]
    by_cases h : p.1 = a
    · rw [if_pos h]
      by_cases e : p.1 = c
      · rw [tget_pos (p := (p.1, b)) e, tget_pos e, Option.map_some, if_pos (e.symm.trans h)]
      · rw [tget_neg (p := (p.1, b)) e, tget_neg e, ih]
    · rw [if_neg h]
      by_cases e : p.1 = c
      · rw [tget_pos (p := p) e, tget_pos e, Option.map_some, if_neg (fun z => h (e.trans z))]
      · rw [tget_neg (p := p) e, tget_neg e, ih]
theorem tget_app (a : α) : ∀ G G' : List (α × β), tget (G ++ G') a = (tget G a).or (tget G' a)
  | [], _ => rfl
  | p :: G, G' => by
    rw [List.cons_append]
    by_cases e : p.1 = a
    · rw [tget_pos e, tget_pos e]; rfl
    · rw [tget_neg e, tget_neg e, tget_app a G G']
theorem tget_put (G : List (α × β)) (a c : α) (b : β) : tget (tput G a b) c = if c = a then some b else tget G c := by
  unfold tput
  rw [tget_any]
  by_cases h : (tget G a).isSome = true
  · rw [if_pos h, tget_map]
    by_cases e : c = a
    · subst e
      rw [if_pos rfl]
      cases q : tget G c with
      | none => rw [q] at h; cases h
      | some x => simp
    · simp only [if_neg e]
      cases tget G c <;> rfl
  · rw [if_neg h, tget_app]
    by_cases e : c = a
    · subst e
      rw [if_pos rfl]
      cases q : tget G c with
      | none => simp [tget]
      | some x => rw [q] at h; simp at h
    · rw [if_neg e, tget_neg (p := (a, b)) (fun z => e z.symm), tget_nil]
      cases tget G c <;> rfl
theorem tget_drop (a c : α) : ∀ G : List (α × β), tget (tdrop G a) c = if c = a then none else tget G c
  | [] => by unfold tdrop; simp [tget]
  | p :: G => by
    have ih := tget_drop a c G
    unfold tdrop at ih ⊢
    by_cases h : p.1 = a
    · rw [List.filter_cons_of_neg (by simpa using h), ih]
      by_cases e : c = a
      · rw [if_pos e, if_pos e]
      · rw [if_neg e, if_neg e, tget_neg (fun z => e (z.symm.trans h))]
    · rw [List.filter_cons_of_pos (by simpa using h)]
      by_cases e : p.1 = c
      · rw [tget_pos e, tget_pos e, if_neg (fun z => h (e.trans z))]
      · rw [tget_neg e, tget_neg e, ih]
theorem keys_put (G : List (α × β)) (a : α) (b : β) : (tput G a b).map (·.1) = if (tget G a).isSome = true then G.map (·.1) else G.map (·.1) ++ [a] := by
  unfold tput
  rw [tget_any]
  split
  · rw [List.map_map]
    refine List.map_congr_left fun p _ => ?_
    show (if p.1 = a then (p.1, b) else p).1 = p.1
    split <;> rfl
  · rw [List.map_append]; rfl
theorem tget_isSome {a : α} {G : List (α × β)} : (tget G a).isSome = true ↔ a ∈ G.map (·.1) := by
  constructor
  · intro h
    cases q : tget G a with
    | none => rw [q] at h; cases h
    | some b => exact List.mem_map.mpr ⟨_, tget_mem q, rfl⟩
  · intro h
    obtain ⟨p, hp, e⟩ := List.mem_map.mp h
    cases q : tget G a with
    | none => exact absurd (show (a, p.2) ∈ G by rw [← e]; exact hp) (tget_none q p.2)
    | some b => rfl
theorem nodup_put {G : List (α × β)} (h : (G.map (·.1)).Nodup) (a : α) (b : β) : ((tput G a b).map (·.1)).Nodup := by
  rw [keys_put]
  split
  · exact h
  · rename_i q
    refine List.nodup_append.mpr ⟨h, by simp, ?_⟩
    intro x hx y hy e
    rw [List.mem_singleton] at hy
    subst hy
    subst e
    exact q (tget_isSome.mpr hx)
theorem mem_put {G : List (α × β)} {a : α} {b : β} {p : α × β} (h : p ∈ tput G a b) : p = (a, b) ∨ p ∈ G := by
  unfold tput at h
  split at h
  · obtain ⟨q, hq, e⟩ := List.mem_map.mp h
    by_cases z : q.1 = a
    · rw [if_pos z] at e
      left; rw [← e, z]
    · rw [if_neg z] at e
      right; rw [← e]; exact hq
  · rcases List.mem_append.mp h with q | q
    · exact .inr q
    · rw [List.mem_singleton] at q; exact .inl q
theorem mem_drop {G : List (α × β)} {a : α} {p : α × β} (h : p ∈ tdrop G a) : p ∈ G ∧ p.1 ≠ a := by
  obtain ⟨h1, h2⟩ := List.mem_filter.mp h
  exact ⟨h1, by simpa using h2⟩
theorem nodup_drop {G : List (α × β)} (h : (G.map (·.1)).Nodup) (a : α) : ((tdrop G a).map (·.1)).Nodup := h.sublist (List.Sublist.map _ List.filter_sublist)
theorem len_put (G : List (α × β)) (a : α) (b : β) : (tput G a b).length ≤ G.length + 1 := by
  unfold tput
  split
  · rw [List.length_map]; omega
  · rw [List.length_append]; exact Nat.le_refl _
theorem len_drop (G : List (α × β)) (a : α) : (tdrop G a).length ≤ G.length := List.length_filter_le ..
/-! ### sums over a table -/
def tsum (ev : α → Rat) (G : List (α × Rat)) : Rat := (G.map fun p => ev p.1 * p.2).foldr (· + ·) 0
theorem tsum_nil (ev : α → Rat) : tsum ev ([] : List (α × Rat)) = 0 := rfl
theorem tsum_cons (ev : α → Rat) (p : α × Rat) (G : List (α × Rat)) : tsum ev (p :: G) = ev p.1 * p.2 + tsum ev G := rfl
theorem tsum_app (ev : α → Rat) : ∀ (G G' : List (α × Rat)), tsum ev (G ++ G') = tsum ev G + tsum ev G'
  | [], G' => by rw [List.nil_append, tsum_nil]; grind
  | p :: G, G' => by rw [List.cons_append, tsum_cons, tsum_cons, tsum_app ev G G']; grind
theorem map_keep {a : α} {q : Rat} : ∀ {G : List (α × Rat)}, a ∉ G.map (·.1) → G.map (fun p => if p.1 = a then (p.1, q) else p) = G
  | [], _ => rfl
  | p :: G, h => by
    rw [List.map_cons, List.mem_cons] at h
    rw [List.map_cons, map_keep (fun z => h (.inr z)), if_neg (fun z => h (.inl z.symm))]
theorem tsum_map (ev : α → Rat) (a : α) (q : Rat) : ∀ {G : List (α × Rat)}, (G.map (·.1)).Nodup → ∀ {b}, tget G a = some b → tsum ev (G.map fun p => if p.1 = a then (p.1, q) else p) = tsum ev G + ev a * (q - b)
  | [], _, b, h => by cases h
  | p :: G, hn, b, h => by
    rw [List.map_cons] at hn
    obtain ⟨h1, h2⟩ := List.nodup_cons.mp hn
    rw [List.map_cons]
    by_cases e : p.1 = a
    · rw [tget_pos e] at h
      cases h
      rw [if_pos e, map_keep (fun z => h1 (e ▸ z)), tsum_cons, tsum_cons, e]
      grind
    · rw [tget_neg e] at h
      rw [if_neg e, tsum_cons, tsum_cons, tsum_map ev a q h2 h]
      grind
theorem tsum_put (ev : α → Rat) {G : List (α × Rat)} (hn : (G.map (·.1)).Nodup) (a : α) (q : Rat) : tsum ev (tput G a q) = tsum ev G + ev a * (q - (tget G a).getD 0) := by
  unfold tput
  rw [tget_any]
  cases h : tget G a with
  | none =>
    rw [if_neg (by simp), tsum_app, tsum_cons, tsum_nil]
    show _ = tsum ev G + ev a * (q - 0)
    grind
  | some b =>
    rw [if_pos (by rfl), tsum_map ev a q hn h]
    rfl
theorem tsum_drop (ev : α → Rat) (a : α) : ∀ {G : List (α × Rat)}, (G.map (·.1)).Nodup → tsum ev (tdrop G a) = tsum ev G - ev a * (tget G a).getD 0
  | [], _ => by show (0 : Rat) = 0 - ev a * 0; grind
  | p :: G, hn => by
    rw [List.map_cons] at hn
    obtain ⟨h1, h2⟩ := List.nodup_cons.mp hn
    have ih := tsum_drop ev a h2
    unfold tdrop at ih ⊢
    by_cases e : p.1 = a
    · rw [List.filter_cons_of_neg (by simpa using e), ih, tget_pos e, tsum_cons]
      have : tget G a = none := by
        cases q : tget G a with
        | none => rfl
        | some b => exact absurd (e ▸ tget_isSome.mp (by rw [q]; rfl)) h1
      rw [this, e]
      show tsum ev G - ev a * 0 = ev a * p.2 + tsum ev G - ev a * p.2
      grind
    · rw [List.filter_cons_of_pos (by simpa using e), tsum_cons, ih, tget_neg e, tsum_cons]
      grind
end
/-! ### a dict holds a table -/
abbrev RT {α β : Type} (ek : α → NestedKey) (R : V → β → Prop) (F : List (NestedKey × V)) (G : List (α × β)) : Prop := Paired (fun (p : NestedKey × V) (q : α × β) => p.1 = ek q.1 ∧ R p.2 q.2) F G
section
variable {α β : Type} [DecidableEq α] {ek : α → NestedKey} {R R' : V → β → Prop} {F : List (NestedKey × V)} {G : List (α × β)}
theorem RT.mono (h : RT ek R F G) (m : ∀ v b, R v b → R' v b) : RT ek R' F G := by
  induction h with
  | nil => exact .nil
  | cons h _ ih => exact .cons ⟨h.1, m _ _ h.2⟩ ih
theorem RT.len (h : RT ek R F G) : F.length = G.length := by
  induction h with
  | nil => rfl
  | cons _ _ ih => simp [ih]
theorem RT.keys (h : RT ek R F G) : F.map (·.1) = G.map fun p => ek p.1 := by
  induction h with
  | nil => rfl
  | cons h _ ih => rw [List.map_cons, List.map_cons, ih, h.1]
theorem RT.at_ (h : RT ek R F G) : ∀ {i : Nat} {k : NestedKey} {v : V}, F[i]? = some (k, v) → ∃ a b, G[i]? = some (a, b) ∧ k = ek a ∧ R v b := by
  induction h with
  | nil => intro i k v e; simp at e
  | @cons p q F G h _ ih =>
    intro i k v e
    cases i with
    | zero =>
      rw [List.getElem?_cons_zero] at e
      cases e
      exact ⟨q.1, q.2, rfl, h.1, h.2⟩
    | succ i => simpa using ih (by simpa using e)
theorem RT.val (inj : ∀ a b, ek a = ek b → a = b) (h : RT ek R F G) (a : α) : (valV F (ek a) = none ∧ tget G a = none) ∨ ∃ v b, valV F (ek a) = some v ∧ tget G a = some b ∧ R v b := by
  induction h with
  | nil => exact .inl ⟨rfl, rfl⟩
  | @cons p q F G h _ ih =>
    by_cases e : q.1 = a
    · exact .inr ⟨p.2, q.2, valV_pos (by rw [h.1, e]), tget_pos e, h.2⟩
    · rw [valV_neg (fun z => e (inj _ _ (h.1.symm.trans z))), tget_neg e]
      exact ih
theorem RT.val_some (inj : ∀ a b, ek a = ek b → a = b) (h : RT ek R F G) {a : α} {b : β} (e : tget G a = some b) : ∃ v, valV F (ek a) = some v ∧ R v b := by
  rcases h.val inj a with ⟨_, h2⟩ | ⟨v, b', h1, h2, h3⟩
  · rw [e] at h2; cases h2
  · rw [e] at h2; cases h2; exact ⟨v, h1, h3⟩
theorem RT.isSome (inj : ∀ a b, ek a = ek b → a = b) (h : RT ek R F G) (a : α) : (valV F (ek a)).isSome = (tget G a).isSome := by
  rcases h.val inj a with ⟨h1, h2⟩ | ⟨v, b', h1, h2, h3⟩
  · rw [h1, h2]; rfl
  · rw [h1, h2]; rfl
theorem RT.snoc (h : RT ek R F G) {a : α} {v : V} {b : β} (r : R v b) : RT ek R (F ++ [(ek a, v)]) (G ++ [(a, b)]) := Paired.snoc h ⟨rfl, r⟩
theorem RT.repl (inj : ∀ a b, ek a = ek b → a = b) (h : RT ek R F G) (a : α) {v : V} {b : β} (r : R v b) : RT ek R (F.map fun p => if p.1 = ek a then (p.1, v) else p) (G.map fun p => if p.1 = a then (p.1, b) else p) := by
  induction h with
  | nil => exact .nil
  | @cons p q F G h _ ih =>
    rw [List.map_cons, List.map_cons]
    refine .cons ?_ ih
    by_cases e : q.1 = a
    · rw [if_pos e, if_pos (by rw [h.1, e])]
      exact ⟨h.1, r⟩
    · rw [if_neg e, if_neg (fun z => e (inj _ _ (h.1.symm.trans z)))]
      exact h
theorem RT.put (inj : ∀ a b, ek a = ek b → a = b) (h : RT ek R F G) (a : α) {v : V} {b : β} (r : R v b) : RT ek R (putK F (ek a) v) (tput G a b) := by
  unfold putK tput
  rw [valV_any, tget_any, h.isSome inj a]
  split
  · exact h.repl inj a r
  · exact h.snoc r
theorem RT.drop (inj : ∀ a b, ek a = ek b → a = b) (h : RT ek R F G) (a : α) : RT ek R (dropK F (ek a)) (tdrop G a) := by
  unfold dropK tdrop
  induction h with
  | nil => exact .nil
  | @cons p q F G h _ ih =>
    by_cases e : q.1 = a
    · rw [List.filter_cons_of_neg (by simp [h.1, e]), List.filter_cons_of_neg (by simp [e])]
      exact ih
    · rw [List.filter_cons_of_pos (by simp; intro z; exact e (inj _ _ (h.1.symm.trans z))), List.filter_cons_of_pos (by simp [e])]
      exact .cons h ih
theorem RT.nodup (inj : ∀ a b, ek a = ek b → a = b) (h : RT ek R F G) (n : (F.map (·.1)).Nodup) : (G.map (·.1)).Nodup := by
  rw [h.keys] at n
  have e : (G.map fun p => ek p.1) = (G.map (·.1)).map ek := by rw [List.map_map]; rfl
  rw [e] at n
  exact nodup_of_map ek n
end
end U
set_option Elab.async false
set_option linter.all false
set_option maxRecDepth 100000
set_option maxHeartbeats 4000000
/-! What the walks ask of the text. Printed by gen_txt.py. -/
namespace U
open PySem PySem.Spec PyProof.Rows L2
/-- a constant of the top: a tuple of two ints -/
def ConAt (K : PySem.W.Frag) (mg : Str → Option Value) (x : Str) (i j : Int) : Prop := ∃ a, mg x = some (.ref a) ∧ ∀ H, Tq K H a [.int i, .int j]
structure Txt (K : PySem.W.Frag) (mg : Str → Option Value) : Prop where
  b_abs : mg "abs" = none
  b_len : mg "len" = none
  b_range : mg "range" = none
  b_dict : mg "dict" = none
  b_sorted : mg "sorted" = none
  b_tuple : mg "tuple" = none
  b_list : mg "list" = none
  b_enumerate : mg "enumerate" = none
  b_zip : mg "zip" = none
  b_max : mg "max" = none
  b_int : mg "int" = none
  b_isinstance : mg "isinstance" = none
  b_all : mg "all" = none
  b_bool : mg "bool" = none
  b_str : mg "str" = none
  a_common : DefAt K mg "common" s_common
  a_fraction : DefAt K mg "fraction" s_fraction
  a_plus : DefAt K mg "plus" s_plus
  a_less : DefAt K mg "less" s_less
  a_times : DefAt K mg "times" s_times
  a_over : DefAt K mg "over" s_over
  a_letter_mark : DefAt K mg "letter_mark" s_letter_mark
  a_number_form : DefAt K mg "number_form" s_number_form
  a_mark_form : DefAt K mg "mark_form" s_mark_form
  a_added : DefAt K mg "added" s_added
  a_scaled : DefAt K mg "scaled" s_scaled
  a_taken_off : DefAt K mg "taken_off" s_taken_off
  a_multiplied : DefAt K mg "multiplied" s_multiplied
  a_row_value : DefAt K mg "row_value" s_row_value
  a_run : DefAt K mg "run" s_run
  a_needed_rows : DefAt K mg "needed_rows" s_needed_rows
  a_undivided : DefAt K mg "undivided" s_undivided
  a_poly : DefAt K mg "poly" s_poly
  a_turned : DefAt K mg "turned" s_turned
  a_poly_plus : DefAt K mg "poly_plus" s_poly_plus
  a_poly_less : DefAt K mg "poly_less" s_poly_less
  a_powers_added : DefAt K mg "powers_added" s_powers_added
  a_poly_times : DefAt K mg "poly_times" s_poly_times
  a_plain_poly : DefAt K mg "plain_poly" s_plain_poly
  a_row_quotient : DefAt K mg "row_quotient" s_row_quotient
  a_quotients : DefAt K mg "quotients" s_quotients
  a_points_up_to : DefAt K mg "points_up_to" s_points_up_to
  a_runs_at : DefAt K mg "runs_at" s_runs_at
  a_good_point : DefAt K mg "good_point" s_good_point
  a_l_box : DefAt K mg "_law_box" s_l_box
  a_l_take : DefAt K mg "_law_take" s_l_take
  a_l_names : DefAt K mg "_law_names" s_l_names
  a_l_fraction : DefAt K mg "_law_fraction" s_l_fraction
  a_l_plus : DefAt K mg "_law_plus" s_l_plus
  a_l_times : DefAt K mg "_law_times" s_l_times
  a_l_number : DefAt K mg "_law_number" s_l_number
  a_l_small : DefAt K mg "_law_small" s_l_small
  a_l_point : DefAt K mg "_law_point" s_l_point
  a_l_weight : DefAt K mg "_law_weight" s_l_weight
  a_l_drawn_row : DefAt K mg "_law_drawn_row" s_l_drawn_row
  a_l_deed : DefAt K mg "_law_deed" s_l_deed
  a_l_run : DefAt K mg "_law_run" s_l_run
  a_l_good : DefAt K mg "_law_good" s_l_good
  a_l_number_is : DefAt K mg "_law_number_is" s_l_number_is
  a_l_fraction_is : DefAt K mg "_law_fraction_is" s_l_fraction_is
  a_l_whole_row_is : DefAt K mg "_law_whole_row_is" s_l_whole_row_is
  a_l_whole_is : DefAt K mg "_law_whole_is" s_l_whole_is
  a_l_old : DefAt K mg "_law_old" s_l_old
  a_l_pointed : DefAt K mg "_law_pointed" s_l_pointed
  a_l_paper_is : DefAt K mg "_law_paper_is" s_l_paper_is
  a_law : DefAt K mg "law" s_law
  k_nought : ConAt K mg "NOUGHT" 0 1
  k_one : ConAt K mg "ONE_fractions" 1 1
  k_onef : ConAt K mg "ONE_forms" 1 1
section
variable {X : Cx} {x : Str} {i j : Int} {pos : Pos}
def tCon (K : PySem.W.Frag) (i j : Int) : TE := fun _ H Q => ∀ a, (∀ H, Tq K H a [.int i, .int j]) → Q (.ref a) H
theorem pe_con (h : ConAt X.K X.mg x i j) (hg : Gl X x) (hd : (x == ("__debug__" : Str)) = false := by decide) : PE X (.Name x pos) (tCon X.K i j) := by
  obtain ⟨a, hm, ha⟩ := h
  refine ⟨fun pins s σ H Q I q => ?_⟩
  exact (pe_glob (X := X) (pos := pos) hg hm (v := .ref a) rfl hd).run pins s σ H Q I (q a ha)
end
theorem rhu {k : Nat} {A : Around} (h : Room k A) : A.units + 64 < cLine := by have := h.un; omega
theorem rhu5 {k : Nat} {A : Around} (h : Room k A) : A.units + 65 < cLine := by have := h.un; omega
theorem rhu100 {k : Nat} {A : Around} (h : Room k A) : A.units + 100 < cLine := by have := h.un; omega
end U
set_option Elab.async false
set_option linter.all false
set_option maxRecDepth 100000
set_option maxHeartbeats 4000000
/-! The forms in plain Lean. -/
namespace U
open PySem PySem.Spec PyProof.Rows L2
open PySem.W (EachIs AllAlike dataLe dataKind SortsAt)
abbrev Form := List (Mono × Rat)
def srtM (m : Mono) : Mono := m.mergeSort (dataLe false eK)
def addStep (acc : Form) (p : Mono × Rat) : Form :=
  if ((tget acc p.1).getD 0 + p.2) = 0 then tdrop (tput acc p.1 ((tget acc p.1).getD 0 + p.2)) p.1 else tput acc p.1 ((tget acc p.1).getD 0 + p.2)
def addF (one other : Form) : Form := other.foldl addStep one
def scF (f : Form) (q : Rat) : Form := if q = 0 then [] else f.map fun p => (p.1, p.2 * q)
def offF (one other : Form) : Form := addF one (scF other (-1))
def mulStep (p : Mono × Rat) (acc : Form) (r : Mono × Rat) : Form := tput acc (srtM (p.1 ++ r.1)) (p.2 * r.2)
def mulRow (p : Mono × Rat) (other : Form) : Form := other.foldl (mulStep p) []
def mulF (one other : Form) : Form := one.foldl (fun found p => addF found (mulRow p other)) []
def numF (q : Rat) : Form := if q = 0 then [] else [([], q)]
def markF (m : Mark) : Form := [([m], 1)]
/-- keys few and apart -/
structure Fm (f : Form) : Prop where
  ks : ∀ p ∈ f, InS p.1
  nd : (f.map (·.1)).Nodup
theorem addStep_get (acc : Form) (p : Mono × Rat) (c : Mono) (h : c ≠ p.1) : tget (addStep acc p) c = tget acc c := by
  unfold addStep
  split
  · rw [tget_drop, if_neg h, tget_put, if_neg h]
  · rw [tget_put, if_neg h]
theorem addStep_nd {acc : Form} (p : Mono × Rat) (h : (acc.map (·.1)).Nodup) : ((addStep acc p).map (·.1)).Nodup := by
  unfold addStep
  split
  · exact nodup_drop (nodup_put h _ _) _
  · exact nodup_put h _ _
theorem addStep_mem {acc : Form} {p q : Mono × Rat} (h : q ∈ addStep acc p) : q ∈ acc ∨ (q.1 = p.1 ∧ q.2 = (tget acc p.1).getD 0 + p.2) := by
  unfold addStep at h
  split at h
  · rcases mem_put (mem_drop h).1 with e | e
    · exact .inr ⟨by rw [e], by rw [e]⟩
    · exact .inl e
  · rcases mem_put h with e | e
    · exact .inr ⟨by rw [e], by rw [e]⟩
    · exact .inl e
theorem addStep_sum (ev : Mono → Rat) {acc : Form} (p : Mono × Rat) (h : (acc.map (·.1)).Nodup) : tsum ev (addStep acc p) = tsum ev acc + ev p.1 * p.2 := by
  unfold addStep
  split
  · rename_i e
    rw [tsum_drop ev _ (nodup_put h _ _), tsum_put ev h, tget_put, if_pos rfl, Option.getD_some]
    grind
  · rw [tsum_put ev h]
    grind
theorem addStep_len (acc : Form) (p : Mono × Rat) : (addStep acc p).length ≤ acc.length + 1 := by
  unfold addStep
  split
  · exact Nat.le_trans (len_drop _ _) (len_put _ _ _)
  · exact len_put _ _ _
theorem fold_nd : ∀ (other : Form) {one : Form}, (one.map (·.1)).Nodup → ((other.foldl addStep one).map (·.1)).Nodup
  | [], _, h => h
  | p :: o, _, h => fold_nd o (addStep_nd p h)
theorem fold_sum (ev : Mono → Rat) : ∀ (other : Form) {one : Form}, (one.map (·.1)).Nodup → tsum ev (other.foldl addStep one) = tsum ev one + tsum ev other
  | [], one, h => by rw [tsum_nil]; show tsum ev one = _; grind
  | p :: o, one, h => by
    rw [List.foldl_cons, fold_sum ev o (addStep_nd p h), addStep_sum ev p h, tsum_cons]
    grind
theorem fold_len : ∀ (other one : Form), (other.foldl addStep one).length ≤ one.length + other.length
  | [], one => by simp
  | p :: o, one => by
    rw [List.foldl_cons, List.length_cons]
    have h1 := fold_len o (addStep one p)
    have h2 := addStep_len one p
    omega
/-- what each product of a sum is -/
theorem fold_mem : ∀ (other one : Form), (other.map (·.1)).Nodup → ∀ q ∈ other.foldl addStep one, q ∈ one ∨ ∃ p ∈ other, q.1 = p.1 ∧ q.2 = (tget one p.1).getD 0 + p.2
  | [], one, _, q, h => .inl h
  | p :: o, one, hn, q, h => by
    rw [List.map_cons] at hn
    obtain ⟨h1, h2⟩ := List.nodup_cons.mp hn
    rw [List.foldl_cons] at h
    rcases fold_mem o (addStep one p) h2 q h with h | ⟨r, hr, e1, e2⟩
    · rcases addStep_mem h with h | ⟨e1, e2⟩
      · exact .inl h
      · exact .inr ⟨p, List.mem_cons_self .., e1, e2⟩
    · have ne : r.1 ≠ p.1 := fun e => h1 (e ▸ List.mem_map.mpr ⟨r, hr, rfl⟩)
      rw [addStep_get _ _ _ ne] at e2
      exact .inr ⟨r, List.mem_cons_of_mem _ hr, e1, e2⟩
theorem Fm.add {f g : Form} (hf : Fm f) (hg : Fm g) : Fm (addF f g) := by
  refine ⟨fun q hq => ?_, fold_nd g hf.nd⟩
  rcases fold_mem g f hg.nd q hq with h | ⟨p, hp, e, _⟩
  · exact hf.ks q h
  · rw [e]; exact hg.ks p hp
theorem addF_sum (ev : Mono → Rat) {f : Form} (hf : Fm f) (g : Form) : tsum ev (addF f g) = tsum ev f + tsum ev g := fold_sum ev g hf.nd
theorem addF_mem {f g : Form} (hg : Fm g) {q : Mono × Rat} (h : q ∈ addF f g) : q ∈ f ∨ ∃ p ∈ g, q.1 = p.1 ∧ q.2 = (tget f p.1).getD 0 + p.2 := fold_mem g f hg.nd q h
theorem addF_len (f g : Form) : (addF f g).length ≤ f.length + g.length := fold_len g f
/-! ### scaled -/
theorem scF_sum (ev : Mono → Rat) (f : Form) (q : Rat) : tsum ev (scF f q) = tsum ev f * q := by
  unfold scF
  split
  · rename_i h; rw [h, tsum_nil]; grind
  · induction f with
    | nil => rw [List.map_nil, tsum_nil]; grind
    | cons p f ih => rw [List.map_cons, tsum_cons, tsum_cons, ih]; grind
theorem Fm.sc {f : Form} (h : Fm f) (q : Rat) : Fm (scF f q) := by
  unfold scF
  split
  · exact ⟨(fun p hp => by cases hp), List.nodup_nil⟩
  · refine ⟨fun p hp => ?_, ?_⟩
    · obtain ⟨r, hr, rfl⟩ := List.mem_map.mp hp
      exact h.ks r hr
    · rw [List.map_map]; exact h.nd
theorem scF_mem {f : Form} {q : Rat} {p : Mono × Rat} (h : p ∈ scF f q) : ∃ r ∈ f, p = (r.1, r.2 * q) := by
  unfold scF at h
  split at h
  · cases h
  · obtain ⟨r, hr, rfl⟩ := List.mem_map.mp h
    exact ⟨r, hr, rfl⟩
theorem scF_len (f : Form) (q : Rat) : (scF f q).length ≤ f.length := by
  unfold scF
  split
  · exact Nat.zero_le _
  · rw [List.length_map]; exact Nat.le_refl _
theorem Fm.off {f g : Form} (hf : Fm f) (hg : Fm g) : Fm (offF f g) := hf.add (hg.sc _)
theorem offF_sum (ev : Mono → Rat) {f : Form} (hf : Fm f) (g : Form) : tsum ev (offF f g) = tsum ev f - tsum ev g := by
  unfold offF
  rw [addF_sum ev hf, scF_sum]
  grind
/-! ### numbers, marks -/
theorem Fm.num (q : Rat) : Fm (numF q) := by
  unfold numF
  split
  · exact ⟨(fun p hp => by cases hp), List.nodup_nil⟩
  · refine ⟨fun p hp => ?_, by simp⟩
    rw [List.mem_singleton] at hp
    subst hp
    exact ⟨Nat.zero_le _, fun p hp => by cases hp⟩
theorem Fm.mark {m : Mark} (h : OkMark m) : Fm (markF m) := by
  refine ⟨fun p hp => ?_, by simp [markF]⟩
  unfold markF at hp
  rw [List.mem_singleton] at hp
  subst hp
  exact ⟨by simp, fun p hp => by rw [List.mem_singleton] at hp; subst hp; exact h⟩
/-! ### multiplied: of products of one mark at most -/
structure Lin (f : Form) : Prop where
  l1 : ∀ p ∈ f, p.1.length ≤ 1
  fm : Fm f
theorem srtM_perm (m : Mono) : (srtM m).Perm m := List.mergeSort_perm ..
theorem srtM_inS {a b : Mono} (ha : InS a) (hb : InS b) (la : a.length ≤ 1) (lb : b.length ≤ 1) : InS (srtM (a ++ b)) := by
  refine ⟨?_, fun p hp => ?_⟩
  · rw [(srtM_perm _).length_eq, List.length_append]; omega
  · rcases List.mem_append.mp ((srtM_perm _).mem_iff.mp hp) with h | h
    · exact ha.2 p h
    · exact hb.2 p h
theorem perm_cancel {a b c : Mono} (h : (a ++ b).Perm (a ++ c)) : b.Perm c := (List.perm_append_left_iff a).mp h
theorem srt_inj {a b c : Mono} (hb : b.length ≤ 1) (hc : c.length ≤ 1) (h : srtM (a ++ b) = srtM (a ++ c)) : b = c := by
  have p : (a ++ b).Perm (a ++ c) := ((srtM_perm _).symm.trans (h ▸ .refl _)).trans (srtM_perm _)
  have q := perm_cancel p
  match b, c, hb, hc with
  | [], [], _, _ => rfl
  | [], x :: c, _, _ => simp at q
  | x :: b, [], _, _ => simp at q
  | [x], [y], _, _ => rw [List.singleton_perm] at q; simpa using q
  | _ :: _ :: _, _, h, _ => simp at h
  | [_], _ :: _ :: _, _, h => simp at h
theorem mulRow_eq (p : Mono × Rat) : ∀ (other acc : Form), (∀ r ∈ other, r.1.length ≤ 1) → (other.map (·.1)).Nodup → (∀ r ∈ other, tget acc (srtM (p.1 ++ r.1)) = none) → other.foldl (mulStep p) acc = acc ++ other.map fun r => (srtM (p.1 ++ r.1), p.2 * r.2)
  | [], acc, _, _, _ => by simp
  | r :: o, acc, hl, hn, h => by
    rw [List.map_cons] at hn
    obtain ⟨h1, h2⟩ := List.nodup_cons.mp hn
    have e : mulStep p acc r = acc ++ [(srtM (p.1 ++ r.1), p.2 * r.2)] := by
      unfold mulStep tput
      rw [tget_any, h r (List.mem_cons_self ..)]
      rfl
    rw [List.foldl_cons, mulRow_eq p o _ (fun s hs => hl s (List.mem_cons_of_mem _ hs)) h2, e, List.map_cons]
    · simp
    · intro s hs
      rw [e, tget_app, h s (List.mem_cons_of_mem _ hs), tget_neg]
      · rfl
      · intro z
        have := srt_inj (hl r (List.mem_cons_self ..)) (hl s (List.mem_cons_of_mem _ hs)) z
        exact h1 (this ▸ List.mem_map.mpr ⟨s, hs, rfl⟩)
theorem mulRow_is (p : Mono × Rat) {other : Form} (h : Lin other) : mulRow p other = other.map fun r => (srtM (p.1 ++ r.1), p.2 * r.2) := by
  have := mulRow_eq p other [] h.l1 h.fm.nd (fun _ _ => rfl)
  simpa [mulRow] using this
theorem Fm.mulRow {p : Mono × Rat} {other : Form} (hp : InS p.1) (lp : p.1.length ≤ 1) (h : Lin other) : Fm (mulRow p other) := by
  rw [mulRow_is p h]
  refine ⟨fun q hq => ?_, ?_⟩
  · obtain ⟨r, hr, rfl⟩ := List.mem_map.mp hq
    exact srtM_inS hp (h.fm.ks r hr) lp (h.l1 r hr)
  · rw [List.map_map]
    have e : other.map ((·.1) ∘ fun r : Mono × Rat => (srtM (p.1 ++ r.1), p.2 * r.2)) = (other.map (·.1)).map fun m => srtM (p.1 ++ m) := by rw [List.map_map]; rfl
    rw [e]
    refine nodup_map_of_inj _ h.fm.nd fun a ha b hb z => ?_
    obtain ⟨r, hr, rfl⟩ := List.mem_map.mp ha
    obtain ⟨s, hs, rfl⟩ := List.mem_map.mp hb
    exact srt_inj (h.l1 r hr) (h.l1 s hs) z
/-- a mark's value, a product's -/
def evM (v : Mark → Rat) (m : Mono) : Rat := (m.map v).foldr (· * ·) 1
theorem evM_app (v : Mark → Rat) (a b : Mono) : evM v (a ++ b) = evM v a * evM v b := by
  induction a with
  | nil => show evM v b = 1 * evM v b; grind
  | cons p a ih => show v p * evM v (a ++ b) = v p * evM v a * evM v b; rw [ih]; grind
theorem evM_perm (v : Mark → Rat) {a b : Mono} (h : a.Perm b) : evM v a = evM v b := by
  induction h with
  | nil => rfl
  | cons x _ ih => show v x * _ = v x * _; rw [show List.foldr (· * ·) 1 (List.map v _) = _ from ih]; rfl
  | swap x y l => show v y * (v x * evM v l) = v x * (v y * evM v l); grind
  | trans _ _ h1 h2 => exact h1.trans h2
theorem mulRow_sum (v : Mark → Rat) (p : Mono × Rat) {other : Form} (h : Lin other) : tsum (evM v) (mulRow p other) = evM v p.1 * p.2 * tsum (evM v) other := by
  rw [mulRow_is p h]
  clear h
  induction other with
  | nil => rw [List.map_nil, tsum_nil]; grind
  | cons r o ih =>
    rw [List.map_cons, tsum_cons, tsum_cons, ih]
    show evM v (srtM (p.1 ++ r.1)) * (p.2 * r.2) + _ = _
    rw [evM_perm v (srtM_perm _), evM_app]
    grind
theorem mulFold (v : Mark → Rat) {other : Form} (ho : Lin other) : ∀ (one : Form), (∀ p ∈ one, InS p.1 ∧ p.1.length ≤ 1) → ∀ acc, Fm acc →
    Fm (one.foldl (fun found p => addF found (mulRow p other)) acc) ∧ tsum (evM v) (one.foldl (fun found p => addF found (mulRow p other)) acc) = tsum (evM v) acc + tsum (evM v) one * tsum (evM v) other
  | [], _, acc, h => ⟨h, by rw [tsum_nil]; show tsum (evM v) acc = _; grind⟩
  | p :: o, hp, acc, h => by
    have h1 := hp p (List.mem_cons_self ..)
    obtain ⟨r1, r2⟩ := mulFold v ho o (fun q hq => hp q (List.mem_cons_of_mem _ hq)) (addF acc (mulRow p other)) (h.add (Fm.mulRow h1.1 h1.2 ho))
    refine ⟨r1, ?_⟩
    rw [List.foldl_cons, r2, addF_sum _ h, mulRow_sum v p ho, tsum_cons]
    grind
theorem Fm.nil : Fm [] := ⟨(fun p hp => by cases hp), List.nodup_nil⟩
theorem Fm.mul {f g : Form} (hf : Lin f) (hg : Lin g) : Fm (mulF f g) := (mulFold (fun _ => 0) hg f (fun p hp => ⟨hf.fm.ks p hp, hf.l1 p hp⟩) [] .nil).1
theorem mulF_sum (v : Mark → Rat) {f g : Form} (hf : Lin f) (hg : Lin g) : tsum (evM v) (mulF f g) = tsum (evM v) f * tsum (evM v) g := by
  have := (mulFold v hg f (fun p hp => ⟨hf.fm.ks p hp, hf.l1 p hp⟩) [] .nil).2
  unfold mulF
  rw [this, tsum_nil]
  grind
end U
set_option Elab.async false
set_option linter.all false
set_option maxRecDepth 100000
set_option maxHeartbeats 4000000
/-! The forms' functions, walked. -/
namespace U
open PySem PySem.Spec PyProof.Rows L2
open PySem.W (EachIs AllAlike dataLe dataKind SortsAt)
/-- values are fractions -/
abbrev RQ (K : PySem.W.Frag) (H : Hp) : V → Rat → Prop := fun v q => TD K H v (eF q)
/-- at d stands a form -/
structure FD (P : Program) (w : World) (K : PySem.W.Frag) (H : Hp) (d : Addr) (f : Form) : Prop where
  ex : ∃ o F, NDo P w K H d o F ∧ RT keyM (RQ K H) F f
section
variable {P : Program} {w : World} {K : PySem.W.Frag} {H H' : Hp} {d : Addr} {f : Form} {F : List (NestedKey × V)}
theorem RQ.up (k : Kp H H') (h : RT keyM (RQ K H) F f) : RT keyM (RQ K H') F f := h.mono fun _ _ t => TD.up k t
theorem FD.same (h : FD P w K H d f) (s : Same H H') : FD P w K H' d f := by
  obtain ⟨o, F, h1, h2⟩ := h.ex
  exact ⟨o, F, h1.same s, RQ.up (.of s) h2⟩
theorem FD.ch {S : Addr → Prop} (h : FD P w K H d f) (c : Ch S H H') (n : ¬ S d) : FD P w K H' d f := by
  obtain ⟨o, F, h1, h2⟩ := h.ex
  exact ⟨o, F, h1.up c.kp (c.keep _ _ n h1.at_), RQ.up c.kp h2⟩
theorem FD.len (h : FD P w K H d f) : f.length ≤ sizeLine := by
  obtain ⟨o, F, h1, h2⟩ := h.ex
  rw [← h2.len]; exact h1.len
theorem keyMi : ∀ a b : Mono, keyM a = keyM b → a = b := fun _ _ => keyM_inj
theorem FD.nd (h : FD P w K H d f) : (f.map (·.1)).Nodup := by
  obtain ⟨o, F, h1, h2⟩ := h.ex
  exact h2.nodup keyMi h1.nodup
end
theorem sameNew {H H1 : Hp} {p : Addr} {o : HO} (hp : H p = none) (c : Ch (· = p) (upd H p o) H1) : Same H H1 := fun b u e => by
  have ne : b ≠ p := ne_of_none e hp
  exact c.keep b u ne (by rw [upd_ne ne]; exact e)
theorem fold_get : ∀ (other one : Form) {m : Mono}, m ∉ other.map (·.1) → tget (other.foldl addStep one) m = tget one m
  | [], _, _, _ => rfl
  | p :: o, one, m, h => by
    rw [List.map_cons, List.mem_cons] at h
    rw [List.foldl_cons, fold_get o _ (fun z => h (.inr z)), addStep_get _ _ _ (fun z => h (.inl z))]
theorem notin_take {α β : Type} : ∀ {g : List (α × β)} {i : Nat} {a : α} {b : β}, (g.map (·.1)).Nodup → g[i]? = some (a, b) → a ∉ (g.take i).map (·.1)
  | [], _, _, _, _, h => by simp at h
  | p :: g, 0, _, _, _, _ => by simp
  | p :: g, i + 1, a, b, hn, h => by
    rw [List.map_cons] at hn
    obtain ⟨h1, h2⟩ := List.nodup_cons.mp hn
    have h' : g[i]? = some (a, b) := by simpa using h
    rw [List.take_succ_cons, List.map_cons, List.mem_cons]
    rintro (e | e)
    · exact h1 (e ▸ List.mem_map.mpr ⟨_, List.mem_of_getElem? h', rfl⟩)
    · exact notin_take h2 h' e
/-- small coefficients -/
theorem iteB {b : Bool} {p q : Prop} (h1 : b = true → p) (h2 : b = false → q) : if b = true then p else q := by
  cases b
  · exact h2 rfl
  · exact h1 rfl
def SzF (f : Form) : Prop := ∀ p ∈ f, Sz 4400 p.2
def spAdded (P : Program) (w : World) (K : PySem.W.Frag) : Sp := fun vs H Q _ => ∃ (a b : Addr) (f g : Form), vs = [.ref a, .ref b] ∧ FD P w K H a f ∧ FD P w K H b g ∧ Fm f ∧ SzF f ∧ SzF g ∧ f.length + g.length < sizeLine ∧
  ∀ H' d, Same H H' → H d = none → FD P w K H' d (addF f g) → Q (.ref d) H'
theorem hash_rt (w : World) {K : PySem.W.Frag} {H : Hp} {F : List (NestedKey × V)} {f : Form} (h : RT keyM (RQ K H) F f) (m : Fm f) : (F.map fun p => p.1.hash w).Nodup := by
  have e : (F.map fun p => p.1.hash w) = (f.map (·.1)).map fun m => (keyM m).hash w := by
    have : (F.map fun p => p.1.hash w) = (F.map (·.1)).map fun k => k.hash w := by rw [List.map_map]; rfl
    rw [this, h.keys, List.map_map, List.map_map]
    rfl
  rw [e]
  exact hashes_apart w m.nd fun a ha => by
    obtain ⟨p, hp, rfl⟩ := List.mem_map.mp ha
    exact m.ks p hp
theorem Kp.tq {K : PySem.W.Frag} {H H' : Hp} {v : V} {d : PyData} (h : TD K H v d) (k : Kp H H') : TD K H' v d := h.up k
theorem sz0 : Sz 4400 0 := by constructor <;> decide
theorem td01 {K : PySem.W.Frag} {H : Hp} {a : Addr} (h : Tq K H a [.int 0, .int 1]) : TD K H (.ref a) (eF 0) := TD.of_fr (q := 0) h
section
variable {P : Program} {w : World} {K : PySem.W.Frag} {mg : Str → Option Value} {base : Heap}
theorem fr0 (T : Txt K mg) : Cal P w K mg base 1 "common" spCommon := c_common T.a_common T.b_abs
theorem fr_frac (T : Txt K mg) : Cal P w K mg base 2 "fraction" (spFraction K) := c_fraction T.a_fraction (fr0 T)
theorem f_plus (T : Txt K mg) : Cal P w K mg base 3 "plus" (spDeed K okS (· + ·)) := c_plus T.a_plus (fr_frac T)
theorem f_less (T : Txt K mg) : Cal P w K mg base 3 "less" (spDeed K okS (· - ·)) := c_less T.a_less (fr_frac T)
theorem f_times (T : Txt K mg) : Cal P w K mg base 3 "times" (spDeed K okS (· * ·)) := c_times T.a_times (fr_frac T)
theorem f_over (T : Txt K mg) : Cal P w K mg base 3 "over" (spDeed K okO (· / ·)) := c_over T.a_over (fr_frac T)

theorem sc_added : FnScope ["one", "other", "found", "product", "total"] ["one", "other"] (defScope s_added) := ⟨rfl, rfl, rfl, by decide +kernel, rfl, by decide +kernel, by decide +kernel⟩
theorem f_added (T : Txt K mg) : Cal P w K mg base 4 "added" (spAdded P w K) := by
  refine cal_of T.a_added sc_added (fun _ _ _ _ _ _ us hl => match us, hl with | [_, _], _ => rfl) (fun vs H Q E h => ?_) (fun fa cdv A outer s H vs Q E hr h => ?_)
  · obtain ⟨a, b, f, g, rfl, _⟩ := h
    rfl
  · obtain ⟨a, b, f, g, rfl, ha, hb, mf, szf, szg, hlen, q⟩ := h
    refine ⟨_, (pss_cons (ps_set (i := 2) sc_added.nd rfl (Or.inl rfl) (pe_callTy (call_dictN (rhu5 hr)) (by rfl) T.b_dict (by decide +kernel) (pa_cons (pv 0) pa_nil)))
(pss_cons (ps_for PassesOwn.never rfl (pi_nd (pv 1)) (pg_name (i := 3) sc_added.nd rfl (Or.inl rfl))
(pss_cons (ps_set (i := 4) sc_added.nd rfl (Or.inl rfl) (pe_c (f_plus T) hr (by decide) (by rfl) (pa_cons (pe_nget2 (rhu hr) (pv 2) (pv 3) (pe_tup (pa_cons pe_int (pa_cons pe_int pa_nil))) ⟨rfl, rfl, rfl, rfl⟩) (pa_cons (pe_nget (rhu hr) (pv 1) (pv 3) (fun _ _ => rfl)) pa_nil))))
(pss_cons (ps_nput (rhu hr) (pv 2) (pv 3) (pv 4) rfl)
(pss_one (ps_if (pt_cmpR op_eq (pe_ix ix_tup (pv 4) pe_int (fun _ _ => rfl)) pe_int (nomark _))
(pss_one (ps_expr (pe_npop (rhu hr) (pv 2) (pv 3) ⟨rfl, rfl, rfl, rfl⟩)))
pss_nil)))))
(pss_one (ps_ret (pv 2))))), ?_⟩
    obtain ⟨oa, Fa, na, ra⟩ := ha.ex
    obtain ⟨ob, Fb, nb, rb⟩ := hb.ex
    refine ⟨_, rfl, _, _, _, rfl, na, hash_rt w ra mf, fun p o1 hp n1 => ?_⟩
    have s1 : Same H (upd H p (pinO p o1)) := Same.new hp
    have hbp : b ≠ p := ne_of_none nb.at_ hp
    refine ⟨_, rfl, _, _, _, rfl, nb.same s1, ?_⟩
    refine for_it walk_nd (fun i σ H1 => i ≤ g.length ∧ σ.take 3 = [some (.ref a), some (.ref b), some (.ref p)] ∧ σ.length = 5 ∧ Ch (· = p) (upd H p (pinO p o1)) H1 ∧ FD P w K H1 p ((g.take i).foldl addStep f)) ?_ ?_ ?_ ?_
    · exact ⟨Nat.zero_le _, rfl, rfl, Ch.refl _ _, ⟨o1, Fa, n1, RQ.up (.of s1) ra⟩⟩
    · rintro i σ H1 _ ⟨_, _, _, c, _⟩
      exact (nb.same s1).up c.kp (c.keep _ _ hbp (s1 _ _ nb.at_))
    · rintro i x σ H1 H2 hi ⟨hig, hσ, hl, c, fd⟩ ⟨rfl, k, v, bk, ek, rfl, ky⟩
      obtain ⟨m, qv, eg, rfl, hv⟩ := (RQ.up ((Kp.of s1).trans c.kp) rb).at_ ek
      match σ, hσ, hl with
      | [_, _, _, x3, x4], hσ, _ =>
        cases hσ
        obtain ⟨o2, F2, n2, r2⟩ := fd.ex
        have nb2 : NDo P w K H2 b ob Fb := (nb.same s1).up c.kp (c.keep _ _ hbp (s1 _ _ nb.at_))
        have hmem : (m, qv) ∈ g := List.mem_of_getElem? eg
        have e1 : tget g m = some qv := tget_of_mem hb.nd hmem
        have e0 : tget ((g.take i).foldl addStep f) m = tget f m := fold_get (g.take i) f (notin_take hb.nd eg)
        have sz1 : Sz 4400 ((tget ((g.take i).foldl addStep f) m).getD 0) := by
          rw [e0]
          cases z : tget f m with
          | none => exact sz0
          | some b => exact szf _ (tget_mem z)
        have lacc : ((g.take i).foldl addStep f).length < sizeLine := by
          have := fold_len (g.take i) f
          have h3 : (g.take i).length ≤ g.length := by rw [List.length_take]; omega
          omega
        have eacc : (g.take (i + 1)).foldl addStep f = addStep ((g.take i).foldl addStep f) (m, qv) := by
          rw [List.take_add_one, eg, List.foldl_append]; rfl
        generalize (g.take i).foldl addStep f = acc at *
        refine ⟨_, rfl, _, rfl, ⟨o2, F2, n2⟩, _, rfl, two_le, fun t1 ht1 => ?_⟩
        have st : Same H2 (upd H2 t1 (.tup [.int 0, .int 1])) := Same.new ht1
        have tt1 : TD K (upd H2 t1 (.tup [.int 0, .int 1])) (.ref t1) (eF 0) := td01 (.inl upd_same)
        generalize upd H2 t1 (.tup [.int 0, .int 1]) = H3 at st tt1 ⊢
        obtain ⟨vb, evb, tvb⟩ := (RQ.up (.trans (.of s1) (c.kp.trans (.of st))) rb).val_some keyMi e1
        refine ⟨o2, F2, keyM m, bk, rfl, n2.same st, ky.up (.of st), _, rfl, _, rfl, b, ob, Fb, keyM m, bk, vb, rfl, rfl, nb2.same st, ky.up (.of st), evb, ?_⟩
        have ta : TD K H3 ((valV F2 (keyM m)).getD (.ref t1)) (eF ((tget acc m).getD 0)) := by
          rcases (RQ.up (.of st) r2).val keyMi m with ⟨h1, h2⟩ | ⟨v', b', h1, h2, h3⟩
          · rw [h1, h2]; exact tt1
          · rw [h1, h2]; exact h3
        refine ⟨_, _, _, _, rfl, ta, tvb, ⟨sz1, szg _ hmem⟩, fun H4 vt s4 tvt => ?_⟩
        have n4 := n2.same (st.trans s4)
        have k4 : KyAt K H4 bk (keyM m) := ky.up (.of (st.trans s4))
        have r4 : RT keyM (RQ K H4) F2 acc := RQ.up (.of (st.trans s4)) r2
        refine ⟨_, rfl, _, rfl, _, rfl, p, o2, F2, keyM m, bk, rfl, rfl, n4, k4, by rw [r2.len]; exact lacc, fun o5 n5 => ?_⟩
        have c5 : Ch (· = p) H4 (upd H4 p (pinO p o5)) := Ch.put rfl n4.at_ pinO_tup
        have r5 : RT keyM (RQ K (upd H4 p (pinO p o5))) (putK F2 (keyM m) vt) (tput acc m ((tget acc m).getD 0 + qv)) := (RQ.up c5.kp r4).put keyMi m (tvt.up c5.kp)
        have cc : Ch (· = p) (upd H p (pinO p o1)) (upd H4 p (pinO p o5)) := (c.same (st.trans s4)).trans c5
        obtain ⟨at4, rfl, tq4⟩ := (tvt.up c5.kp).fr
        refine ⟨_, rfl, _, _, _, _, rfl, rfl, tq4.sq, a0, rfl, _, rfl, ?_⟩
        have fin : ∀ H6, Ch (· = p) (upd H p (pinO p o1)) H6 → FD P w K H6 p (addStep acc (m, qv)) → i + 1 ≤ g.length ∧ List.take 3 [some (V.ref a), some (V.ref b), some (V.ref p), some (V.ref bk), some (V.ref at4)] = [some (.ref a), some (.ref b), some (.ref p)] ∧ [some (V.ref a), some (V.ref b), some (V.ref p), some (V.ref bk), some (V.ref at4)].length = 5 ∧ Ch (· = p) (upd H p (pinO p o1)) H6 ∧ FD P w K H6 p ((g.take (i + 1)).foldl addStep f) := fun H6 c6 d6 => ⟨by rw [rb.len] at hi; omega, rfl, rfl, c6, by rw [eacc]; exact d6⟩
        refine iteB (fun z => ?_) (fun z => ?_)
        · have ez : (tget acc m).getD 0 + qv = 0 := by
            have : V.int ((tget acc m).getD 0 + qv).num = V.int 0 := by simpa using z
            injection this with this
            exact Rat.num_eq_zero.mp this
          refine ⟨_, rfl, p, rfl, ⟨o5, _, n5⟩, _, rfl, ?_⟩
          obtain ⟨v6, e6, _⟩ := r5.val_some (a := m) (b := (tget acc m).getD 0 + qv) keyMi (by rw [tget_put, if_pos rfl])
          refine ⟨o5, _, keyM m, bk, v6, rfl, n5, k4.up c5.kp, e6, fun o7 n7 => ?_⟩
          have c7 : Ch (· = p) (upd H4 p (pinO p o5)) (upd (upd H4 p (pinO p o5)) p (pinO p o7)) := Ch.put rfl n5.at_ pinO_tup
          refine fin _ (cc.trans c7) ⟨o7, _, n7, ?_⟩
          have e8 : addStep acc (m, qv) = tdrop (tput acc m ((tget acc m).getD 0 + qv)) m := if_pos ez
          rw [e8]
          exact (RQ.up c7.kp r5).drop keyMi m
        · have ez : ¬ (tget acc m).getD 0 + qv = 0 := fun e => of_decide_eq_false z (by show V.int ((tget acc m).getD 0 + qv).num = _; rw [e]; rfl)
          refine fin _ cc ⟨o5, _, n5, ?_⟩
          have e8 : addStep acc (m, qv) = tput acc m ((tget acc m).getD 0 + qv) := if_neg ez
          rw [e8]
          exact r5
    · rintro σ H1 ⟨_, hσ, hl, c, fd⟩
      rw [rb.len] at fd
      match σ, hσ, hl with
      | [_, _, _, x3, x4], hσ, _ =>
        cases hσ
        refine ⟨_, rfl, q _ _ ?_ hp ?_⟩
        · exact sameNew hp c
        · rw [show g.take g.length = g from List.take_length] at fd
          exact fd
end
end U
set_option Elab.async false
set_option linter.all false
set_option maxRecDepth 100000
set_option maxHeartbeats 4000000
/-! The forms' functions, walked: the rest. -/
namespace U
open PySem PySem.Spec PyProof.Rows L2
open PySem.W (EachIs AllAlike dataLe dataKind SortsAt)
theorem prd_mono {α β : Type} {F G : α → β → Prop} {xs : List α} {ys : List β} (h : Paired F xs ys) (m : ∀ a b, F a b → G a b) : Paired G xs ys := by
  induction h with
  | nil => exact .nil
  | cons h _ ih => exact .cons (m _ _ h) ih
/-- within a comprehension -/
theorem pe_ngetB {X : Cx} {P : Program} {w : World} {K : PySem.W.Frag} {o i : Expr} {pos : Pos} {td ty : TE} (hP : X.prog = P) (hw : X.w = w) (hK : X.K = K) (hu : X.A.units + 64 < cLine) (ho : PE X o td) (hi : PE X i ty) (hs : NoSl i) : PE X (.Subscript o i pos) (tNGet P w K td ty) := by
  subst hP hw hK
  exact pe_nget hu ho hi hs
/-- t + u, any tuples -/
def rCatD (K : PySem.W.Frag) : R2 := fun x y H Q => ∃ a b xs ys, x = .ref a ∧ y = .ref b ∧ Tq K H a xs ∧ Tq K H b ys ∧ xs.length + ys.length ≤ sizeLine ∧ ∀ H' p, Same H H' → Tq K H' p (xs ++ ys) → Q (.ref p) H'
theorem op_catD {X : Cx} : OpR X (binaryOp .Add) (rCatD X.K) := by
  intro pins s σ H x y v u Q I rx ry h
  obtain ⟨a, b, xs, ys, rfl, rfl, ha, hb, hz, q⟩ := h
  exact op_catA pins s σ H _ _ v u Q I rx ry ⟨a, b, xs, ys, rfl, rfl, ha.sq, hb.sq, hz, fun e => q _ _ (fun _ _ h => h) (by rw [e]; exact hb), fun _ e => q _ _ (fun _ _ h => h) (by rw [e, List.append_nil]; exact ha), fun _ _ p hp => q _ _ (Same.new hp) (.inl upd_same)⟩
theorem sz_small {q : Rat} (h1 : q.num.natAbs < 2 ^ 64) (h2 : q.den < 2 ^ 64) : Sz 4400 q :=
  ⟨Nat.lt_of_lt_of_le h1 (Nat.pow_le_pow_right (by decide) (by decide)), Nat.lt_of_lt_of_le h2 (Nat.pow_le_pow_right (by decide) (by decide))⟩
theorem sz1n : Sz 4400 (-1) := sz_small (by decide) (by decide)
theorem same_rfl (H : Hp) : Same H H := fun _ _ h => h
theorem alike_eK (b c : Mark) : PySem.W.alike (eK b) (eK c) = true := rfl
theorem tup_eK (b : Mark) : ∃ ys, eK b = .tuple ys := ⟨_, rfl⟩
theorem d8_eK (b : Mark) : (eK b).depth ≤ 8 := by
  rw [show eK b = (keyK b).data from (keyK_data b).symm]
  simp [keyK, NestedKey.data, NestedKey.datas, PyData.depth, PyData.depthAll]
theorem tds_map {α : Type} {K : PySem.W.Frag} {H : Hp} (f : α → PyData) : ∀ {xs : List V} {bs : List α}, TDs K H xs (bs.map f) → EachIs (fun v b => TD K H v (f b)) xs bs
  | [], [], _ => .nil
  | _ :: _, _ :: _, .cons h hs => .cons h (tds_map f hs)
theorem each_tds {α : Type} {K : PySem.W.Frag} {H : Hp} (f : α → PyData) : ∀ {xs : List V} {bs : List α}, EachIs (fun v b => TD K H v (f b)) xs bs → TDs K H xs (bs.map f)
  | _, _, .nil => .nil
  | _, _, .cons h hs => .cons h (each_tds f hs)
section
variable {K : PySem.W.Frag} {H H' : Hp}
theorem TD.mono_inv {v : V} {m : Mono} (h : TD K H v (eM m)) : ∃ a xs, v = .ref a ∧ Tq K H a xs ∧ TDs K H xs (m.map eK) := h.tup_inv
theorem KyAt.mono_ {b : Addr} {m : Mono} (h : KyAt K H b (keyM m)) : TD K H (.ref b) (eM m) := by rw [← keyM_data]; exact h.td
theorem ky_of {b : Addr} {m : Mono} (h : TD K H (.ref b) (eM m)) : KyAt K H b (keyM m) := ⟨by rw [keyM_data]; exact h, keyM_depth m⟩
theorem kyK_of {b : Addr} {m : Mark} (h : TD K H (.ref b) (eK m)) : KyAt K H b (keyK m) := ⟨by rw [keyK_data]; exact h, keyK_depth m⟩
theorem TD.mark {a : Addr} {m : Mark} (h : Tq K H a [.int m.1, .int m.2]) : TD K H (.ref a) (eK m) := .tup h (.cons (.int _) (.cons (.int _) .nil))
theorem TD.mk {v : V} {m : Mark} (h : TD K H v (eK m)) : ∃ a, v = .ref a ∧ Tq K H a [.int m.1, .int m.2] := by
  obtain ⟨a, xs, rfl, ht, hs⟩ := h.tup_inv
  cases hs with
  | cons h1 hs => cases hs with
    | cons h2 hs => cases hs with
      | nil =>
        rw [h1.int_inv, h2.int_inv] at ht
        exact ⟨a, rfl, ht⟩
end
def spLetM (K : PySem.W.Frag) : Sp := fun vs H Q _ => ∃ k : Int, vs = [.int k] ∧ ∀ H' v, Same H H' → TD K H' v (eK (-1, k)) → Q v H'
def spNumF (P : Program) (w : World) (K : PySem.W.Frag) : Sp := fun vs H Q _ => ∃ (x : V) (q : Rat), vs = [x] ∧ TD K H x (eF q) ∧ ∀ H' d, Same H H' → H d = none → FD P w K H' d (numF q) → Q (.ref d) H'
def spMarkF (P : Program) (w : World) (K : PySem.W.Frag) : Sp := fun vs H Q _ => ∃ (x : V) (m : Mark), vs = [x] ∧ TD K H x (eK m) ∧ ∀ H' d, Same H H' → H d = none → FD P w K H' d (markF m) → Q (.ref d) H'
def spScaled (P : Program) (w : World) (K : PySem.W.Frag) : Sp := fun vs H Q _ => ∃ (a : Addr) (x : V) (f : Form) (q : Rat), vs = [.ref a, x] ∧ FD P w K H a f ∧ TD K H x (eF q) ∧ SzF f ∧ Sz 4400 q ∧ ∀ H' d, Same H H' → H d = none → FD P w K H' d (scF f q) → Q (.ref d) H'
def spOff (P : Program) (w : World) (K : PySem.W.Frag) : Sp := fun vs H Q _ => ∃ (a b : Addr) (f g : Form), vs = [.ref a, .ref b] ∧ FD P w K H a f ∧ FD P w K H b g ∧ Fm f ∧ SzF f ∧ SzF g ∧ f.length + g.length < sizeLine ∧
  ∀ H' d, Same H H' → H d = none → FD P w K H' d (offF f g) → Q (.ref d) H'
section
variable {P : Program} {w : World} {K : PySem.W.Frag} {mg : Str → Option Value} {base : Heap}
theorem fd_nil {H : Hp} {p : Addr} {o : Obj} (n : NDo P w K H p o []) : FD P w K H p [] := ⟨o, [], n, .nil⟩
theorem sc_letter_mark : FnScope ["k"] ["k"] (defScope s_letter_mark) := ⟨rfl, rfl, rfl, by decide +kernel, rfl, by decide +kernel, by decide +kernel⟩
theorem f_letter_mark (T : Txt K mg) : Cal P w K mg base 1 "letter_mark" (spLetM K) := by
  refine cal_of T.a_letter_mark sc_letter_mark (fun _ _ _ _ _ _ us hl => match us, hl with | [_], _ => rfl) (fun vs H Q E h => ?_) (fun fa cdv A outer s H vs Q E hr h => ?_)
  · obtain ⟨k, rfl, _⟩ := h
    rfl
  · obtain ⟨k, rfl, q⟩ := h
    refine ⟨_, (pss_one (ps_ret (pe_tup (pa_cons (pe_un un_neg pe_int) (pa_cons (pv 0) pa_nil))))), ?_⟩
    exact ⟨_, rfl, _, rfl, two_le, fun p hp => q _ _ (Same.new hp) (TD.mark (m := (-1, k)) (.inl upd_same))⟩
theorem sc_number_form : FnScope ["f"] ["f"] (defScope s_number_form) := ⟨rfl, rfl, rfl, by decide +kernel, rfl, by decide +kernel, by decide +kernel⟩
theorem f_number_form (T : Txt K mg) : Cal P w K mg base 1 "number_form" (spNumF P w K) := by
  refine cal_of T.a_number_form sc_number_form (fun _ _ _ _ _ _ us hl => match us, hl with | [_], _ => rfl) (fun vs H Q E h => ?_) (fun fa cdv A outer s H vs Q E hr h => ?_)
  · obtain ⟨x, k, rfl, _⟩ := h
    rfl
  · obtain ⟨x, f, rfl, hx, q⟩ := h
    refine ⟨_, (pss_cons (ps_if (pt_cmpR op_eq (pe_ix ix_tup (pv 0) pe_int (fun _ _ => rfl)) pe_int (nomark _))
(pss_one (ps_ret pe_nnew))
pss_nil)
(pss_one (ps_ret (pe_ndisp (rhu hr) (pe_tup pa_nil) (pv 0))))), ?_⟩
    obtain ⟨a, rfl, ta⟩ := hx.fr
    refine ⟨_, rfl, _, _, _, _, rfl, rfl, ta.sq, a0, rfl, _, rfl, ?_⟩
    refine iteB (fun z => ?_) (fun z => ?_)
    · have ez : f = 0 := by
        have : V.int f.num = V.int 0 := of_decide_eq_true z
        injection this with this
        exact Rat.num_eq_zero.mp this
      intro p hp n
      refine q _ _ (Same.new hp) hp ?_
      rw [ez, show numF 0 = [] from if_pos rfl]
      exact fd_nil n
    · have ez : ¬ f = 0 := fun e => of_decide_eq_false z (by rw [e]; rfl)
      intro p hp
      refine ⟨Nat.zero_le _, fun t ht => ⟨_, rfl, ?_⟩⟩
      have tp : t ≠ p := fun e => by rw [e, upd_same] at ht; cases ht
      refine ⟨by rw [upd_ne (Ne.symm tp), upd_same], t, keyM [], rfl, ky_of (.tup (.inl upd_same) .nil), fun o' n' => ?_⟩
      have s1 : Same H (upd (upd (upd H p (pinO p emptyD)) t (.tup [])) p (pinO p o')) := fun b u e => by
        have h1 : b ≠ p := ne_of_none e hp
        have h2 : b ≠ t := fun z => by
          rw [← z, upd_ne h1, e] at ht; cases ht
        rw [upd_ne h1, upd_ne h2, upd_ne h1]; exact e
      refine q _ _ s1 hp ?_
      rw [show numF f = [([], f)] from if_neg ez]
      exact ⟨o', _, n', .cons ⟨rfl, hx.up (.of s1)⟩ .nil⟩
theorem sc_mark_form : FnScope ["mark"] ["mark"] (defScope s_mark_form) := ⟨rfl, rfl, rfl, by decide +kernel, rfl, by decide +kernel, by decide +kernel⟩
theorem f_mark_form (T : Txt K mg) : Cal P w K mg base 1 "mark_form" (spMarkF P w K) := by
  refine cal_of T.a_mark_form sc_mark_form (fun _ _ _ _ _ _ us hl => match us, hl with | [_], _ => rfl) (fun vs H Q E h => ?_) (fun fa cdv A outer s H vs Q E hr h => ?_)
  · obtain ⟨x, k, rfl, _⟩ := h
    rfl
  · obtain ⟨x, m, rfl, hx, q⟩ := h
    refine ⟨_, (pss_one (ps_ret (pe_ndisp (rhu hr) (pe_tup (pa_cons (pv 0) pa_nil)) (pe_con T.k_onef (by rfl))))), ?_⟩
    intro p hp
    refine ⟨_, rfl, (by decide : 1 ≤ sizeLine), fun t ht a ha => ?_⟩
    have tp : t ≠ p := fun e => by rw [e, upd_same] at ht; cases ht
    have s0 : Same H (upd (upd H p (pinO p emptyD)) t (.tup [x])) := fun b u e => by
      have h1 : b ≠ p := ne_of_none e hp
      have h2 : b ≠ t := fun z => by
        rw [← z, upd_ne h1, e] at ht; cases ht
      rw [upd_ne h2, upd_ne h1]; exact e
    refine ⟨by rw [upd_ne (Ne.symm tp), upd_same], t, keyM [m], rfl, ky_of (.tup (.inl upd_same) (.cons (hx.up (.of s0)) .nil)), fun o' n' => ?_⟩
    have s1 : Same H (upd (upd (upd H p (pinO p emptyD)) t (.tup [x])) p (pinO p o')) := fun b u e => by
      have h1 : b ≠ p := ne_of_none e hp
      rw [upd_ne h1]; exact s0 _ _ e
    exact q _ _ s1 hp ⟨o', _, n', .cons ⟨rfl, TD.of_fr (q := 1) (ha _)⟩ .nil⟩
def N_scaled : List Str := ["form", "f", "product"]
theorem sc_scaled : FnScope ["form", "f", "product"] ["form", "f"] (defScope s_scaled) := ⟨rfl, rfl, rfl, by decide +kernel, rfl, by decide +kernel, by decide +kernel⟩
theorem f_scaled (T : Txt K mg) : Cal P w K mg base 4 "scaled" (spScaled P w K) := by
  refine cal_of T.a_scaled sc_scaled (fun _ _ _ _ _ _ us hl => match us, hl with | [_, _], _ => rfl) (fun vs H Q E h => ?_) (fun fa cdv A outer s H vs Q E hr h => ?_)
  · obtain ⟨a, x, f, k, rfl, _⟩ := h
    rfl
  · obtain ⟨a, x, f, qs, rfl, fd, hx, szf, szq, q⟩ := h
    refine ⟨_, (pss_cons (ps_if (pt_cmpR op_eq (pe_ix ix_tup (pv 1) pe_int (fun _ _ => rfl)) pe_int (nomark _))
(pss_one (ps_ret pe_nnew))
pss_nil)
(pss_one (ps_ret (pe_callTy (call_dictNP (rhu5 hr) rfl) (by rfl) T.b_dict (by decide +kernel) (pa_cons (pe_lc (own := [("product", 2)]) (g := gName 2) (by rfl) sc_scaled.nd (pi_nd (pv 0)) (blkOk_by (N := N_scaled) (sc := defScope s_scaled) (by decide +kernel)) (fun _ _ _ _ _ => (pg_name (i := 2) sc_scaled.nd rfl (Or.inl rfl))) (fun _ _ _ _ _ => pts_nil) (fun _ _ _ _ _ => (pe_tup (pa_cons (pv 2) (pa_cons (pe_c (f_times T) hr (by decide) (by rfl) (pa_cons (pe_ngetB rfl rfl rfl (rhu hr) (pv 0) (pv 2) (fun _ _ => rfl) (P := P) (w := w) (K := K)) (pa_cons (pv 1) pa_nil))) pa_nil))))) pa_nil))))), ?_⟩
    obtain ⟨ax, rfl, ta⟩ := hx.fr
    obtain ⟨o, F, nd, rt⟩ := fd.ex
    refine ⟨_, rfl, _, _, _, _, rfl, rfl, ta.sq, a0, rfl, _, rfl, ?_⟩
    refine iteB (fun z => ?_) (fun z => ?_)
    · have ez : qs = 0 := by
        have : V.int qs.num = V.int 0 := of_decide_eq_true z
        injection this with this
        exact Rat.num_eq_zero.mp this
      intro p hp n
      refine q _ _ (Same.new hp) hp ?_
      rw [ez, show scF f 0 = [] from if_pos rfl]
      exact fd_nil n
    · have ez : ¬ qs = 0 := fun e => of_decide_eq_false z (by rw [e]; rfl)
      refine ⟨_, rfl, _, _, _, rfl, nd, fun D hD => ?_⟩
      have s0 : Same H (upd H D (.lst [])) := Same.new hD
      have haD : a ≠ D := ne_of_none nd.at_ hD
      refine lc_it walk_nd (fun i H1 => i ≤ f.length ∧ Ch (· = D) (upd H D (.lst [])) H1 ∧ ∃ (ps : List Addr) (kvs : List (NestedKey × Addr × V)), H1 D = some (.lst (ps.map V.ref)) ∧ ps.length = i ∧ Paired (fun p x => Tq K H1 p [.ref x.2.1, x.2.2] ∧ KyAt K H1 x.2.1 x.1) ps kvs ∧ RT keyM (RQ K H1) (toF kvs) ((f.take i).map fun p => (p.1, p.2 * qs))) ?_ ?_ ?_ ?_
      · exact ⟨Nat.zero_le _, Ch.refl _ _, [], [], upd_same, rfl, .nil, .nil⟩
      · rintro i H1 _ ⟨_, c, _⟩
        exact (nd.same s0).up c.kp (c.keep _ _ haD (s0 _ _ nd.at_))
      · rintro i x H1 H2 hi ⟨hif, c, ps, kvs, hps, hpl, hpk, hrt⟩ ⟨rfl, k, v, bk, ek, rfl, ky⟩
        have nd2 : NDo P w K H2 a o F := (nd.same s0).up c.kp (c.keep _ _ haD (s0 _ _ nd.at_))
        have rt2 := RQ.up ((Kp.of s0).trans c.kp) rt
        obtain ⟨m, qv, eg, rfl, hv⟩ := rt2.at_ ek
        have e1 : tget f m = some qv := tget_of_mem fd.nd (List.mem_of_getElem? eg)
        obtain ⟨vb, evb, tvb⟩ := rt2.val_some keyMi e1
        refine ⟨rfl, _, rfl, _, rfl, _, rfl, a, o, F, keyM m, bk, vb, rfl, rfl, nd2, ky, evb, _, rfl, ?_⟩
        refine ⟨_, _, _, _, rfl, tvb, hx.up ((Kp.of s0).trans c.kp), ⟨szf _ (List.mem_of_getElem? eg), szq⟩, fun H3 v3 s3 t3 => ⟨two_le, fun pt hpt => ?_⟩⟩
        have s4 : Same H3 (upd H3 pt (.tup [.ref bk, v3])) := Same.new hpt
        have hD4 : upd H3 pt (.tup [.ref bk, v3]) D = some (.lst (ps.map V.ref)) := s4 _ _ (s3 _ _ hps)
        refine ⟨_, hD4, ?_, ?_⟩
        · rw [List.length_map, hpl]
          have := fd.len
          have := hi
          rw [rt.len] at this
          omega
        have c5 : Ch (· = D) (upd H3 pt (.tup [.ref bk, v3])) (upd (upd H3 pt (.tup [.ref bk, v3])) D (.lst (ps.map V.ref ++ [.ref pt]))) := Ch.put rfl hD4 (fun _ z => by cases z)
        have k5 : Kp H2 (upd (upd H3 pt (.tup [.ref bk, v3])) D (.lst (ps.map V.ref ++ [.ref pt]))) := (Kp.of (L2.Same.trans s3 s4)).trans c5.kp
        refine ⟨by rw [rt.len] at hi; omega, (c.same (L2.Same.trans s3 s4)).trans c5, ps ++ [pt], kvs ++ [(keyM m, bk, v3)], ?_, ?_, ?_, ?_⟩
        · rw [upd_same, List.map_append]; rfl
        · rw [List.length_append, hpl]; rfl
        · exact Paired.snoc (prd_mono hpk fun _ _ h => ⟨h.1.up k5, h.2.up k5⟩) ⟨.inl (c5.kp _ _ upd_same), ky.up k5⟩
        · rw [List.take_add_one, eg, List.map_append]
          have e : toF (kvs ++ [(keyM m, bk, v3)]) = toF kvs ++ [(keyM m, v3)] := by unfold toF; rw [List.map_append]; rfl
          rw [e]
          exact (RQ.up k5 hrt).snoc (t3.up ((Kp.of s4).trans c5.kp))
      · rintro H1 ⟨_, c, ps, kvs, hps, hpl, hpk, hrt⟩
        rw [rt.len, List.take_length] at hrt
        refine ⟨D, ps, kvs, rfl, hps, hpk, ?_, fun p o' hp n => ?_⟩
        · rw [← toF_keys, hrt.keys, List.map_map]
          have e : f.map ((fun p : Mono × Rat => keyM p.1) ∘ fun p => (p.1, p.2 * qs)) = (f.map (·.1)).map keyM := by rw [List.map_map]; rfl
          rw [e]
          exact nodup_map_of_inj _ fd.nd fun a _ b _ e => keyM_inj e
        · have hp0 : H p = none := by
            cases z : H p with
            | none => rfl
            | some u => rw [sameNew hD c _ _ z] at hp; cases hp
          refine q _ _ (L2.Same.trans (sameNew hD c) (Same.new hp)) hp0 ?_
          rw [show scF f qs = f.map fun p => (p.1, p.2 * qs) from if_neg ez]
          exact ⟨o', _, n, RQ.up (.of (Same.new hp)) hrt⟩
theorem sc_taken_off : FnScope ["one", "other"] ["one", "other"] (defScope s_taken_off) := ⟨rfl, rfl, rfl, by decide +kernel, rfl, by decide +kernel, by decide +kernel⟩
theorem f_taken_off (T : Txt K mg) : Cal P w K mg base 5 "taken_off" (spOff P w K) := by
  refine cal_of T.a_taken_off sc_taken_off (fun _ _ _ _ _ _ us hl => match us, hl with | [_, _], _ => rfl) (fun vs H Q E h => ?_) (fun fa cdv A outer s H vs Q E hr h => ?_)
  · obtain ⟨a, b, f, g, rfl, _⟩ := h
    rfl
  · obtain ⟨a, b, f, g, rfl, ha, hb, mf, szf, szg, hl, q⟩ := h
    refine ⟨_, (pss_one (ps_ret (pe_c (f_added T) hr (by decide) (by rfl) (pa_cons (pv 0) (pa_cons (pe_c (f_scaled T) hr (by decide) (by rfl) (pa_cons (pv 1) (pa_cons (pe_tup (pa_cons (pe_un un_neg pe_int) (pa_cons pe_int pa_nil))) pa_nil))) pa_nil))))), ?_⟩
    refine ⟨_, rfl, _, rfl, _, rfl, two_le, fun p hp => ?_⟩
    have s1 : Same H (upd H p (.tup [.int (-1), .int 1])) := Same.new hp
    refine ⟨b, .ref p, g, -1, rfl, hb.same s1, TD.of_fr (q := -1) (.inl upd_same), szg, sz1n, fun H2 d s2 hd fd => ?_⟩
    have sz' : SzF (scF g (-1)) := fun p hp => by
      obtain ⟨r, hr, rfl⟩ := scF_mem hp
      have := szg r hr
      have e : r.2 * (-1) = -r.2 := by grind
      show Sz 4400 (r.2 * (-1))
      rw [e]
      exact ⟨by rw [Rat.neg_num]; have := this.1; omega, by rw [Rat.neg_den]; exact this.2⟩
    refine ⟨a, d, f, scF g (-1), rfl, ha.same (L2.Same.trans s1 s2), fd, mf, szf, sz', by have := scF_len g (-1); omega, fun H3 d3 s3 hd3 fd3 => ?_⟩
    refine q _ _ (L2.Same.trans s1 (L2.Same.trans s2 s3)) ?_ fd3
    cases z : H d3 with
    | none => rfl
    | some u => rw [s2 _ _ (s1 _ _ z)] at hd3; cases hd3
end
end U
set_option Elab.async false
set_option linter.all false
set_option maxRecDepth 100000
set_option maxHeartbeats 4000000
/-! multiplied. -/
namespace U
open PySem PySem.Spec PyProof.Rows L2
open PySem.W (EachIs AllAlike dataLe dataKind SortsAt)
def MulOk (f g : Form) : Prop := (∀ i, i ≤ f.length → SzF ((f.take i).foldl (fun found p => addF found (mulRow p g)) [])) ∧ ∀ p ∈ f, SzF (mulRow p g)
def spMul (P : Program) (w : World) (K : PySem.W.Frag) : Sp := fun vs H Q _ => ∃ (a b : Addr) (f g : Form), vs = [.ref a, .ref b] ∧ FD P w K H a f ∧ FD P w K H b g ∧ Lin f ∧ Lin g ∧ SzF f ∧ SzF g ∧ MulOk f g ∧ f.length ≤ 100 ∧ g.length ≤ 100 ∧
  ∀ H' d, Same H H' → H d = none → FD P w K H' d (mulF f g) → Q (.ref d) H'
theorem mulRow_len (p : Mono × Rat) {g : Form} (h : Lin g) : (mulRow p g).length = g.length := by rw [mulRow_is p h, List.length_map]
theorem mulFold_len {g : Form} (h : Lin g) : ∀ (f acc : Form), (f.foldl (fun found p => addF found (mulRow p g)) acc).length ≤ acc.length + f.length * g.length
  | [], acc => by simp
  | p :: f, acc => by
    rw [List.foldl_cons]
    have h1 := mulFold_len h f (addF acc (mulRow p g))
    have h2 := addF_len acc (mulRow p g)
    rw [mulRow_len p h] at h2
    rw [List.length_cons, Nat.add_mul]
    omega
theorem mulStep_len (p : Mono × Rat) : ∀ (o acc : Form), (o.foldl (mulStep p) acc).length ≤ acc.length + o.length
  | [], acc => by simp
  | r :: o, acc => by
    rw [List.foldl_cons, List.length_cons]
    have h1 := mulStep_len p o (mulStep p acc r)
    have h2 : (mulStep p acc r).length ≤ acc.length + 1 := len_put _ _ _
    omega
theorem each_up {α : Type} {K : PySem.W.Frag} {H H' : Hp} {f : α → PyData} (k : Kp H H') : ∀ {xs : List V} {bs : List α}, EachIs (fun v b => TD K H v (f b)) xs bs → EachIs (fun v b => TD K H' v (f b)) xs bs
  | _, _, .nil => .nil
  | _, _, .cons h hs => .cons (h.up k) (each_up k hs)
section
variable {P : Program} {w : World} {K : PySem.W.Frag} {mg : Str → Option Value} {base : Heap}
theorem none_of_same {H H' : Hp} (s : Same H H') {d : Addr} (h : H' d = none) : H d = none := by
  cases z : H d with
  | none => rfl
  | some u => rw [s _ _ z] at h; cases h
theorem sc_multiplied : FnScope ["one", "other", "found", "product", "some", "more"] ["one", "other"] (defScope s_multiplied) := ⟨rfl, rfl, rfl, by decide +kernel, rfl, by decide +kernel, by decide +kernel⟩
theorem f_multiplied (T : Txt K mg) : Cal P w K mg base 5 "multiplied" (spMul P w K) := by
  refine cal_of T.a_multiplied sc_multiplied (fun _ _ _ _ _ _ us hl => match us, hl with | [_, _], _ => rfl) (fun vs H Q E h => ?_) (fun fa cdv A outer s H vs Q E hr h => ?_)
  · obtain ⟨a, b, f, g, rfl, _⟩ := h
    rfl
  · obtain ⟨a, b, f, g, rfl, ha, hb, lf, lg, szf, szg, mok, f100, g100, q⟩ := h
    refine ⟨_, (pss_cons (ps_set (i := 2) sc_multiplied.nd rfl (Or.inl rfl) pe_nnew)
(pss_cons (ps_for PassesOwn.never rfl (pi_nd (pv 0)) (pg_name (i := 3) sc_multiplied.nd rfl (Or.inl rfl))
(pss_cons (ps_set (i := 4) sc_multiplied.nd rfl (Or.inl rfl) pe_nnew)
(pss_cons (ps_for PassesOwn.never rfl (pi_nd (pv 1)) (pg_name (i := 5) sc_multiplied.nd rfl (Or.inl rfl))
(pss_one (ps_nput (rhu hr) (pv 4) (pe_callTy call_tuple_of (by rfl) T.b_tuple (by decide +kernel) (pa_cons (pe_callB (cr_sortedT rfl (rhu100 hr) alike_eK tup_eK d8_eK) (by rfl) T.b_sorted (by decide +kernel) (pa_cons (pe_op op_catD (pv 3) (pv 5)) pa_nil)) pa_nil)) (pe_c (f_times T) hr (by decide) (by rfl) (pa_cons (pe_nget (rhu hr) (pv 0) (pv 3) (fun _ _ => rfl)) (pa_cons (pe_nget (rhu hr) (pv 1) (pv 5) (fun _ _ => rfl)) pa_nil))) rfl)))
(pss_one (ps_set (i := 2) sc_multiplied.nd rfl (Or.inl rfl) (pe_c (f_added T) hr (by decide) (by rfl) (pa_cons (pv 2) (pa_cons (pv 4) pa_nil))))))))
(pss_one (ps_ret (pv 2))))), ?_⟩
    obtain ⟨oa, Fa, na, ra⟩ := ha.ex
    obtain ⟨ob, Fb, nb, rb⟩ := hb.ex
    intro d0 hd0 n0
    have s0 : Same H (upd H d0 (pinO d0 emptyD)) := Same.new hd0
    refine ⟨_, rfl, _, _, _, rfl, na.same s0, ?_⟩
    refine for_it walk_nd (fun i σ H1 => i ≤ f.length ∧ Same H H1 ∧ ∃ d x3 x4 x5, σ = [some (.ref a), some (.ref b), some (.ref d), x3, x4, x5] ∧ H d = none ∧ FD P w K H1 d ((f.take i).foldl (fun found p => addF found (mulRow p g)) [])) ?_ ?_ ?_ ?_
    · exact ⟨Nat.zero_le _, s0, d0, _, _, _, rfl, hd0, fd_nil n0⟩
    · rintro i σ H1 _ ⟨_, s1, _⟩
      exact na.same s1
    · rintro i x σ H1 H2 hi ⟨hif, s1, d, x3, x4, x5, rfl, hd, fd⟩ ⟨rfl, k, v, bk, ek, rfl, ky⟩
      obtain ⟨m, qv, eg, rfl, hv⟩ := (RQ.up (.of s1) ra).at_ ek
      have hif' : i < f.length := by rw [ra.len] at hi; exact hi
      have memf : (m, qv) ∈ f := List.mem_of_getElem? eg
      have e1 : tget f m = some qv := tget_of_mem ha.nd memf
      intro p hp n1
      have s2 : Same H2 (upd H2 p (pinO p emptyD)) := Same.new hp
      have s02 := L2.Same.trans s1 s2
      have hp0 : H p = none := none_of_same s1 hp
      have fd2 := fd.same s2
      refine ⟨_, rfl, b, ob, Fb, rfl, nb.same s02, ?_⟩
      refine for_it walk_nd (fun j σ H3 => j ≤ g.length ∧ Ch (· = p) (upd H2 p (pinO p emptyD)) H3 ∧ ∃ x5, σ = [some (.ref a), some (.ref b), some (.ref d), some (.ref bk), some (.ref p), x5] ∧ FD P w K H3 p ((g.take j).foldl (mulStep (m, qv)) [])) ?_ ?_ ?_ ?_
      · exact ⟨Nat.zero_le _, Ch.refl _ _, _, rfl, fd_nil n1⟩
      · rintro j σ H3 _ ⟨_, c, _⟩
        exact nb.same (L2.Same.trans s1 (sameNew hp c))
      · rintro j x σ H3 H4 hj ⟨hjg, c, y5, rfl, fp⟩ ⟨rfl, k2, v2, bk2, ek2, rfl, ky2⟩
        have s4 : Same H2 H4 := sameNew hp c
        have s04 : Same H H4 := L2.Same.trans s1 s4
        obtain ⟨m2, q2, eg2, rfl, hv2⟩ := (RQ.up (.of s04) rb).at_ ek2
        have memg : (m2, q2) ∈ g := List.mem_of_getElem? eg2
        have e2 : tget g m2 = some q2 := tget_of_mem hb.nd memg
        obtain ⟨va, eva, tva⟩ := (RQ.up (.of s04) ra).val_some keyMi e1
        obtain ⟨vb, evb, tvb⟩ := (RQ.up (.of s04) rb).val_some keyMi e2
        have ky4 : KyAt K H4 bk (keyM m) := ky.up (.of s4)
        refine ⟨_, rfl, _, rfl, a, oa, Fa, keyM m, bk, va, rfl, rfl, na.same s04, ky4, eva, _, rfl, _, rfl, b, ob, Fb, keyM m2, bk2, vb, rfl, rfl, nb.same s04, ky2, evb, ?_⟩
        refine ⟨_, _, _, _, rfl, tva, tvb, ⟨szf _ memf, szg _ memg⟩, fun H5 v5 s5 t5 => ?_⟩
        obtain ⟨a1, xs1, ea1, tq1, td1⟩ := (ky4.up (.of s5)).mono_.mono_inv
        obtain ⟨a2, xs2, ea2, tq2, td2⟩ := (ky2.up (.of s5)).mono_.mono_inv
        cases ea1
        cases ea2
        have l1 := lf.l1 _ memf
        have l2 := lg.l1 _ memg
        refine ⟨_, rfl, _, rfl, _, rfl, bk, bk2, xs1, xs2, rfl, rfl, tq1, tq2, ?_, fun H6 p6 s6 tq6 => ?_⟩
        · rw [td1.len, td2.len, List.length_map, List.length_map]
          show m.length + m2.length ≤ sizeLine
          have : (2 : Nat) ≤ sizeLine := by decide
          have h1 : m.length ≤ 1 := l1
          have h2 : m2.length ≤ 1 := l2
          omega
        have t6 : TDs K H6 (xs1 ++ xs2) ((m ++ m2).map eK) := by
          rw [List.map_append]
          exact (td1.up (.of s6)).app (td2.up (.of s6))
        refine ⟨p6, xs1 ++ xs2, m ++ m2, rfl, tq6, tds_map eK t6, fun p7 out hp7 e7 => ?_⟩
        have s7 : Same H6 (upd H6 p7 (.lst out)) := Same.new hp7
        refine ⟨p7, out, rfl, .inl ⟨.of upd_same, fun p8 hp8 => ?_⟩⟩
        have s8 : Same (upd H6 p7 (.lst out)) (upd (upd H6 p7 (.lst out)) p8 (.tup out)) := Same.new hp8
        have s58 := L2.Same.trans s6 (L2.Same.trans s7 s8)
        have s48 := L2.Same.trans s5 s58
        obtain ⟨op, Fp, np, rp⟩ := fp.ex
        have t8 : TD K (upd (upd H6 p7 (.lst out)) p8 (.tup out)) (.ref p8) (eM (srtM (m ++ m2))) := .tup (.inl upd_same) (each_tds eK (each_up (Kp.of (L2.Same.trans s7 s8)) e7))
        refine ⟨p, op, Fp, keyM (srtM (m ++ m2)), p8, rfl, rfl, np.same s48, ky_of t8, ?_, fun o9 n9 => ?_⟩
        · rw [rp.len]
          have h1 := mulStep_len (m, qv) (g.take j) []
          have h2 : (g.take j).length ≤ g.length := by rw [List.length_take]; omega
          have : (200 : Nat) < sizeLine := by decide
          simp at h1
          omega
        have c9 : Ch (· = p) (upd (upd H6 p7 (.lst out)) p8 (.tup out)) (upd (upd (upd H6 p7 (.lst out)) p8 (.tup out)) p (pinO p o9)) := Ch.put rfl (np.same s48).at_ pinO_tup
        refine ⟨by rw [rb.len] at hj; omega, (c.same s48).trans c9, _, rfl, o9, _, n9, ?_⟩
        have e : (g.take (j + 1)).foldl (mulStep (m, qv)) [] = tput ((g.take j).foldl (mulStep (m, qv)) []) (srtM (m ++ m2)) (qv * q2) := by
          rw [List.take_add_one, eg2, List.foldl_append]; rfl
        rw [e]
        exact (RQ.up c9.kp (RQ.up (.of s48) rp)).put keyMi _ (t5.up ((Kp.of s58).trans c9.kp))
      · rintro σ H3 ⟨_, c, y5, rfl, fp⟩
        rw [rb.len, List.take_length] at fp
        have s3 : Same H2 H3 := sameNew hp c
        have fd3 := fd.same s3
        have nmr := Fm.mulRow (p := (m, qv)) (lf.fm.ks _ memf) (lf.l1 _ memf) lg
        have nacc : Fm ((f.take i).foldl (fun found p => addF found (mulRow p g)) []) := (mulFold (fun _ => 0) lg (f.take i) (fun p hp => ⟨lf.fm.ks p (List.mem_of_mem_take hp), lf.l1 p (List.mem_of_mem_take hp)⟩) [] .nil).1
        refine ⟨_, rfl, _, rfl, d, p, _, mulRow (m, qv) g, rfl, fd3, fp, nacc, mok.1 i hif, mok.2 _ memf, ?_, fun H4 d4 s4 hd4 fd4 => ?_⟩
        · have h1 := mulFold_len lg (f.take i) []
          have h2 : (f.take i).length ≤ 100 := by rw [List.length_take]; omega
          have h3 := mulRow_len (m, qv) lg
          have h4 : (f.take i).length * g.length ≤ 100 * 100 := Nat.mul_le_mul h2 g100
          have : (20000 : Nat) < sizeLine := by decide
          rw [List.length_nil, Nat.zero_add] at h1
          omega
        refine ⟨by omega, L2.Same.trans s1 (L2.Same.trans s3 s4), d4, _, _, _, rfl, none_of_same (L2.Same.trans s1 s3) hd4, ?_⟩
        have e : (f.take (i + 1)).foldl (fun found p => addF found (mulRow p g)) [] = addF ((f.take i).foldl (fun found p => addF found (mulRow p g)) []) (mulRow (m, qv) g) := by
          rw [List.take_add_one, eg, List.foldl_append]; rfl
        rw [e]
        exact fd4
    · rintro σ H1 ⟨_, s1, d, x3, x4, x5, rfl, hd, fd⟩
      rw [ra.len, List.take_length] at fd
      exact ⟨_, rfl, q _ _ s1 hd fd⟩
end
end U
set_option Elab.async false
set_option linter.all false
set_option maxRecDepth 100000
set_option maxHeartbeats 4000000
/-! NoOver(at), made and raised. -/
namespace U
open PySem PySem.Spec PyProof.Rows L2
/-- a statement that isn't reached -/
theorem ps_dead {X : Cx} {st : Stmt} : PS X st (fun _ _ _ => False) := ⟨fun _ _ _ _ _ _ h => h.elim⟩
/-- the class UndivideError, at C0: what UndivideError.__init__ reads -/
structure UeC (K : PySem.W.Frag) (C0 : Addr) : Prop where
  rd : PySem.W.readsIn K C0 (.type "type") = true
  ga : PySem.W.specialIn K (.ref C0) "__getattribute__" = some (some (.builtin "type.__getattribute__"))
  ini : PySem.W.findCls K (.ref C0) (.type "type") "__init__" = some (.val (.builtin "ValueError.__init__"))
section
variable {X : Cx} {e : Expr} {es : List Expr} {ta : TA} {p1 p2 pos : Pos}
theorem pe_ueinit {pl : Sem Bool} {x : Str} {C0 : Addr} (hg : Gl X x) (hm : X.mg x = some (.ref C0)) (T0 : UeC X.K C0) (ha : PA X (e :: es) ta) (hd : (x == ("__debug__" : Str)) = false := by decide)
    (hc : eval (.Call (.Attribute (.Name x p1) "__init__" p2) (e :: es) [] pos) X.env = (do
      let ov ← eval (.Name x p1) X.env
      standAt p2.atName
      let (f, first) ← holding [ov] (getMethod ov "__init__" pl)
      callWith pos f first (backTo pos (starEach (e :: es) X.env)) (backToKw pos (keywordEach [] X.env))) := by rfl)
    (he : starEach (e :: es) X.env = (false, eval e X.env) :: starEach es X.env := by rfl) (hpl : (backTo pos (starEach es X.env)).any (·.1) = false := by rfl) :
    PE X (.Call (.Attribute (.Name x p1) "__init__" p2) (e :: es) [] pos) (tVeI X.K ta) := by
  refine ⟨fun pins s σ H Q I h => ?_⟩
  refine PySem.W.methodCall_KW (ld_glob I hg hm ?_ hd) hc
  refine PySem.W.method_cls I.kIn T0.ga ?_
  refine PySem.W.cls_value I.kIn T0.rd T0.ini (by rfl) ?_
  show wpAny _ _ (callWith pos (Value.builtin "ValueError.__init__") [] (backTo pos (starEach (e :: es) X.env)) []) _ _ _
  refine PyProof.Rows.callWith_method1 (thn (ha.run pos pins _ σ H _ (I.tok _) h) fun us s1 ⟨vs, H1, I1, r1, a, C, ws, ev, hl, T, ea, q⟩ => ?_) he hpl
  subst ev
  cases r1 with
  | @cons _ u0 _ ur ra rw' =>
    obtain rfl : u0 = Value.ref a := ra
    have hlen : ur.length ≤ sizeLine := by
      rw [← Paired.length rw', sizeLine_eq]
      omega
    exact oinit_ok T I1 ea hlen fun s' J => ⟨.non, H1, J, rfl, q⟩
end
/-- the class NoOver, at C -/
structure NoOv (K : PySem.W.Frag) (mg : Str → Option Value) (C fI : Addr) : Prop where
  oex : OexC K C
  gC : mg "NoOver" = some (.ref C)
  noat : PySem.W.findIn K (.ref C) "at" = some none
  ini : PySem.W.findIn K (.ref C) "__init__" = some (some (.ref fI))
  tI : PySem.W.typeIn K (.ref fI) = some (.type "function")
  exm : PySem.W.exmOne K (.ref C) (.ref C) = some true
  fd : ∃ fd, FunD K "__init__" "NoOver.__init__" (defArgs s_NoOver_init) (defBody s_NoOver_init) (defScope s_NoOver_init) [] [] fI fd
  ue : ∃ C0, mg "UndivideError" = some (.ref C0) ∧ UeC K C0
def spNoOv (K : PySem.W.Frag) (C : Addr) : Sp := fun vs H Q _ => ∃ (a : Addr) (v : V), vs = [.ref a, v] ∧ H a = some (exo a C none) ∧ ∀ d, H d = none → d ≠ a → Q .non (upd (upd H d (exd d [("at", v)])) a (exo a C (some d)))
section
variable {P : Program} {w : World} {K : PySem.W.Frag} {mg : Str → Option Value} {base : Heap} {C fI : Addr}
theorem sc_NoOver_init : FnScope ["self", "at"] ["self", "at"] (defScope s_NoOver_init) := ⟨rfl, rfl, rfl, by decide +kernel, rfl, by decide +kernel, by decide +kernel⟩
theorem f_NoOver (T : NoOv K mg C fI) : ∃ fd, FnOk P w K mg base CX0 1 fI fd ["self", "at"] (spNoOv K C) ∧ Binds K fd ["self", "at"] [] := by
  obtain ⟨fd, F⟩ := T.fd
  obtain ⟨C0, g0, T0⟩ := T.ue
  refine ⟨fd, F.ok sc_NoOver_init (fun vs H Q E h => ?_) fun cdv A outer s H vs Q E hr h => ?_, F.bindsN (fun _ _ _ _ _ _ us hl => match us, hl with | [_, _], _ => rfl)⟩
  · obtain ⟨a, v, rfl, _⟩ := h
    rfl
  · obtain ⟨a, v, rfl, ha, q⟩ := h
    refine ⟨_, (pss_cons (ps_expr (pe_ueinit (by rfl) g0 T0 (pa_cons (pv 0) (pa_cons (pv 1) pa_nil)))) (pss_one (ps_ost (pv 0) (pv 1)))).nox, ?_⟩
    refine ⟨_, rfl, _, rfl, a, C, _, rfl, (by show 1 ≤ 1000; decide), T.oex, ha, ?_⟩
    exact ⟨_, rfl, _, rfl, a, C, rfl, T.oex, T.noat, .inl ⟨ha, fun d hd hne => q d hd hne⟩⟩
end
section
variable {X : Cx} {C fI : Addr} {e : Expr} {ta : TA} {x : Str} {p pos : Pos}
theorem del_same_of {H : Hp} {a d : Addr} {fs : List (Str × V)} {o1 o2 : HO} (ha : H a = none) (hd : H d = none) : Same H (upd (del (upd (upd H d o1) a o2) a) d (.xd fs)) := fun b u e => by
  have h1 : b ≠ a := ne_of_none e ha
  have h2 : b ≠ d := ne_of_none e hd
  rw [upd_ne h2, del_ne h1, upd_ne h1, upd_ne h2]
  exact e
theorem noov_end {K : PySem.W.Frag} {H : Hp} {v : V} {E : XK} (q : ∀ d H', Same H H' → E (.ref C) (some d) H') : ([v] : List V).length ≤ 1000 ∧ ∀ a, H a = none → spNoOv K C (.ref a :: ([v] ++ [])) (upd H a (exo a C none))
    (fun v H2 => v = .non ∧ ∃ (d : Addr) (fs : List (Str × V)), H2 a = some (exo a C (some d)) ∧ H2 d = some (exd d fs) ∧ H d = none ∧ E (.ref C) (some d) (upd (del H2 a) d (.xd fs))) (fun _ _ _ => False) := by
  refine ⟨(by show 1 ≤ 1000; decide), fun a ha => ⟨a, v, rfl, upd_same, fun d hd hne => ⟨rfl, d, [("at", v)], upd_same, ?_, ?_, q _ _ ?_⟩⟩⟩
  · rw [upd_ne (show d ≠ a from hne), upd_same]
  · rw [upd_ne hne] at hd; exact hd
  · rw [upd_ne hne] at hd
    intro b u z
    have h1 : b ≠ a := ne_of_none z ha
    have h2 : b ≠ d := ne_of_none z hd
    rw [upd_ne h2, del_ne h1, upd_ne h1, upd_ne h2, upd_ne h1]
    exact z
/-- NoOver(e) -/
theorem pmk_noover (T : NoOv X.K X.mg C fI) (hr : Room 2 X.A) (hg : Gl X "NoOver") (ha : PA X [e] ta) (he : starEach [e] X.env = (false, eval e X.env) :: starEach [] X.env := by rfl) (hpl : (backTo pos (starEach [] X.env)).any (·.1) = false := by rfl) :
    PMk X (.Call (.Name "NoOver" p) [e] [] pos) (tMkO C (spNoOv X.K C) [] ta) := by
  obtain ⟨fd, F, B⟩ := f_NoOver (P := X.prog) (w := X.w) (base := X.base) T
  exact pmk_oex (dvs := []) T.oex T.ini T.tI F hr B .nil pass0 hg T.gC ha (by decide) he hpl
end
end U
set_option Elab.async false
set_option linter.all false
set_option maxRecDepth 100000
set_option maxHeartbeats 4000000
/-! enumerate of a tuple. -/
namespace U
open PySem PySem.Spec PyProof.Rows L2
open Sem (wp)
open AutoSeq1 (wpAny_loadPart')
theorem meets_enumerate_newT (l : Addr) (items : Array Value) (n : Nat) (dct : Option Addr) (sl : Array (Option Value)) :
    Meets (Builtin.«enumerate.__new__» ⟨[.type "enumerate", .ref l], []⟩) (fun _ R s => s.heap.get? l = some { cls := .type "tuple", dict := dct, data := .seq items n, slots := sl } ∧
      R (.ok (.ret (.ref (s.heap.push { cls := .type "tuple_iterator", data := .fields #[.ref l, .int 0 0] }).objs.size)))
        { s with heap := (s.heap.push { cls := .type "tuple_iterator", data := .fields #[.ref l, .int 0 0] }).push { cls := .type "enumerate", data := .fields #[.none, .bool false, .ref s.heap.objs.size, rawInt 0, .none, .none] } }) :=
  .of_wp fun prog w A R s h => by
    obtain ⟨hp, g, d, tk, os⟩ := s; obtain ⟨hl, h⟩ := h
    have hsub := sub_enumerate
    have hL : Heap.IsTuple (Shared.heap ⟨hp, g, d, tk, os⟩) l items := ⟨_, hl, rfl, n, rfl⟩
    wp_walk using wpAny_loadPart' hl
    refine wpAny_stack_any fun st => wpAny_pure ?_
    split
    · rename_i c _ _ _ _ _
      cases (c == Value.type "enumerate")
      · wp_walk using wpAny_loadPart' hl, wpAny_pyIter_tuple hL
        exact ⟨_, rfl, h⟩
      · wp_walk using wpAny_loadPart' hl, wpAny_pyIter_tuple hL
        exact ⟨_, rfl, h⟩
    · wp_walk using wpAny_loadPart' hl, wpAny_pyIter_tuple hL
      exact ⟨_, rfl, h⟩
section
variable {prog : Program} {w : World} {A : Around} {E : Value → Shared → Prop} {s : Shared}
theorem call_enumerate_tuple {l : Addr} {items : Array Value} {Q : Value → Shared → Prop} (hL : s.heap.IsTuple l items)
    (h : ∀ h', IsEnum h' (s.heap.objs.size + 1) s.heap.objs.size 0 .none → h'.IsTupleIter s.heap.objs.size l 0 → h'.objs.size = s.heap.objs.size + 2 →
      (∀ b o, s.heap.get? b = some o → h'.get? b = some o) → Q (.ref (s.heap.objs.size + 1)) { s with heap := h' }) :
    wpAny (model prog w) A (call (.type "enumerate") [.ref l]) Q E s := by
  obtain ⟨⟨c, dct, dt, sl⟩, hl, hc, n, hd⟩ := hL
  replace hc : c = .type "tuple" := hc
  replace hd : dt = .seq items n := hd
  subst hc hd
  refine callType_new F.called_enumerate (by decide) (F.typeCall_enumerate_1 _) (F.newCall_enumerate_1 _) (fun obj => F.args_object_init_2 obj _) F.entry_enumerate_new
    (meets_enumerate_newT l items n dct sl) ⟨hl, ?_⟩
  have hz : (s.heap.push { cls := .type "tuple_iterator", data := .fields #[.ref l, .int 0 0] }).objs.size = s.heap.objs.size + 1 := Heap.size_push ..
  show _ ∧ _
  rw [hz]
  have he : IsEnum ((s.heap.push { cls := .type "tuple_iterator", data := .fields #[.ref l, .int 0 0] }).push
      { cls := .type "enumerate", data := .fields #[.none, .bool false, .ref s.heap.objs.size, rawInt 0, .none, .none] }) (s.heap.objs.size + 1) s.heap.objs.size 0 .none := by
    have := Heap.get?_push_size (s.heap.push { cls := .type "tuple_iterator", data := .fields #[.ref l, .int 0 0] })
      (o := { cls := .type "enumerate", data := .fields #[.none, .bool false, .ref s.heap.objs.size, rawInt 0, .none, .none] }) rfl
    rw [hz] at this; exact this
  refine ⟨⟨_, he, rfl⟩, h _ he ⟨_, Heap.get?_push_of_some _ (Heap.get?_push_size _ rfl), rfl, rfl⟩ (by rw [Heap.size_push, hz]) fun b o x => Heap.get?_push_of_some _ (Heap.get?_push_of_some _ x)⟩
end
/-- the tuple at a, each item in a new pair -/
def ItEt (K : PySem.W.Frag) (a : Addr) : It :=
  ⟨fun i H => ∃ (xs : List V) (x : V), SqT K H a xs ∧ xs[i]? = some x, fun i H v H' => ∃ T x, v = .ref T ∧ H T = none ∧ H' = upd H T (.tup [.int (i : Nat), x]) ∧ ∀ xs, SqT K H a xs → xs[i]? = some x, fun i H => ∃ xs : List V, SqT K H a xs ∧ xs.length = i⟩
theorem turn_enumT {P : Program} {w : World} {K : PySem.W.Frag} {elts : List Expr} {kk : Nat} {tpos : Pos} (a e it : Addr) :
    Turn P w K (.Tuple elts kk tpos) (ItEt K a) [e, it] e (fun i h => (∃ old, IsEnum h e it ((i : Nat) : Int) old) ∧ h.IsTupleIter it a i ∧ e ≠ it ∧ a ≠ it) where
  mem := by simp
  obj := fun i h st b hb => by
    obtain ⟨⟨old, he⟩, ⟨o, ho, hc, hd⟩, _⟩ := st
    have e' : b = e ∨ b = it := by simpa using hb
    rcases e' with z | z
    · rw [z]; exact ⟨_, he, fun v q => nomatch q⟩
    · rw [z]; exact ⟨o, ho, fun v q => by rw [hd] at q; cases q⟩
  keep := fun i h h' st k => let ⟨⟨old, he⟩, hi, hne⟩ := st; ⟨⟨old, k e (by simp) _ he⟩, hi.at fun o q => k it (by simp) o q, hne⟩
  item := by
    intro X hP hw hK hc i pins s σ H E I hf st hg
    subst hP hw hK
    obtain ⟨⟨old, he⟩, hit, hne, hat⟩ := st
    obtain ⟨xs, x, hq, hx⟩ := hg
    obtain ⟨its, rv, p, hz⟩ := I.tuple hq
    obtain ⟨u, hu, ru⟩ := rv.get hx
    have hel : e < s.heap.objs.size := Heap.lt_size he
    have hil : it < s.heap.objs.size := by obtain ⟨_, q, _⟩ := hit; exact Heap.lt_size q
    have hea : e ≠ a := fun z => by
      obtain ⟨o, e1, e2, _⟩ := p
      rw [← z] at e1
      have e3 := (Option.some.inj (he.symm.trans e1))
      rw [← e3] at e2
      simp at e2
    have hh : X.A.in1.handled = none := I.ok.hd hc
    have D := Draws.tuple (prog := X.prog) (w := X.w) (A := X.A.in1) (by exact hh) it a hat its.toArray
    have hlt : i < its.toArray.size := by
      have := List.getElem?_eq_some_iff.mp hu
      obtain ⟨z, _⟩ := this
      simpa using z
    refine wpAny_pyNext_enum_itemD (A := X.A) D he ⟨hit, p⟩ hlt hne (by simp [hne, hea]) fun y h' tk hy ho hst hT hsz hk => ?_
    have ey : y = u := by
      have h1 : its.toArray[i]? = some y := hy
      have h2 : its.toArray[i]? = some u := by simpa using hu
      rw [h1] at h2
      exact Option.some.inj h2
    subst ey
    refine ⟨_, rfl, wpAny_letOwnedTupleGo_enum (s := { s with heap := h', toks := tk + 1 }) ho fun h'' he' sb => ?_⟩
    have hT2 : h''.get? s.heap.objs.size = some { cls := .type "tuple", data := .seq #[.int i tk, y] } := (sb.2 _ (Nat.ne_of_gt hel)).trans hT
    have new : ObjOk X.prog X.w (upd H s.heap.objs.size (.tup [.int (i : Nat), x])) h'' s.heap.objs.size (.tup [.int (i : Nat), x]) :=
      ⟨by show 2 ≤ sizeLine; decide, [.int i tk, y], .cons ⟨_, rfl⟩ (.cons ru .nil), ⟨_, hT2, rfl, _, rfl⟩⟩
    have I1 : Inv X pins σ (upd H s.heap.objs.size (.tup [.int (i : Nat), x])) { s with heap := h'', toks := tk + 1 } :=
      I.turnedNew (ch := [e, it]) (fun b ob hb q => (sb.2 b (fun z => hb (by simp [z]))).trans (hk b ob (fun z => hb (by simp [z])) (fun z => hb (by simp [z])) q)) hf (Nat.le_refl _) new
    refine ⟨.ref s.heap.objs.size, _, I1, rfl, ⟨_, x, rfl, I.hok.fresh (Nat.le_refl _), rfl, fun ys hy => by rw [I.tuple_inj hy hq]; exact hx⟩, ⟨⟨y, ?_⟩, hst.1.at fun o q => (sb.2 it (Ne.symm hne)).trans q, hne, hat⟩, fun b hb => ?_⟩
    · have e1 : ((i + 1 : Nat) : Int) = (i : Int) + 1 := by omega
      rw [e1]; exact he'
    · have hb' : b < s.heap.objs.size := by
        have e' : b = e ∨ b = it := by simpa using hb
        rcases e' with z | z
        · rw [z]; exact hel
        · rw [z]; exact hil
      rw [upd_ne (Nat.ne_of_lt hb')]
      exact (hf b hb).1
  done := by
    intro X hP hw hK hc i pins s σ H E I hf st hg
    subst hP hw hK
    obtain ⟨⟨old, he⟩, hit, hne, hat⟩ := st
    obtain ⟨xs, hq, hx⟩ := hg
    obtain ⟨its, rv, p, hz⟩ := I.tuple hq
    obtain ⟨f0, f1, f2, f3, f4, f5⟩ := hf it (by simp)
    have hl := rv.length
    have hh : X.A.in1.handled = none := I.ok.hd hc
    have D := Draws.tuple (prog := X.prog) (w := X.w) (A := X.A.in1) (by exact hh) it a hat its.toArray
    have hi : i = its.toArray.size := by simp; omega
    refine wpAny_pyNext_enum_endD (A := X.A) D he (by rw [hi] at hit; exact ⟨hit, p⟩) fun h' eb => ⟨rfl, I.turned (t' := s.toks) (fun b o hb q => eb b o hb q) f0 f1 f3 f4 f5⟩
  self := fun A i s Q E st h => let ⟨⟨_, he⟩, _⟩ := st; wpAny_pyIter_enum he h
def iEnumT (K : PySem.W.Frag) (ta : TA) : TI := fun σ H R => ta σ H fun vs H1 => ∃ a xs, vs = [.ref a] ∧ SqT K H1 a xs ∧ R (ItEt K a) H1
theorem pi_enumT {X : Cx} {e : Expr} {ta : TA} {p pos tpos : Pos} {elts : List Expr} {kk : Nat} (hg : Gl X "enumerate") (hm : X.mg "enumerate" = none) (ha : PA X [e] ta) (hs : starEach [e] X.env = [(false, eval e X.env)] := by rfl) :
    PI X (.Tuple elts kk tpos) (.Call (.Name "enumerate" p) [e] [] pos) (iEnumT X.K ta) := by
  refine ⟨fun pins s σ H R I h => ?_⟩
  refine Call_ (ld_blt I hg hm boot_enumerate (PyProof.Rows.callWith_type1 (thn (ha.run pos pins s σ H _ I h) fun us s1 ⟨vs, H1, I1, r1, q1⟩ => ?_) hs rfl))
  obtain ⟨a, xs, ex, hq, q⟩ := q1
  subst ex
  cases r1 with
  | cons r rr =>
    cases rr
    cases r
    obtain ⟨its, rv, p', hz⟩ := I1.tuple hq
    have hal : a < s1.heap.objs.size := by obtain ⟨_, q, _⟩ := p'; exact Heap.lt_size q
    refine call_enumerate_tuple p' fun h' he hit hsz hk => wpAny_pyIter_enum he ?_
    have I2 : Inv X pins σ H1 { s1 with heap := h' } := I1.kept (t' := s1.toks) hk
    refine ⟨s1.heap.objs.size + 1, [s1.heap.objs.size + 1, s1.heap.objs.size], _, _, H1, rfl, I2, turn_enumT a (s1.heap.objs.size + 1) s1.heap.objs.size, ⟨⟨.none, he⟩, hit, Nat.succ_ne_self _, Nat.ne_of_lt hal⟩, fun b hb => ?_, q⟩
    have e' : b = s1.heap.objs.size + 1 ∨ b = s1.heap.objs.size := by simpa using hb
    have hle : s1.heap.objs.size ≤ b := by
      rcases e' with z | z
      · rw [z]; exact Nat.le_add_right _ _
      · rw [z]; exact Nat.le_refl _
    exact I1.fpOk hle (I1.hok.fresh hle)
theorem walk_enumT {K : PySem.W.Frag} {a : Addr} {xs : List V} : Walk (ItEt K a) xs.length (fun H => SqT K H a xs) (YPair (fun i => some (.int (i : Nat))) (fun i => xs[i]?)) := by
  refine ⟨fun i _ hi q => ⟨xs, xs[i], q, by simp [hi]⟩, fun _ q => ⟨xs, q, rfl⟩, fun i H v H' _ q y => ?_⟩
  obtain ⟨T, x, h1, h2, h3, h4⟩ := y
  exact ⟨T, .int (i : Nat), x, h1, h2, h3, rfl, h4 xs q⟩
end U
set_option Elab.async false
set_option linter.all false
set_option maxRecDepth 100000
set_option maxHeartbeats 4000000
/-! Rows of reckonings, run. -/
namespace U
open PySem PySem.Spec PyProof.Rows L2
inductive Wd where
  | plus | less | times | over
deriving DecidableEq
inductive Row where
  | num (q : Rat) | let_ (k : Nat) | op (w : Wd) (i j : Nat)
deriving DecidableEq
def wdS : Wd → Str
  | .plus => "plus" | .less => "less" | .times => "times" | .over => "over"
def eRow : Row → PyData
  | .num q => .tuple [.str "number", eF q]
  | .let_ k => .tuple [.str "letter", .int k]
  | .op w i j => .tuple [.str (wdS w), .int i, .int j]
def deed : Wd → Rat → Rat → Rat
  | .plus, a, b => a + b
  | .less, a, b => a - b
  | .times, a, b => a * b
  | .over, a, b => a / b
def rowVal (pt vs : List Rat) : Row → Rat
  | .num q => q
  | .let_ k => pt.getD k 0
  | .op w i j => deed w (vs.getD i 0) (vs.getD j 0)
def rowBad (vs : List Rat) : Row → Bool
  | .op .over _ j => decide (vs.getD j 0 = 0)
  | _ => false
def valsF (pt : List Rat) (rows : List Row) : List Rat := rows.foldl (fun vs r => vs ++ [rowVal pt vs r]) []
/-- a row's parts are there -/
def RowWf (n i : Nat) : Row → Prop
  | .num _ => True
  | .let_ k => k < n
  | .op _ a b => a < i ∧ b < i
/-- the first i rows are fine -/
def GoodTo (pt : List Rat) (rows : List Row) (i : Nat) : Prop := ∀ j r, j < i → rows[j]? = some r → rowBad (valsF pt (rows.take j)) r = false
structure RunOk (pt : List Rat) (rows : List Row) : Prop where
  wf : ∀ i r, rows[i]? = some r → RowWf pt.length i r
  sz : ∀ i, i ≤ rows.length → GoodTo pt rows i → ∀ v ∈ valsF pt (rows.take i), Sz 4400 v
  len : rows.length < sizeLine
theorem valsF_snoc (pt : List Rat) (rows : List Row) (r : Row) : valsF pt (rows ++ [r]) = valsF pt rows ++ [rowVal pt (valsF pt rows) r] := by
  unfold valsF
  rw [List.foldl_append]
  rfl
theorem valsF_take {pt : List Rat} {rows : List Row} {i : Nat} {r : Row} (h : rows[i]? = some r) : valsF pt (rows.take (i + 1)) = valsF pt (rows.take i) ++ [rowVal pt (valsF pt (rows.take i)) r] := by
  rw [List.take_add_one, h]
  exact valsF_snoc pt _ r
theorem foldl_len (pt : List Rat) : ∀ (rows : List Row) (vs : List Rat), (rows.foldl (fun vs r => vs ++ [rowVal pt vs r]) vs).length = vs.length + rows.length
  | [], _ => rfl
  | r :: rows, vs => by rw [List.foldl_cons, foldl_len pt rows, List.length_append, List.length_cons]; simp; omega
theorem valsF_len (pt : List Rat) (rows : List Row) : (valsF pt rows).length = rows.length := by
  unfold valsF
  rw [foldl_len]
  simp
section
variable {K : PySem.W.Frag} {H : Hp} {v : V}
theorem TD.row_num {q : Rat} (h : TD K H v (eRow (.num q))) : ∃ a vf, v = .ref a ∧ Tq K H a [.str "number", vf] ∧ TD K H vf (eF q) := by
  obtain ⟨a, xs, rfl, ht, hs⟩ := h.tup_inv
  cases hs with
  | cons h1 hs => cases hs with
    | cons h2 hs => cases hs with
      | nil =>
        rw [h1.str_inv] at ht
        exact ⟨a, _, rfl, ht, h2⟩
theorem TD.row_let {k : Nat} (h : TD K H v (eRow (.let_ k))) : ∃ a, v = .ref a ∧ Tq K H a [.str "letter", .int k] := by
  obtain ⟨a, xs, rfl, ht, hs⟩ := h.tup_inv
  cases hs with
  | cons h1 hs => cases hs with
    | cons h2 hs => cases hs with
      | nil =>
        rw [h1.str_inv, h2.int_inv] at ht
        exact ⟨a, rfl, ht⟩
theorem TD.row_op {w : Wd} {i j : Nat} (h : TD K H v (eRow (.op w i j))) : ∃ a, v = .ref a ∧ Tq K H a [.str (wdS w), .int i, .int j] := by
  obtain ⟨a, xs, rfl, ht, hs⟩ := h.tup_inv
  cases hs with
  | cons h1 hs => cases hs with
    | cons h2 hs => cases hs with
      | cons h3 hs => cases hs with
        | nil =>
          rw [h1.str_inv, h2.int_inv, h3.int_inv] at ht
          exact ⟨a, rfl, ht⟩
theorem TD.of_num {a : Addr} {q : Rat} {vf : V} (h : Tq K H a [.str "number", vf]) (hf : TD K H vf (eF q)) : TD K H (.ref a) (eRow (.num q)) := .tup h (.cons (.str _) (.cons hf .nil))
theorem TD.of_let {a : Addr} {k : Nat} (h : Tq K H a [.str "letter", .int k]) : TD K H (.ref a) (eRow (.let_ k)) := .tup h (.cons (.str _) (.cons (.int _) .nil))
theorem TD.of_op {a : Addr} {w : Wd} {i j : Nat} (h : Tq K H a [.str (wdS w), .int i, .int j]) : TD K H (.ref a) (eRow (.op w i j)) := .tup h (.cons (.str _) (.cons (.int _) (.cons (.int _) .nil)))
theorem TDs.getD {vs : List V} {qs : List Rat} {i : Nat} (h : TDs K H vs (qs.map eF)) (hi : i < qs.length) : ∃ v, vs[i]? = some v ∧ TD K H v (eF (qs.getD i 0)) := by
  have e : (qs.map eF)[i]? = some (eF (qs.getD i 0)) := by
    rw [List.getElem?_map, List.getD_eq_getElem?_getD]
    rw [List.getElem?_eq_getElem hi]
    rfl
  exact h.get e
end
theorem iteN {b : Bool} {p q : Prop} (h : b = false) (hq : q) : if b = true then p else q := by
  subst h
  exact hq
theorem iteY {b : Bool} {p q : Prop} (h : b = true) (hp : p) : if b = true then p else q := by
  subst h
  exact hp
theorem eqv_eF (p q : Rat) : PyData.eqv (eF p) (eF q) = decide (p = q) := by
  have e : PyData.eqv (eF p) (eF q) = (decide (p.num = q.num) && decide ((p.den : Int) = q.den)) := by
    simp only [eF, PyData.eqv, PyData.eqvAll, Bool.and_true]
    rfl
  rw [e]
  by_cases h : p = q
  · subst h; simp
  · rw [decide_eq_false h]
    by_cases h1 : p.num = q.num
    · have h2 : ¬ ((p.den : Int) = q.den) := fun z => h (Rat.ext h1 (by omega))
      rw [decide_eq_false h2, Bool.and_false]
    · rw [decide_eq_false h1, Bool.false_and]
theorem shaped_eF (q : Rat) : SeqAt.shaped (eF q) = true := rfl
/-- a def that may raise -/
structure CalX (P : Program) (w : World) (K : PySem.W.Frag) (mg : Str → Option Value) (base : Heap) (k : Nat) (x : Str) (sp : Sp) : Prop where
  ex : ∃ (f : Addr) (fd : FuncData) (ps : List Str), FnOk P w K mg base (L2.CX P w) k f fd ps sp ∧ mg x = some (.ref f) ∧ PySem.W.keepIn K (.ref f) = true ∧ Binds K fd ps []
section
variable {P : Program} {w : World} {K : PySem.W.Frag} {mg : Str → Option Value} {base : Heap}
theorem calx_of {x : Str} {st : Stmt} {N ps : List Str} {k : Nat} {sp : Sp} (D : DefAt K mg x st) (sc : FnScope N ps (defScope st))
    (b : ∀ (kV doc pm : Value) (an : Option Addr) (cdv ct : Value) (us : List Value), us.length = ps.length → bindArgs (PySem.W.fnOf x x (defArgs st) (defBody st) (defScope st) .none kV doc pm an cdv ct) ⟨us, []⟩ = pure (ps.zip us))
    (len : ∀ vs H Q E, sp vs H Q E → vs.length = ps.length)
    (hbody : ∀ (f : Addr) (cdv : Value) (A : Around) (outer : List Env) (s : Shared) (H : Hp) (vs : List V) (Q : VK) (E : XK), Room k (A.deeper (envOfC x (defScope st) s.heap.objs.size f cdv)) → sp vs H Q E →
      ∃ t, PSs (cxOf (L2.CX P w) P w K mg base N x (defScope st) f cdv A outer s H E) (defBody st) t ∧ t { nx := fun _ H' => Q .non H', rt := Q } (start N vs) H) : CalX P w K mg base (k + 1) x sp := by
  obtain ⟨f, fd, F, hm⟩ := D
  exact ⟨f, fd, ps, F.ok sc len fun cdv A outer s H vs Q E hr h => hbody f cdv A outer s H vs Q E hr h, hm, F.kp, F.bindsN b⟩
/-- where nothing is raised -/
theorem CalX.noX {k : Nat} {x : Str} {sp : Sp} (c : CalX P w K mg base k x sp) : Cal P w K mg base k x (fun vs H Q _ => sp vs H Q E0) := by
  obtain ⟨f, fd, ps, F, r⟩ := c.ex
  refine ⟨f, fd, ps, ⟨fun vs H Q E h => F.len vs H Q E0 h, fun A outer s H args us vs Q E hr he hb hv hs => codeAny_mono (F.run A outer s H args us vs Q E0 hr he hb hv hs) fun r s' h => ?_⟩, r⟩
  cases r with
  | ok fl => cases fl <;> exact h
  | error e =>
    obtain ⟨_, _, _, _, _, _, _, _, _, _, _, _, z⟩ := h
    exact z.elim
end
section
variable {X : Cx} {k j : Nat} {x : Str} {sp : Sp} {p pos : Pos} {e : Expr} {es : List Expr} {t : TA} {W : WX}
theorem pe_cX (c : CalX X.prog X.w X.K X.mg X.base k x sp) (tk : Takes X W) (hr : Room j X.A) (hk : k ≤ j) (hg : Gl X x) (ha : PA X (e :: es) t)
    (hdb : (x == ("__debug__" : Str)) = false := by decide) (he : starEach (e :: es) X.env = (false, eval e X.env) :: starEach es X.env := by rfl) (hpl : (backTo pos (starEach es X.env)).any (·.1) = false := by rfl) :
    PE X (.Call (.Name x p) (e :: es) [] pos) (tCallS sp (WE W) t) := by
  obtain ⟨f, fd, ps, F, hm, kp, b⟩ := c.ex
  exact pe_callS F (hr.mono hk) hg hm kp b (fun σ => passAt tk σ) ha hdb he hpl
end
def spRowV (K : PySem.W.Frag) (C : Addr) : Sp := fun vs H Q E => ∃ (r : Row) (pts vals : List Rat) (rv pv : V) (fa : Addr) (xs : List V) (ai : Int), vs = [rv, pv, .ref fa, .int ai] ∧
  TD K H rv (eRow r) ∧ TD K H pv (.tuple (pts.map eF)) ∧ H fa = some (.lst xs) ∧ TDs K H xs (vals.map eF) ∧ RowWf pts.length vals.length r ∧ (∀ v ∈ vals, Sz 4400 v) ∧
  (rowBad vals r = true → ∀ d H', Same H H' → E (.ref C) (some d) H') ∧ (rowBad vals r = false → ∀ H' v, Same H H' → TD K H' v (eF (rowVal pts vals r)) → Q v H')
theorem mem_getD {vals : List Rat} {i : Nat} (h : i < vals.length) : vals.getD i 0 ∈ vals := by
  rw [List.getD_eq_getElem?_getD, List.getElem?_eq_getElem h]
  exact List.getElem_mem h
section
variable {P : Program} {w : World} {K : PySem.W.Frag} {mg : Str → Option Value} {base : Heap} {C fI : Addr}
theorem sc_row_value : FnScope ["row", "point", "found", "at", "one", "other"] ["row", "point", "found", "at"] (defScope s_row_value) := ⟨rfl, rfl, rfl, by decide +kernel, rfl, by decide +kernel, by decide +kernel⟩
theorem x_row_value (T : Txt K mg) (TN : NoOv K mg C fI) : CalX P w K mg base 4 "row_value" (spRowV K C) := by
  refine calx_of T.a_row_value sc_row_value (fun _ _ _ _ _ _ us hl => match us, hl with | [_, _, _, _], _ => rfl) (fun vs H Q E h => ?_) (fun fa cdv A outer s H vs Q E hr h => ?_)
  · obtain ⟨_, _, _, _, _, _, _, _, rfl, _⟩ := h
    rfl
  · obtain ⟨r, pts, vals, rv, pv_, fl, xs, ai, rfl, hr_, hp, hf, hx, wf, sz, qe, qv⟩ := h
    refine ⟨_, (pss_cons (ps_if (pt_cmpR op_eq (pe_ix ix_tup (pv 0) pe_int (fun _ _ => rfl)) pe_str (nomark _))
(pss_one (ps_ret (pe_ix ix_tup (pv 0) pe_int (fun _ _ => rfl))))
pss_nil)
(pss_cons (ps_if (pt_cmpR op_eq (pe_ix ix_tup (pv 0) pe_int (fun _ _ => rfl)) pe_str (nomark _))
(pss_one (ps_ret (pe_ix ix_tup (pv 1) (pe_ix ix_tup (pv 0) pe_int (fun _ _ => rfl)) (fun _ _ => rfl))))
pss_nil)
(pss_cons (ps_par (i := 4) (j := 5) (by rfl) sc_row_value.nd rfl rfl (by decide) rfl rfl (pa_cons (pe_ix ix_list (pv 2) (pe_ix ix_tup (pv 0) pe_int (fun _ _ => rfl)) (fun _ _ => rfl)) (pa_cons (pe_ix ix_list (pv 2) (pe_ix ix_tup (pv 0) pe_int (fun _ _ => rfl)) (fun _ _ => rfl)) pa_nil)) (by rfl))
(pss_cons (ps_if (pt_cmpR op_eq (pe_ix ix_tup (pv 0) pe_int (fun _ _ => rfl)) pe_str (nomark _))
(pss_one (ps_ret (pe_c (f_plus T) hr (by decide) (by rfl) (pa_cons (pv 4) (pa_cons (pv 5) pa_nil)))))
pss_nil)
(pss_cons (ps_if (pt_cmpR op_eq (pe_ix ix_tup (pv 0) pe_int (fun _ _ => rfl)) pe_str (nomark _))
(pss_one (ps_ret (pe_c (f_less T) hr (by decide) (by rfl) (pa_cons (pv 4) (pa_cons (pv 5) pa_nil)))))
pss_nil)
(pss_cons (ps_if (pt_cmpR op_eq (pe_ix ix_tup (pv 0) pe_int (fun _ _ => rfl)) pe_str (nomark _))
(pss_one (ps_ret (pe_c (f_times T) hr (by decide) (by rfl) (pa_cons (pv 4) (pa_cons (pv 5) pa_nil)))))
pss_nil)
(pss_cons (ps_if (pt_cmpR (op_eqD (rhu hr)) (pv 5) (pe_con T.k_nought (by rfl)) (nomark _))
(pss_one (ps_raise rfl (takes_of rfl rfl rfl rfl) (pmk_noover TN (hr.mono (by decide)) (by rfl) (pa_cons (pv 3) pa_nil))))
pss_nil)
(pss_one (ps_ret (pe_c (f_over T) hr (by decide) (by rfl) (pa_cons (pv 4) (pa_cons (pv 5) pa_nil)))))))))))), ?_⟩
    cases r with
    | num q =>
      obtain ⟨a, vf, rfl, ta, tf⟩ := hr_.row_num
      refine ⟨_, rfl, _, _, _, _, rfl, rfl, ta.sq, a0, rfl, _, rfl, iteY (by decide +kernel) ?_⟩
      exact ⟨_, rfl, _, _, _, _, rfl, rfl, ta.sq, a1, qv rfl _ _ (same_rfl _) tf⟩
    | let_ k =>
      obtain ⟨a, rfl, ta⟩ := hr_.row_let
      obtain ⟨pa, ps, rfl, tp, hps⟩ := hp.tup_inv
      obtain ⟨v, ev, tv⟩ := hps.getD (i := k) wf
      refine ⟨_, rfl, _, _, _, _, rfl, rfl, ta.sq, a0, rfl, _, rfl, iteN (by decide +kernel) ?_⟩
      refine ⟨_, rfl, _, _, _, _, rfl, rfl, ta.sq, a0, rfl, _, rfl, iteY (by decide +kernel) ?_⟩
      exact ⟨_, rfl, _, rfl, _, _, _, _, rfl, rfl, ta.sq, a1, _, _, _, _, rfl, rfl, tp.sq, atI_nat ev, qv rfl _ _ (same_rfl _) tv⟩
    | op wd i j =>
      obtain ⟨a, rfl, ta⟩ := hr_.row_op
      obtain ⟨hi, hj⟩ := wf
      obtain ⟨v1, e1, t1⟩ := hx.getD (i := i) hi
      obtain ⟨v2, e2, t2⟩ := hx.getD (i := j) hj
      have s1 := sz _ (mem_getD hi)
      have s2 := sz _ (mem_getD hj)
      refine ⟨_, rfl, _, _, _, _, rfl, rfl, ta.sq, a0, rfl, _, rfl, iteN (by cases wd <;> decide +kernel) ?_⟩
      refine ⟨_, rfl, _, _, _, _, rfl, rfl, ta.sq, a0, rfl, _, rfl, iteN (by cases wd <;> decide +kernel) ?_⟩
      refine ⟨_, rfl, _, rfl, _, _, _, _, rfl, rfl, ta.sq, a1, fl, xs, _, v1, rfl, rfl, .of hf, atI_nat e1, _, rfl, _, rfl, _, _, _, _, rfl, rfl, ta.sq, a2, fl, xs, _, v2, rfl, rfl, .of hf, atI_nat e2, _, _, rfl, ?_⟩
      refine ⟨_, rfl, _, _, _, _, rfl, rfl, ta.sq, a0, rfl, _, rfl, ?_⟩
      cases wd with
      | plus =>
        refine iteY (by decide +kernel) ?_
        exact ⟨_, rfl, _, rfl, _, _, _, _, rfl, t1, t2, ⟨s1, s2⟩, fun H' v s t => qv rfl _ _ s t⟩
      | less =>
        refine iteN (by decide +kernel) ?_
        refine ⟨_, rfl, _, _, _, _, rfl, rfl, ta.sq, a0, rfl, _, rfl, iteY (by decide +kernel) ?_⟩
        exact ⟨_, rfl, _, rfl, _, _, _, _, rfl, t1, t2, ⟨s1, s2⟩, fun H' v s t => qv rfl _ _ s t⟩
      | times =>
        refine iteN (by decide +kernel) ?_
        refine ⟨_, rfl, _, _, _, _, rfl, rfl, ta.sq, a0, rfl, _, rfl, iteN (by decide +kernel) ?_⟩
        refine ⟨_, rfl, _, _, _, _, rfl, rfl, ta.sq, a0, rfl, _, rfl, iteY (by decide +kernel) ?_⟩
        exact ⟨_, rfl, _, rfl, _, _, _, _, rfl, t1, t2, ⟨s1, s2⟩, fun H' v s t => qv rfl _ _ s t⟩
      | over =>
        refine iteN (by decide +kernel) ?_
        refine ⟨_, rfl, _, _, _, _, rfl, rfl, ta.sq, a0, rfl, _, rfl, iteN (by decide +kernel) ?_⟩
        refine ⟨_, rfl, _, _, _, _, rfl, rfl, ta.sq, a0, rfl, _, rfl, iteN (by decide +kernel) ?_⟩
        refine ⟨_, rfl, fun an tn => ⟨eF (vals.getD j 0), eF 0, t2.dp, (td01 (tn _)).dp, shaped_eF _, shaped_eF _, _, rfl, ?_⟩⟩
        rw [eqv_eF]
        refine ite2 (fun z => ?_) (fun z => ?_)
        · exact ⟨_, rfl, noov_end fun d H' s => qe z d H' s⟩
        · have z' : ¬ vals.getD j 0 = 0 := fun e => z (decide_eq_true e)
          exact ⟨_, rfl, _, rfl, _, _, _, _, rfl, t1, t2, ⟨s1, s2, z'⟩, fun H' v s t => qv (decide_eq_false z') _ _ s t⟩
end
end U
set_option Elab.async false
set_option linter.all false
set_option maxRecDepth 100000
set_option maxHeartbeats 4000000
/-! run, runs_at. -/
namespace U
open PySem PySem.Spec PyProof.Rows L2
/-- a reckoning: its letters, its rows -/
def eRk (ls : List Str) (rows : List Row) : PyData := .tuple [.tuple (ls.map .str), .tuple (rows.map eRow)]
theorem TD.rk {K : PySem.W.Frag} {H : Hp} {v : V} {ls : List Str} {rows : List Row} (h : TD K H v (eRk ls rows)) : ∃ a vl vr, v = .ref a ∧ Tq K H a [vl, vr] ∧ TD K H vl (.tuple (ls.map .str)) ∧ TD K H vr (.tuple (rows.map eRow)) := by
  obtain ⟨a, xs, rfl, ht, hs⟩ := h.tup_inv
  cases hs with
  | cons h1 hs => cases hs with
    | cons h2 hs => cases hs with
      | nil => exact ⟨a, _, _, rfl, ht, h1, h2⟩
def spRun (K : PySem.W.Frag) (C : Addr) : Sp := fun vs H Q E => ∃ (rk pv : V) (ls : List Str) (rows : List Row) (pts : List Rat), vs = [rk, pv] ∧ TD K H rk (eRk ls rows) ∧ TD K H pv (.tuple (pts.map eF)) ∧ RunOk pts rows ∧
  (GoodTo pts rows rows.length → ∀ H' l xs, Same H H' → H l = none → H' l = some (.lst xs) → TDs K H' xs ((valsF pts rows).map eF) → Q (.ref l) H') ∧
  (¬ GoodTo pts rows rows.length → ∀ d H', Same H H' → E (.ref C) (some d) H')
theorem goodTo_succ {pts : List Rat} {rows : List Row} {i : Nat} {r : Row} (h : GoodTo pts rows i) (e : rows[i]? = some r) (b : rowBad (valsF pts (rows.take i)) r = false) : GoodTo pts rows (i + 1) := by
  intro j r' hj ej
  by_cases z : j = i
  · subst z
    rw [e] at ej
    cases ej
    exact b
  · exact h j r' (by omega) ej
section
variable {P : Program} {w : World} {K : PySem.W.Frag} {mg : Str → Option Value} {base : Heap} {C fI : Addr}
theorem sc_run : FnScope ["reckoning", "point", "found", "at", "row"] ["reckoning", "point"] (defScope s_run) := ⟨rfl, rfl, rfl, by decide +kernel, rfl, by decide +kernel, by decide +kernel⟩
theorem x_run (T : Txt K mg) (TN : NoOv K mg C fI) : CalX P w K mg base 5 "run" (spRun K C) := by
  refine calx_of T.a_run sc_run (fun _ _ _ _ _ _ us hl => match us, hl with | [_, _], _ => rfl) (fun vs H Q E h => ?_) (fun fa cdv A outer s H vs Q E hr h => ?_)
  · obtain ⟨_, _, _, _, _, rfl, _⟩ := h
    rfl
  · obtain ⟨rk, pv_, ls, rows, pts, rfl, hk, hp, ok, qg, qb⟩ := h
    refine ⟨_, (pss_cons (ps_set (i := 2) sc_run.nd rfl (Or.inl rfl) (pe_lst pa_nil))
(pss_cons (ps_for (passes_of rfl) rfl (pi_enumT (by rfl) T.b_enumerate (pa_cons (pe_ix ix_tup (pv 0) pe_int (fun _ _ => rfl)) pa_nil)) (pg_tup (by rfl) (pgs_cons (pg_name (i := 3) sc_run.nd rfl (Or.inl rfl)) (pgs_cons (pg_name (i := 4) sc_run.nd rfl (Or.inl rfl)) pgs_nil)))
(pss_one (ps_expr (pe_bm PySem.F.plainAttrs_list PySem.F.slot_list_append PySem.F.type_list_append mt_append (pv 2) (pa_cons (pe_cX (x_row_value T TN) (takes_of rfl rfl rfl rfl) hr (by decide) (by rfl) (pa_cons (pv 4) (pa_cons (pv 1) (pa_cons (pv 2) (pa_cons (pv 3) pa_nil))))) pa_nil)))))
(pss_one (ps_ret (pv 2))))), ?_⟩
    obtain ⟨ak, vl, vr, rfl, tk, tl, tr⟩ := hk.rk
    obtain ⟨ar, xr, rfl, tqr, tdr⟩ := tr.tup_inv
    have lr : xr.length = rows.length := by rw [tdr.len, List.length_map]
    refine ⟨Nat.zero_le _, fun l hl => ?_⟩
    have s0 : Same H (upd H l (.lst [])) := Same.new hl
    refine ⟨_, rfl, _, _, _, _, rfl, rfl, (tk.up (.of s0)).sq, a1, ar, xr, rfl, (tqr.up (.of s0)).sq, ?_⟩
    refine for_it (walk_enumT (xs := xr)) (fun i σ H1 => i ≤ rows.length ∧ (∃ x3 x4, σ = [some (.ref ak), some pv_, some (.ref l), x3, x4]) ∧ Ch (· = l) (upd H l (.lst [])) H1 ∧ (∃ xs, H1 l = some (.lst xs) ∧ TDs K H1 xs ((valsF pts (rows.take i)).map eF)) ∧ GoodTo pts rows i) ?_ ?_ ?_ ?_
    · exact ⟨Nat.zero_le _, ⟨_, _, rfl⟩, Ch.refl _ _, ⟨[], upd_same, .nil⟩, fun j r hj => by omega⟩
    · rintro i σ H1 _ ⟨_, _, c, _⟩
      exact ((tqr.up (.of s0)).up c.kp).sq
    · rintro i x σ H1 H2 hi ⟨hin, ⟨x3, x4, rfl⟩, c, ⟨xs, hx, tx⟩, gd⟩ ⟨tp, u1, u2, rfl, htp, rfl, e1, e2⟩
      cases e1
      obtain ⟨d, ed, td⟩ := tdr.get' e2
      rw [List.getElem?_map] at ed
      obtain ⟨r, er, rfl⟩ := Option.map_eq_some_iff.mp ed
      have s2 : Same H1 (upd H1 tp (.tup [.int i, u2])) := Same.new htp
      have hlt : l ≠ tp := ne_of_none hx htp
      have tot : Same H (upd H1 tp (.tup [.int i, u2])) := L2.Same.trans (sameNew hl c) s2
      have hil : i < rows.length := by omega
      have lv : (valsF pts (rows.take i)).length = i := by rw [valsF_len, List.length_take]; omega
      have hx2 := s2 _ _ hx
      refine ⟨tp, _, rfl, .inl (.inl upd_same), rfl, _, _, rfl, _, _, rfl, rfl, ?_⟩
      refine ⟨_, rfl, .inl ⟨rfl, xs, .of hx2⟩, _, rfl, _, rfl, _, rfl, _, rfl, ?_⟩
      refine ⟨r, pts, valsF pts (rows.take i), u2, pv_, l, xs, i, rfl, td.up (.of tot), hp.up (.of tot), hx2, tx.up (.of s2), ?_, ok.sz i hin gd, fun hb d H' s' => ?_, fun hb H' v s' tv => ?_⟩
      · rw [lv]; exact ok.wf i r er
      · refine qb (fun g => ?_) d H' (L2.Same.trans tot s')
        have := g i r hil er
        rw [hb] at this
        cases this
      · have hx3 := s' _ _ hx2
        have lx : xs.length = i := by rw [tx.len, List.length_map, lv]
        refine ⟨l, xs, v, rfl, rfl, hx3, by rw [lx]; have := ok.len; omega, ?_⟩
        have c3 : Ch (· = l) H' (upd H' l (.lst (xs ++ [v]))) := Ch.put rfl hx3 (fun _ z => by cases z)
        refine ⟨by omega, ⟨_, _, rfl⟩, ((c.same s2).same s').trans c3, ⟨_, upd_same, ?_⟩, goodTo_succ gd er hb⟩
        rw [valsF_take er, List.map_append]
        exact ((tx.up (.of (L2.Same.trans s2 s'))).snoc tv).up c3.kp
    · rintro σ H1 ⟨_, ⟨x3, x4, rfl⟩, c, ⟨xs, hx, tx⟩, gd⟩
      rw [lr] at gd tx
      rw [List.take_length] at tx
      exact ⟨_, rfl, qg gd _ _ _ (sameNew hl c) hl hx tx⟩
def spRunsAt (K : PySem.W.Frag) : Sp := fun vs H Q _ => ∃ (rk pv : V) (ls : List Str) (rows : List Row) (pts : List Rat), vs = [rk, pv] ∧ TD K H rk (eRk ls rows) ∧ TD K H pv (.tuple (pts.map eF)) ∧ RunOk pts rows ∧
  ∀ H', Same H H' → (GoodTo pts rows rows.length → Q (.bl true) H') ∧ (¬ GoodTo pts rows rows.length → Q (.bl false) H')
theorem sc_runs_at : FnScope ["reckoning", "point", "good"] ["reckoning", "point"] (defScope s_runs_at) := ⟨rfl, rfl, rfl, by decide +kernel, rfl, by decide +kernel, by decide +kernel⟩
theorem f_runs_at (T : Txt K mg) (TN : NoOv K mg C fI) : Cal P w K mg base 6 "runs_at" (spRunsAt K) := by
  refine cal_of T.a_runs_at sc_runs_at (fun _ _ _ _ _ _ us hl => match us, hl with | [_, _], _ => rfl) (fun vs H Q E h => ?_) (fun fa cdv A outer s H vs Q E hr h => ?_)
  · obtain ⟨_, _, _, _, _, rfl, _⟩ := h
    rfl
  · obtain ⟨rk, pv_, ls, rows, pts, rfl, hk, hp, ok, q⟩ := h
    refine ⟨_, (pss_cons (ps_set (i := 2) sc_runs_at.nd rfl (Or.inl rfl) pe_bl)
(pss_cons (ps_try_only rfl rfl ⟨rfl, by decide, .inl TN.gC⟩ takes0 (fun W pn xe tk _ => pss_one (ps_expr (pe_cX (x_run T TN) tk hr (by decide) (by rfl) (pa_cons (pv 0) (pa_cons (pv 1) pa_nil))))) (fun a oe cls d pn _ _ => pss_one (ps_set (i := 2) sc_runs_at.nd rfl (Or.inl rfl) pe_bl)))
(pss_one (ps_ret (pv 2))))), ?_⟩
    refine ⟨_, rfl, _, rfl, rk, pv_, ls, rows, pts, rfl, hk, hp, ok, fun g H' l xs s' hl hx tx => ?_, fun g d H' s' => ?_⟩
    · exact ⟨_, rfl, (q H' s').1 g⟩
    · exact ⟨true, TN.exm, (fun _ a ha => ⟨_, rfl, (q H' s').2 g⟩), (fun z => nomatch z)⟩
end
end U
set_option Elab.async false
set_option linter.all false
set_option maxRecDepth 100000
set_option maxHeartbeats 4000000
/-! The Maker, in plain Lean and in the heap. -/
namespace U
open PySem PySem.Spec PyProof.Rows L2
open PySem.W (EachIs AllAlike dataLe dataKind SortsAt)
/-- keys of known -/
inductive KK where
  | mark (m : Mark) | row (r : Row)
deriving DecidableEq
def kF (q : Rat) : NestedKey := .tup [.num q.num, .num q.den]
def kRow : Row → NestedKey
  | .num q => .tup [.text "number", kF q]
  | .let_ k => .tup [.text "letter", .num k]
  | .op w i j => .tup [.text (wdS w), .num i, .num j]
def kKK : KK → NestedKey
  | .mark m => keyK m
  | .row r => kRow r
theorem kF_data (q : Rat) : (kF q).data = eF q := by simp [kF, eF, NestedKey.data, NestedKey.datas]
theorem kRow_data (r : Row) : (kRow r).data = eRow r := by
  cases r with
  | num q => simp [kRow, eRow, NestedKey.data, NestedKey.datas, kF_data]
  | let_ k => simp [kRow, eRow, NestedKey.data, NestedKey.datas]
  | op w i j => simp [kRow, eRow, NestedKey.data, NestedKey.datas]
theorem kRow_depth (r : Row) : (kRow r).depth ≤ 8 := by
  cases r <;> simp [kRow, kF, NestedKey.depth, NestedKey.depthAll]
theorem wdS_inj {a b : Wd} (h : wdS a = wdS b) : a = b := by
  cases a <;> cases b <;> first | rfl | exact absurd h (by decide)
theorem kF_inj {p q : Rat} (h : kF p = kF q) : p = q := by
  have : eF p = eF q := by rw [← kF_data, ← kF_data, h]
  exact eF_inj this
theorem eRow_inj {r t : Row} (h : eRow r = eRow t) : r = t := by
  have two : ∀ {a b c d : PyData}, PyData.tuple [a, b] = .tuple [c, d] → a = c ∧ b = d := fun h => by
    injection h with h
    injection h with h1 h
    injection h with h2 _
    exact ⟨h1, h2⟩
  have three : ∀ {a b c d e f : PyData}, PyData.tuple [a, b, c] = .tuple [d, e, f] → a = d ∧ b = e ∧ c = f := fun h => by
    injection h with h
    injection h with h1 h
    injection h with h2 h
    injection h with h3 _
    exact ⟨h1, h2, h3⟩
  have nl : ¬ PyData.str ("number" : Str) = PyData.str ("letter" : Str) := fun z => by
    injection z with z
    exact absurd z (by decide)
  have ne23 : ∀ {a b c d e : PyData}, ¬ PyData.tuple [a, b] = .tuple [c, d, e] := fun h => by
    injection h with h
    injection h with _ h
    injection h with _ h
    cases h
  cases r with
  | num p =>
    cases t with
    | num q => rw [eF_inj (two h).2]
    | let_ k => exact absurd (two h).1 nl
    | op w i j => exact absurd h ne23
  | let_ k =>
    cases t with
    | num q => exact absurd (two h).1.symm nl
    | let_ j =>
      have := (two h).2
      injection this with this
      have : k = j := by omega
      rw [this]
    | op w i j => exact absurd h ne23
  | op w i j =>
    cases t with
    | num q => exact absurd h.symm ne23
    | let_ k => exact absurd h.symm ne23
    | op w' i' j' =>
      obtain ⟨h1, h2, h3⟩ := three h
      injection h1 with h1
      injection h2 with h2
      injection h3 with h3
      have e2 : i = i' := by omega
      have e3 : j = j' := by omega
      rw [wdS_inj h1, e2, e3]
theorem kKK_inj : ∀ a b : KK, kKK a = kKK b → a = b := by
  intro a b h
  cases a with
  | mark m =>
    cases b with
    | mark n => rw [keyK_inj (show keyK m = keyK n from h)]
    | row r => cases r <;> simp [kKK, keyK, kRow] at h
  | row r =>
    cases b with
    | mark n => cases r <;> simp [kKK, keyK, kRow] at h
    | row t =>
      have e : eRow r = eRow t := by rw [← kRow_data, ← kRow_data, show kRow r = kRow t from h]
      rw [eRow_inj e]
structure Mkr where
  rows : List Row
  paper : List (Option Mark)
  known : List (KK × Nat)
  off : Nat
def mEmp : Mkr := ⟨[], [], [], 0⟩
def mput (M : Mkr) (r : Row) : Mkr := ⟨M.rows ++ [r], M.paper ++ [none], M.known, M.off⟩
def monce (M : Mkr) (r : Row) : Mkr × Nat :=
  match tget M.known (.row r) with
  | some i => (M, i)
  | none => (⟨M.rows ++ [r], M.paper ++ [none], tput M.known (.row r) M.rows.length, M.off⟩, M.rows.length)
def mmk (M : Mkr) (m : Mark) : Mkr × Nat := if m.1 = -1 then monce M (.let_ m.2.toNat) else (M, (tget M.known (.mark m)).getD 0)
def mstep (A : Mkr × Nat) (m : Mark) : Mkr × Nat := (mput (mmk A.1 m).1 (.op .times A.2 (mmk A.1 m).2), (mmk A.1 m).1.rows.length)
def mprod (M : Mkr) (p : Mono) (f : Rat) : Mkr × Nat :=
  match p with
  | [] => monce M (.num f)
  | m :: ms =>
    let A := ms.foldl mstep (mmk M m)
    if f = 1 then A else (mput (monce A.1 (.num f)).1 (.op .times (monce A.1 (.num f)).2 A.2), (monce A.1 (.num f)).1.rows.length)
def mterm (g : Form) (A : Mkr × Option Nat) (p : Mono) : Mkr × Option Nat :=
  let B := mprod A.1 p ((tget g p).getD 0)
  match A.2 with
  | none => (B.1, some B.2)
  | some i => (mput B.1 (.op .plus i B.2), some B.1.rows.length)
def fkeys (g : Form) : List Mono := (g.map (·.1)).mergeSort (dataLe false eM)
def isBare : Row → Bool
  | .op _ _ _ => false
  | _ => true
def mend (A : Mkr × Option Nat) : Mkr × Nat := match A.2 with
  | none => (mput A.1 (.num 0), A.1.rows.length)
  | some i => (A.1, i)
def mshut (begin : Nat) (mk : Option Mark) (A : Mkr × Nat) : Mkr × Nat :=
  if (decide (A.2 < begin) || (decide (A.2 < A.1.rows.length - 1) || (mk.isSome && isBare (A.1.rows.getD A.2 (.num 0))))) = true then
    (mput (monce A.1 (.num 0)).1 (.op .plus A.2 (monce A.1 (.num 0)).2), (monce A.1 (.num 0)).1.rows.length)
  else A
def mlast (M : Mkr) (g : Form) (mk : Option Mark) : Mkr × Nat :=
  let A := mshut M.rows.length mk (mend ((fkeys g).foldl (mterm g) (M, none)))
  (⟨A.1.rows, A.1.paper.set A.2 mk, A.1.known, A.1.off⟩, A.2)
def mmark (M : Mkr) (m : Mark) (g : Form) : Mkr := let A := mlast M g (some m); ⟨A.1.rows, A.1.paper, tput A.1.known (.mark m) A.2, A.1.off + 1⟩
/-! ### in the heap -/
def eOM : Option Mark → PyData
  | none => .none
  | some m => eK m
def mf (r p d : Addr) : List (Str × V) := [("rows", .ref r), ("paper", .ref p), ("known", .ref d)]
/-- at a stands a Maker -/
structure MK (P : Program) (w : World) (K : PySem.W.Frag) (C : Addr) (H : Hp) (a dx r p d : Addr) (M : Mkr) : Prop where
  ins : H a = some (.ins C dx (mf r p d))
  rows : ∃ xs, H r = some (.lst xs) ∧ TDs K H xs (M.rows.map eRow)
  paper : ∃ ys, H p = some (.lst ys) ∧ TDs K H ys (M.paper.map eOM)
  known : ∃ o F, NDo P w K H d o F ∧ RT kKK (fun v (i : Nat) => v = .int i) F M.known
  ne : r ≠ p
  lp : M.paper.length = M.rows.length
  lk : M.known.length ≤ M.rows.length + M.off
  lo : M.off ≤ 1000
abbrev MS (r p d : Addr) : Addr → Prop := fun b => b = r ∨ b = p ∨ b = d
theorem MK.same {P : Program} {w : World} {K : PySem.W.Frag} {C : Addr} {H H' : Hp} {a dx r p d : Addr} {M : Mkr} (h : MK P w K C H a dx r p d M) (s : Same H H') : MK P w K C H' a dx r p d M := by
  obtain ⟨xs, h1, h2⟩ := h.rows
  obtain ⟨ys, h3, h4⟩ := h.paper
  obtain ⟨o, F, h5, h6⟩ := h.known
  exact ⟨s _ _ h.ins, ⟨xs, s _ _ h1, h2.up (.of s)⟩, ⟨ys, s _ _ h3, h4.up (.of s)⟩, ⟨o, F, h5.same s, h6⟩, h.ne, h.lp, h.lk, h.lo⟩
/-- what the walks ask of the class -/
structure MkrT (K : PySem.W.Frag) (mg : Str → Option Value) (C : Addr) : Prop where
  gC : mg "Maker" = some (.ref C)
  cls : Cls K C
  n_rows : NoAttr K C "rows"
  n_paper : NoAttr K C "paper"
  n_known : NoAttr K C "known"
  made : ∃ f fd, Mk K C f ∧ FunD K "__init__" "Maker.__init__" (defArgs s_Maker_init) (defBody s_Maker_init) (defScope s_Maker_init) [] [] f fd
  put : ∃ f fd, Meth K C "put" f ∧ FunD K "put" "Maker.put" (defArgs s_Maker_put) (defBody s_Maker_put) (defScope s_Maker_put) [.non] [] f fd
  once : ∃ f fd, Meth K C "once" f ∧ FunD K "once" "Maker.once" (defArgs s_Maker_once) (defBody s_Maker_once) (defScope s_Maker_once) [] [] f fd
  row_of_mark : ∃ f fd, Meth K C "row_of_mark" f ∧ FunD K "row_of_mark" "Maker.row_of_mark" (defArgs s_Maker_row_of_mark) (defBody s_Maker_row_of_mark) (defScope s_Maker_row_of_mark) [] [] f fd
  row_of_product : ∃ f fd, Meth K C "row_of_product" f ∧ FunD K "row_of_product" "Maker.row_of_product" (defArgs s_Maker_row_of_product) (defBody s_Maker_row_of_product) (defScope s_Maker_row_of_product) [] [] f fd
  last_of : ∃ f fd, Meth K C "last_of" f ∧ FunD K "last_of" "Maker.last_of" (defArgs s_Maker_last_of) (defBody s_Maker_last_of) (defScope s_Maker_last_of) [.non] [] f fd
  mark_row : ∃ f fd, Meth K C "mark_row" f ∧ FunD K "mark_row" "Maker.mark_row" (defArgs s_Maker_mark_row) (defBody s_Maker_mark_row) (defScope s_Maker_mark_row) [] [] f fd
section
variable {P : Program} {w : World} {K : PySem.W.Frag} {mg : Str → Option Value} {base : Heap}
theorem met_of {m qual : Str} {C : Addr} {st : Stmt} {N ps : List Str} {k : Nat} {sp : Sp} (c : Cls K C) (D : ∃ f fd, Meth K C m f ∧ FunD K m qual (defArgs st) (defBody st) (defScope st) [] [] f fd) (sc : FnScope N ps (defScope st))
    (b : ∀ (kV doc pm : Value) (an : Option Addr) (cdv ct : Value) (us : List Value), us.length = ps.length → bindArgs (PySem.W.fnOf m qual (defArgs st) (defBody st) (defScope st) .none kV doc pm an cdv ct) ⟨us, []⟩ = pure (ps.zip us))
    (len : ∀ vs H Q E, sp vs H Q E → vs.length = ps.length)
    (hbody : ∀ (f : Addr) (cdv : Value) (A : Around) (outer : List Env) (s : Shared) (H : Hp) (vs : List V) (Q : VK) (E : XK), Room k (A.deeper (envOfC qual (defScope st) s.heap.objs.size f cdv)) → sp vs H Q E →
      ∃ t, PSs (cxOf CX0 P w K mg base N qual (defScope st) f cdv A outer s H E).nox (defBody st) t ∧ t { nx := fun _ H' => Q .non H', rt := Q } (start N vs) H) : C8.Met P w K mg base (k + 1) C m sp [] := by
  obtain ⟨f, fd, me, F⟩ := D
  refine ⟨f, fd, ps, [], c, me, F.ok sc len fun cdv A outer s H vs Q E hr h => ?_, F.bindsN b, .nil⟩
  obtain ⟨t, h1, h2⟩ := hbody f cdv A outer s H vs Q E hr h
  exact ⟨t, h1.nox, h2⟩
/-- .. whose last parameter may be left out: None -/
theorem met_of1 {m qual : Str} {C : Addr} {st : Stmt} {N ps : List Str} {k : Nat} {sp : Sp} (j : Nat) (c : Cls K C) (D : ∃ f fd, Meth K C m f ∧ FunD K m qual (defArgs st) (defBody st) (defScope st) [.non] [] f fd) (sc : FnScope N ps (defScope st))
    (n : Nat) (hn : n + (1 - j) = ps.length)
    (b : ∀ (T : Addr) (kV doc pm : Value) (an : Option Addr) (cdv ct : Value) (us its : List Value), us.length = n → its.length = 1 →
      ∃ k, bindArgs (PySem.W.fnOf m qual (defArgs st) (defBody st) (defScope st) (.ref T) kV doc pm an cdv ct) ⟨us, []⟩ = seqItems? (.ref T) >>= k ∧ k (some its.toArray) = pure (ps.zip (us ++ its.drop j)))
    (len : ∀ vs H Q E, sp vs H Q E → vs.length = ps.length)
    (hbody : ∀ (f : Addr) (cdv : Value) (A : Around) (outer : List Env) (s : Shared) (H : Hp) (vs : List V) (Q : VK) (E : XK), Room k (A.deeper (envOfC qual (defScope st) s.heap.objs.size f cdv)) → sp vs H Q E →
      ∃ t, PSs (cxOf CX0 P w K mg base N qual (defScope st) f cdv A outer s H E).nox (defBody st) t ∧ t { nx := fun _ H' => Q .non H', rt := Q } (start N vs) H) : C8.Met P w K mg base (k + 1) C m sp ([V.non].drop j) := by
  obtain ⟨f, fd, me, F⟩ := D
  obtain ⟨ds, hv, hb⟩ := F.binds1 (ps := ps) n j (by simp) hn b
  refine ⟨f, fd, ps, ds, c, me, F.ok sc len fun cdv A outer s H vs Q E hr h => ?_, hb, hv⟩
  obtain ⟨t, h1, h2⟩ := hbody f cdv A outer s H vs Q E hr h
  exact ⟨t, h1.nox, h2⟩
variable {C : Addr}
def spPut (P : Program) (w : World) (K : PySem.W.Frag) (C : Addr) : Sp := fun vs H Q _ => ∃ (a dx r p d : Addr) (M : Mkr) (v : V) (x : Row), vs = [.ref a, v, .non] ∧ MK P w K C H a dx r p d M ∧ TD K H v (eRow x) ∧ M.rows.length < sizeLine ∧
  ∀ H', Ch (MS r p d) H H' → MK P w K C H' a dx r p d (mput M x) → Q (.int M.rows.length) H'
theorem sc_Maker_put : FnScope ["self", "row", "mark"] ["self", "row", "mark"] (defScope s_Maker_put) := ⟨rfl, rfl, rfl, by decide +kernel, rfl, by decide +kernel, by decide +kernel⟩
theorem m_put (T : Txt K mg) (TM : MkrT K mg C) : C8.Met P w K mg base 1 C "put" (spPut P w K C) [.non] := by
  refine met_of1 0 TM.cls TM.put sc_Maker_put 2 rfl (fun T kV doc pm an cdv ct us its hl h1 => match us, its, hl, h1 with | [_, _], [_], _, _ => ⟨_, rfl, rfl⟩) (fun vs H Q E h => ?_) (fun fa cdv A outer s H vs Q E hr h => ?_)
  · obtain ⟨a, dx, r, p, d, M, v, x, rfl, _⟩ := h
    rfl
  · obtain ⟨a, dx, r, p, d, M, v, x, rfl, mk, hv, hz, q⟩ := h
    refine ⟨_, (pss_cons (ps_expr (pe_bm PySem.F.plainAttrs_list PySem.F.slot_list_append PySem.F.type_list_append mt_append (pe_fld (pv 0) rfl) (pa_cons (pv 1) pa_nil)))
(pss_cons (ps_expr (pe_bm PySem.F.plainAttrs_list PySem.F.slot_list_append PySem.F.type_list_append mt_append (pe_fld (pv 0) rfl) (pa_cons (pv 2) pa_nil)))
(pss_one (ps_ret (pe_op op_sub (pe_callB call_len_seq (by rfl) T.b_len PySem.boot_len (pa_cons (pe_fld (pv 0) rfl) pa_nil)) pe_int))))), ?_⟩
    obtain ⟨xs, hx, tx⟩ := mk.rows
    obtain ⟨ys, hy, ty⟩ := mk.paper
    obtain ⟨o, F, nd, rt⟩ := mk.known
    have lx : xs.length = M.rows.length := by rw [tx.len, List.length_map]
    have ly : ys.length = M.rows.length := by rw [ty.len, List.length_map, mk.lp]
    refine ⟨_, rfl, a, C, dx, _, .ref r, rfl, mk.ins, TM.cls, TM.n_rows, rfl, .inl ⟨rfl, xs, .of hx⟩, _, rfl, r, xs, v, rfl, rfl, hx, by rw [lx]; exact hz, ?_⟩
    have ar : a ≠ r := fun z => by rw [← z, mk.ins] at hx; cases hx
    have ap : a ≠ p := fun z => by rw [← z, mk.ins] at hy; cases hy
    have dr : d ≠ r := fun z => by have := nd.at_; rw [z, hx] at this; cases this
    have dp : d ≠ p := fun z => by have := nd.at_; rw [z, hy] at this; cases this
    have c1 : Ch (MS r p d) H (upd H r (.lst (xs ++ [v]))) := Ch.put (.inl rfl) hx (fun _ z => by cases z)
    have h1p : upd H r (.lst (xs ++ [v])) p = some (.lst ys) := by rw [upd_ne (Ne.symm mk.ne)]; exact hy
    have h1a : upd H r (.lst (xs ++ [v])) a = some (.ins C dx (mf r p d)) := by rw [upd_ne ar]; exact mk.ins
    refine ⟨_, rfl, a, C, dx, _, .ref p, rfl, h1a, TM.cls, TM.n_paper, rfl, .inl ⟨rfl, ys, .of h1p⟩, _, rfl, p, ys, .non, rfl, rfl, h1p, by rw [ly]; exact hz, ?_⟩
    have c2 : Ch (MS r p d) H (upd (upd H r (.lst (xs ++ [v]))) p (.lst (ys ++ [.non]))) := c1.trans (Ch.put (.inr (.inl rfl)) h1p (fun _ z => by cases z))
    have h2a : upd (upd H r (.lst (xs ++ [v]))) p (.lst (ys ++ [.non])) a = some (.ins C dx (mf r p d)) := by rw [upd_ne ap]; exact h1a
    have h2r : upd (upd H r (.lst (xs ++ [v]))) p (.lst (ys ++ [.non])) r = some (.lst (xs ++ [v])) := by rw [upd_ne mk.ne, upd_same]
    refine ⟨_, rfl, a, C, dx, _, .ref r, rfl, h2a, TM.cls, TM.n_rows, rfl, r, xs ++ [v], rfl, .inl (.of h2r), _, _, rfl, rfl, ?_⟩
    have e : (((xs ++ [v]).length : Nat) : Int) - 1 = ((M.rows.length : Nat) : Int) := by rw [List.length_append, lx]; show ((M.rows.length + 1 : Nat) : Int) - 1 = _; omega
    show Q (.int ((((xs ++ [v]).length : Nat) : Int) - 1)) _
    rw [e]
    refine q _ c2 ⟨h2a, ⟨_, h2r, ?_⟩, ⟨_, upd_same, ?_⟩, ⟨o, F, nd.up c2.kp ?_, rt⟩, mk.ne, ?_, ?_, mk.lo⟩
    · show TDs K _ _ ((M.rows ++ [x]).map eRow)
      rw [List.map_append]
      exact (tx.snoc hv).up c2.kp
    · show TDs K _ _ ((M.paper ++ [none]).map eOM)
      rw [List.map_append]
      exact (ty.snoc (d := eOM none) .non).up c2.kp
    · rw [upd_ne dp, upd_ne dr]; exact nd.at_
    · show (M.paper ++ [none]).length = (M.rows ++ [x]).length
      rw [List.length_append, List.length_append, mk.lp]; rfl
    · show M.known.length ≤ (M.rows ++ [x]).length + M.off
      rw [List.length_append]; have := mk.lk; omega
end
end U
set_option Elab.async false
set_option linter.all false
set_option maxRecDepth 100000
set_option maxHeartbeats 4000000
/-! The Maker's methods, walked: made, once, row_of_mark, row_of_product. -/
namespace U
open PySem PySem.Spec PyProof.Rows L2
open PySem.W (EachIs AllAlike dataLe dataKind SortsAt)
section
variable {X : Cx} {k j : Nat} {C : Addr} {x m : Str} {sp : Sp} {dvs : List V} {p pos apos : Pos}
theorem pe_mk0 (c : C8.Mak X.prog X.w X.K X.mg X.base k x C sp dvs) (hr : Room j X.A) (hk : k + 1 ≤ j) (hg : Gl X x) (hdb : (x == ("__debug__" : Str)) = false := by decide) : PE X (.Call (.Name x p) [] [] pos) (tMake C sp dvs E0 tNil) := by
  obtain ⟨f, fd, ps, ds, M, F, hm, b, d⟩ := c.ex
  exact pe_make0 M F (hr.mono hk) hg hm b d C8.pass0 hdb
end
/-- t[lo:hi], any -/
def rSlD (K : PySem.W.Frag) : V → Option Int → Option Int → Hp → VK → Prop := fun x lo hi H Q => ∃ a xs, x = .ref a ∧ Tq K H a xs ∧ ∀ H' p, Same H H' → Tq K H' p (cutV xs lo hi) → Q (.ref p) H'
theorem cut_whole {xs : List V} {lo hi : Option Int} (h : HT.sIx xs.length 0 lo = 0 ∧ HT.sIx xs.length xs.length hi = xs.length) : cutV xs lo hi = xs := by
  unfold cutV
  rw [h.1, h.2]
  simp
theorem sl_tupD {X : Cx} : SlR X (rSlD X.K) := by
  intro pins s σ H x v vl vu lo hi sl Q I rx hs pl pu h
  obtain ⟨a, xs, rfl, hx, q⟩ := h
  exact sl_tupA pins s σ H _ v vl vu lo hi sl Q I rx hs pl pu ⟨a, xs, rfl, hx.sq, fun hw => q _ _ (same_rfl _) (by rw [cut_whole hw]; exact hx), fun _ p hp => q _ _ (Same.new hp) (.inl upd_same)⟩
/-- a mark's row is there -/
def MarkIn (M : Mkr) (m : Mark) : Prop := (m.1 = -1 ∧ 0 ≤ m.2) ∨ (m.1 ≠ -1 ∧ (tget M.known (.mark m)).isSome = true)
section
variable {P : Program} {w : World} {K : PySem.W.Frag} {mg : Str → Option Value} {base : Heap} {C : Addr}
def spMkInit (P : Program) (w : World) (K : PySem.W.Frag) (C : Addr) : Sp := fun vs H Q _ => ∃ (a dx : Addr), vs = [.ref a] ∧ H a = some (.ins C dx []) ∧
  ∀ H' r p d, Ch (· = a) H H' → H r = none → H p = none → H d = none → MK P w K C H' a dx r p d mEmp → Q .non H'
theorem sc_Maker_init : FnScope ["self"] ["self"] (defScope s_Maker_init) := ⟨rfl, rfl, rfl, by decide +kernel, rfl, by decide +kernel, by decide +kernel⟩
theorem mk_Maker (T : Txt K mg) (TM : MkrT K mg C) : C8.Mak P w K mg base 1 "Maker" C (spMkInit P w K C) [] := by
  obtain ⟨f, fd, M, F⟩ := TM.made
  refine ⟨f, fd, ["self"], [], M, F.ok sc_Maker_init (fun vs H Q E h => ?_) fun cdv A outer s H vs Q E hr h => ?_, TM.gC, F.bindsN (fun _ _ _ _ _ _ us hl => match us, hl with | [_], _ => rfl), .nil⟩
  · obtain ⟨a, dx, rfl, _⟩ := h
    rfl
  · obtain ⟨a, dx, rfl, ha, q⟩ := h
    refine ⟨_, PSs.nox (pss_cons (ps_fld (pv 0) (pe_lst pa_nil) rfl)
(pss_cons (ps_fld (pv 0) (pe_lst pa_nil) rfl)
(pss_one (ps_fld (pv 0) pe_nnew rfl)))), ?_⟩
    refine ⟨Nat.zero_le _, fun r hr1 => ⟨_, rfl, a, C, dx, [], rfl, ?_, TM.cls, TM.n_rows, by decide, ?_⟩⟩
    · rw [upd_ne (ne_of_none ha hr1)]; exact ha
    have c1 : Ch (· = a) H (upd (upd H r (.lst [])) a (.ins C dx (putF "rows" (.ref r) []))) := (Ch.new hr1).trans (Ch.put rfl (by rw [upd_ne (ne_of_none ha hr1)]; exact ha) (fun _ z => by cases z))
    have har : a ≠ r := ne_of_none ha hr1
    generalize hH1 : upd (upd H r (.lst [])) a (.ins C dx (putF "rows" (.ref r) [])) = H1 at c1 ⊢
    have h1a : H1 a = some (.ins C dx [("rows", .ref r)]) := by rw [← hH1, upd_same]; rfl
    have h1r : H1 r = some (.lst []) := by rw [← hH1, upd_ne (Ne.symm har), upd_same]
    refine ⟨Nat.zero_le _, fun p hp1 => ⟨_, rfl, a, C, dx, [("rows", .ref r)], rfl, ?_, TM.cls, TM.n_paper, by show 1 < 1000; decide, ?_⟩⟩
    · rw [upd_ne (ne_of_none h1a hp1)]; exact h1a
    have hap : a ≠ p := ne_of_none h1a hp1
    have hrp : r ≠ p := ne_of_none h1r hp1
    have c2 : Ch (· = a) H1 (upd (upd H1 p (.lst [])) a (.ins C dx (putF "paper" (.ref p) [("rows", .ref r)]))) := (Ch.new hp1).trans (Ch.put rfl (by rw [upd_ne hap]; exact h1a) (fun _ z => by cases z))
    have hp0 : H p = none := by
      cases z : H p with
      | none => rfl
      | some u => rw [c1.keep p u (Ne.symm hap) z] at hp1; cases hp1
    generalize hH2 : upd (upd H1 p (.lst [])) a (.ins C dx (putF "paper" (.ref p) [("rows", .ref r)])) = H2 at c2 ⊢
    have h2a : H2 a = some (.ins C dx [("rows", .ref r), ("paper", .ref p)]) := by rw [← hH2, upd_same]; rfl
    have h2r : H2 r = some (.lst []) := by rw [← hH2, upd_ne (Ne.symm har), upd_ne hrp]; exact h1r
    have h2p : H2 p = some (.lst []) := by rw [← hH2, upd_ne (Ne.symm hap), upd_same]
    refine fun d hd1 nd => ⟨_, rfl, a, C, dx, [("rows", .ref r), ("paper", .ref p)], rfl, ?_, TM.cls, TM.n_known, by show 2 < 1000; decide, ?_⟩
    · rw [upd_ne (ne_of_none h2a hd1)]; exact h2a
    have had : a ≠ d := ne_of_none h2a hd1
    have c3 : Ch (· = a) (upd H2 d (pinO d emptyD)) (upd (upd H2 d (pinO d emptyD)) a (.ins C dx (putF "known" (.ref d) [("rows", .ref r), ("paper", .ref p)]))) := Ch.put rfl (by rw [upd_ne had]; exact h2a) (fun _ z => by cases z)
    have hd0 : H d = none := by
      cases z : H d with
      | none => rfl
      | some u => rw [c2.keep d u (Ne.symm had) (c1.keep d u (Ne.symm had) z)] at hd1; cases hd1
    refine q _ r p d ((c1.trans c2).trans ((Ch.new hd1).trans c3)) hr1 hp0 hd0 ⟨?_, ⟨[], ?_, .nil⟩, ⟨[], ?_, .nil⟩, ⟨emptyD, [], nd.up c3.kp ?_, .nil⟩, hrp, rfl, Nat.zero_le _, Nat.zero_le _⟩
    · rw [upd_same]; rfl
    · rw [upd_ne (Ne.symm har), upd_ne (ne_of_none h2r hd1)]; exact h2r
    · rw [upd_ne (Ne.symm hap), upd_ne (ne_of_none h2p hd1)]; exact h2p
    · rw [upd_ne (Ne.symm had), upd_same]
def spOnce (P : Program) (w : World) (K : PySem.W.Frag) (C : Addr) : Sp := fun vs H Q _ => ∃ (a dx r p d : Addr) (M : Mkr) (v : V) (x : Row), vs = [.ref a, v] ∧ MK P w K C H a dx r p d M ∧ TD K H v (eRow x) ∧ M.rows.length + 1000 < sizeLine ∧
  ∀ H', Ch (MS r p d) H H' → MK P w K C H' a dx r p d (monce M x).1 → Q (.int (monce M x).2) H'
theorem kyR_of {H : Hp} {b : Addr} {x : Row} (h : TD K H (.ref b) (eRow x)) : KyAt K H b (kKK (.row x)) := ⟨by show TD K H _ (kRow x).data; rw [kRow_data]; exact h, kRow_depth x⟩
theorem TD.row_ref {H : Hp} {v : V} {x : Row} (h : TD K H v (eRow x)) : ∃ b, v = .ref b := by
  cases x with
  | num q => obtain ⟨a, _, e, _⟩ := h.row_num; exact ⟨a, e⟩
  | let_ k => obtain ⟨a, e, _⟩ := h.row_let; exact ⟨a, e⟩
  | op w i j => obtain ⟨a, e, _⟩ := h.row_op; exact ⟨a, e⟩
theorem sc_Maker_once : FnScope ["self", "row"] ["self", "row"] (defScope s_Maker_once) := ⟨rfl, rfl, rfl, by decide +kernel, rfl, by decide +kernel, by decide +kernel⟩
theorem m_once (T : Txt K mg) (TM : MkrT K mg C) : C8.Met P w K mg base 2 C "once" (spOnce P w K C) [] := by
  refine met_of TM.cls TM.once sc_Maker_once (fun _ _ _ _ _ _ us hl => match us, hl with | [_, _], _ => rfl) (fun vs H Q E h => ?_) (fun fa cdv A outer s H vs Q E hr h => ?_)
  · obtain ⟨a, dx, r, p, d, M, v, x, rfl, _⟩ := h
    rfl
  · obtain ⟨a, dx, r, p, d, M, v, x, rfl, mk, hv, hz, q⟩ := h
    refine ⟨_, (pss_cons (ps_if (pt_cmp (pc_nnotin (rhu hr) (pv 1) (pe_fld (pv 0) rfl)))
(pss_one (ps_nput (rhu hr) (pe_fld (pv 0) rfl) (pv 1) (C8.pe_mt (m_put T TM) hr (by decide) (pv 0) (pa_cons (pv 1) pa_nil)) rfl))
pss_nil)
(pss_one (ps_ret (pe_nget (rhu hr) (pe_fld (pv 0) rfl) (pv 1) (fun _ _ => rfl))))), ?_⟩
    obtain ⟨b, rfl⟩ := hv.row_ref
    obtain ⟨o, F, nd, rt⟩ := mk.known
    have ky := kyR_of hv
    refine ⟨_, rfl, _, rfl, a, C, dx, _, .ref d, rfl, mk.ins, TM.cls, TM.n_known, rfl, d, o, F, _, b, rfl, rfl, nd, ky, _, rfl, ?_⟩
    rw [rt.isSome kKK_inj]
    cases e : tget M.known (.row x) with
    | some i =>
      refine iteN rfl ?_
      obtain ⟨vi, ev, rfl⟩ := rt.val_some kKK_inj e
      have em : monce M x = (M, i) := by unfold monce; rw [e]
      refine ⟨_, rfl, a, C, dx, _, .ref d, rfl, mk.ins, TM.cls, TM.n_known, rfl, _, rfl, d, o, F, _, b, _, rfl, rfl, nd, ky, ev, ?_⟩
      have := q H (Ch.refl _ _) (by rw [em]; exact mk)
      rw [em] at this
      exact this
    | none =>
      refine iteY rfl ?_
      have em : monce M x = (⟨M.rows ++ [x], M.paper ++ [none], tput M.known (.row x) M.rows.length, M.off⟩, M.rows.length) := by unfold monce; rw [e]
      rw [em] at q
      refine ⟨_, rfl, a, dx, _, rfl, mk.ins, rfl, _, rfl, a, dx, r, p, d, M, _, x, rfl, mk, hv, by omega, fun H1 c1 mk1 => ?_⟩
      obtain ⟨o1, F1, nd1, rt1⟩ := mk1.known
      refine ⟨_, rfl, a, C, dx, _, .ref d, rfl, mk1.ins, TM.cls, TM.n_known, rfl, _, rfl, d, o1, F1, _, b, rfl, rfl, nd1, ky.up c1.kp, ?_, fun o2 n2 => ?_⟩
      · rw [rt1.len]
        have := mk.lk
        have := mk.lo
        show M.known.length < sizeLine
        omega
      have c2 : Ch (MS r p d) H1 (upd H1 d (pinO d o2)) := Ch.put (.inr (.inr rfl)) nd1.at_ pinO_tup
      have rt2 : RT kKK (fun v (i : Nat) => v = .int i) (putK F1 (kKK (.row x)) (.int (M.rows.length : Nat))) (tput M.known (.row x) M.rows.length) := rt1.put kKK_inj _ rfl
      obtain ⟨xs, hx, tx⟩ := mk1.rows
      obtain ⟨ys, hy, ty⟩ := mk1.paper
      have ad : a ≠ d := fun z => by have := nd1.at_; rw [← z, mk1.ins] at this; cases this
      have rd : r ≠ d := fun z => by have := nd1.at_; rw [← z, hx] at this; cases this
      have pd : p ≠ d := fun z => by have := nd1.at_; rw [← z, hy] at this; cases this
      have mk2 : MK P w K C (upd H1 d (pinO d o2)) a dx r p d ⟨M.rows ++ [x], M.paper ++ [none], tput M.known (.row x) M.rows.length, M.off⟩ := by
        refine ⟨by rw [upd_ne ad]; exact mk1.ins, ⟨xs, by rw [upd_ne rd]; exact hx, tx.up c2.kp⟩, ⟨ys, by rw [upd_ne pd]; exact hy, ty.up c2.kp⟩, ⟨o2, _, n2, rt2⟩, mk1.ne, mk1.lp, ?_, mk1.lo⟩
        have h1 := len_put M.known (.row x) M.rows.length
        have := mk.lk
        show (tput M.known (.row x) M.rows.length).length ≤ (M.rows ++ [x]).length + M.off
        rw [List.length_append]
        show _ ≤ M.rows.length + 1 + M.off
        omega
      obtain ⟨vi, ev, rfl⟩ := rt2.val_some (a := .row x) (b := M.rows.length) kKK_inj (by rw [tget_put, if_pos rfl])
      refine ⟨_, rfl, a, C, dx, _, .ref d, rfl, mk2.ins, TM.cls, TM.n_known, rfl, _, rfl, d, o2, _, _, b, _, rfl, rfl, n2, ky.up (c1.kp.trans c2.kp), ev, ?_⟩
      exact q _ (c1.trans c2) mk2
def spRowMk (P : Program) (w : World) (K : PySem.W.Frag) (C : Addr) : Sp := fun vs H Q _ => ∃ (a dx r p d : Addr) (M : Mkr) (v : V) (m : Mark), vs = [.ref a, v] ∧ MK P w K C H a dx r p d M ∧ TD K H v (eK m) ∧ MarkIn M m ∧ M.rows.length + 1000 < sizeLine ∧
  ∀ H', Ch (MS r p d) H H' → MK P w K C H' a dx r p d (mmk M m).1 → Q (.int (mmk M m).2) H'
theorem MK.up_new {H H' : Hp} {a dx r p d : Addr} {M : Mkr} (h : MK P w K C H a dx r p d M) (s : Same H H') : MK P w K C H' a dx r p d M := h.same s
theorem sc_Maker_row_of_mark : FnScope ["self", "mark"] ["self", "mark"] (defScope s_Maker_row_of_mark) := ⟨rfl, rfl, rfl, by decide +kernel, rfl, by decide +kernel, by decide +kernel⟩
theorem m_row_of_mark (T : Txt K mg) (TM : MkrT K mg C) : C8.Met P w K mg base 3 C "row_of_mark" (spRowMk P w K C) [] := by
  refine met_of TM.cls TM.row_of_mark sc_Maker_row_of_mark (fun _ _ _ _ _ _ us hl => match us, hl with | [_, _], _ => rfl) (fun vs H Q E h => ?_) (fun fa cdv A outer s H vs Q E hr h => ?_)
  · obtain ⟨a, dx, r, p, d, M, v, x, rfl, _⟩ := h
    rfl
  · obtain ⟨a, dx, r, p, d, M, v, m, rfl, mk, hv, hin, hz, q⟩ := h
    refine ⟨_, (pss_cons (ps_if (pt_cmpR op_eq (pe_ix ix_tup (pv 1) pe_int (fun _ _ => rfl)) (pe_un un_neg pe_int) (nomark _))
(pss_one (ps_ret (C8.pe_mt (m_once T TM) hr (by decide) (pv 0) (pa_cons (pe_tup (pa_cons pe_str (pa_cons (pe_ix ix_tup (pv 1) pe_int (fun _ _ => rfl)) pa_nil))) pa_nil))))
pss_nil)
(pss_one (ps_ret (pe_nget (rhu hr) (pe_fld (pv 0) rfl) (pv 1) (fun _ _ => rfl))))), ?_⟩
    obtain ⟨b, rfl, tb⟩ := hv.mk
    refine ⟨_, rfl, _, _, _, _, rfl, rfl, tb.sq, a0, _, rfl, rfl, _, rfl, ?_⟩
    rcases hin with ⟨h1, h2⟩ | ⟨h1, h2⟩
    · have em : mmk M m = monce M (.let_ m.2.toNat) := if_pos h1
      rw [em] at q
      refine iteY (decide_eq_true (by rw [h1])) ?_
      refine ⟨_, rfl, a, dx, _, rfl, mk.ins, rfl, _, rfl, _, _, _, _, rfl, rfl, tb.sq, a1, two_le, fun t ht => ?_⟩
      have s1 : Same H (upd H t (.tup [.str "letter", .int m.2])) := Same.new ht
      have tr : TD K (upd H t (.tup [.str "letter", .int m.2])) (.ref t) (eRow (.let_ m.2.toNat)) := TD.of_let (.inl (by rw [upd_same]; have : ((m.2.toNat : Nat) : Int) = m.2 := by omega
                                                                                                                         rw [this]))
      exact ⟨a, dx, r, p, d, M, _, .let_ m.2.toNat, rfl, mk.same s1, tr, hz, fun H' c mk' => q H' ((Ch.of s1).trans c) mk'⟩
    · have em : mmk M m = (M, (tget M.known (.mark m)).getD 0) := if_neg h1
      rw [em] at q
      refine iteN (decide_eq_false (fun z => h1 (by injection z))) ?_
      obtain ⟨o, F, nd, rt⟩ := mk.known
      obtain ⟨i, ei⟩ := Option.isSome_iff_exists.mp h2
      obtain ⟨vi, ev, rfl⟩ := rt.val_some kKK_inj ei
      rw [ei] at q
      exact ⟨_, rfl, a, C, dx, _, .ref d, rfl, mk.ins, TM.cls, TM.n_known, rfl, _, rfl, d, o, F, _, b, _, rfl, rfl, nd, kyK_of hv, ev, q H (Ch.refl _ _) mk⟩
end
end U
set_option Elab.async false
set_option linter.all false
set_option maxRecDepth 100000
set_option maxHeartbeats 4000000
/-! The Maker's methods, walked: row_of_product. -/
namespace U
open PySem PySem.Spec PyProof.Rows L2
open PySem.W (EachIs AllAlike dataLe dataKind SortsAt)
theorem monce_len (M : Mkr) (x : Row) : (monce M x).1.rows.length ≤ M.rows.length + 1 := by
  unfold monce
  cases tget M.known (.row x) with
  | some i => exact Nat.le_succ _
  | none => show (M.rows ++ [x]).length ≤ _; rw [List.length_append]; exact Nat.le_refl _
theorem mput_len (M : Mkr) (x : Row) : (mput M x).rows.length = M.rows.length + 1 := by
  show (M.rows ++ [x]).length = _
  rw [List.length_append]; rfl
theorem mmk_len (M : Mkr) (m : Mark) : (mmk M m).1.rows.length ≤ M.rows.length + 1 := by
  unfold mmk
  split
  · exact monce_len _ _
  · exact Nat.le_succ _
theorem mstep_len (A : Mkr × Nat) (m : Mark) : (mstep A m).1.rows.length ≤ A.1.rows.length + 2 := by
  unfold mstep
  rw [mput_len]
  have := mmk_len A.1 m
  omega
theorem monce_in {M : Mkr} {m : Mark} (h : MarkIn M m) (x : Row) : MarkIn (monce M x).1 m := by
  unfold monce
  cases e : tget M.known (.row x) with
  | some i => exact h
  | none =>
    rcases h with h | ⟨h1, h2⟩
    · exact .inl h
    · refine .inr ⟨h1, ?_⟩
      show (tget (tput M.known (.row x) M.rows.length) (.mark m)).isSome = true
      rw [tget_put, if_neg (by simp)]
      exact h2
theorem mmk_in {M : Mkr} {m : Mark} (h : MarkIn M m) (n : Mark) : MarkIn (mmk M n).1 m := by
  unfold mmk
  split
  · exact monce_in h _
  · exact h
theorem mstep_in {A : Mkr × Nat} {m : Mark} (h : MarkIn A.1 m) (n : Mark) : MarkIn (mstep A n).1 m := mmk_in (M := A.1) h n
theorem mfold_in {m : Mark} : ∀ (ms : Mono) {A : Mkr × Nat}, MarkIn A.1 m → MarkIn (ms.foldl mstep A).1 m
  | [], _, h => h
  | n :: ms, _, h => mfold_in ms (mstep_in h n)
theorem mfold_len : ∀ (ms : Mono) (A : Mkr × Nat), (ms.foldl mstep A).1.rows.length ≤ A.1.rows.length + 2 * ms.length
  | [], _ => by simp
  | n :: ms, A => by
    rw [List.foldl_cons, List.length_cons]
    have h1 := mfold_len ms (mstep A n)
    have h2 := mstep_len A n
    omega
theorem mprod_in {M : Mkr} {m : Mark} (h : MarkIn M m) (p : Mono) (f : Rat) : MarkIn (mprod M p f).1 m := by
  unfold mprod
  cases p with
  | nil => exact monce_in h _
  | cons n ms =>
    dsimp only
    have h1 := mfold_in ms (A := mmk M n) (mmk_in h n)
    split
    · exact h1
    · exact monce_in h1 _
theorem mprod_len (M : Mkr) (p : Mono) (f : Rat) : (mprod M p f).1.rows.length ≤ M.rows.length + 2 * p.length + 2 := by
  unfold mprod
  cases p with
  | nil => have := monce_len M (.num f); dsimp only; omega
  | cons n ms =>
    dsimp only
    have h1 := mfold_len ms (mmk M n)
    have h2 := mmk_len M n
    rw [List.length_cons]
    split
    · omega
    · rw [mput_len]
      have := monce_len (ms.foldl mstep (mmk M n)).1 (.num f)
      omega
section
variable {P : Program} {w : World} {K : PySem.W.Frag} {mg : Str → Option Value} {base : Heap} {C : Addr}
theorem cut_tail {x : V} {xs : List V} : cutV (x :: xs) (some 1) none = xs := by
  unfold cutV
  have e1 : HT.sIx (x :: xs).length 0 (some 1) = 1 := by
    simp [HT.sIx]
    try omega
  have e2 : HT.sIx (x :: xs).length (x :: xs).length none = (x :: xs).length := by simp [HT.sIx]
  rw [e1, e2]
  simp
def spProd (P : Program) (w : World) (K : PySem.W.Frag) (C : Addr) : Sp := fun vs H Q _ => ∃ (a dx r p d : Addr) (M : Mkr) (vm vf : V) (m : Mono) (f : Rat), vs = [.ref a, vm, vf] ∧ MK P w K C H a dx r p d M ∧ TD K H vm (eM m) ∧ TD K H vf (eF f) ∧ (∀ k ∈ m, MarkIn M k) ∧ M.rows.length + 2 * m.length + 1004 < sizeLine ∧
  ∀ H', Ch (MS r p d) H H' → MK P w K C H' a dx r p d (mprod M m f).1 → Q (.int (mprod M m f).2) H'
theorem sc_Maker_row_of_product : FnScope ["self", "product", "f", "found", "mark"] ["self", "product", "f"] (defScope s_Maker_row_of_product) := ⟨rfl, rfl, rfl, by decide +kernel, rfl, by decide +kernel, by decide +kernel⟩
theorem m_row_of_product (T : Txt K mg) (TM : MkrT K mg C) : C8.Met P w K mg base 4 C "row_of_product" (spProd P w K C) [] := by
  refine met_of TM.cls TM.row_of_product sc_Maker_row_of_product (fun _ _ _ _ _ _ us hl => match us, hl with | [_, _, _], _ => rfl) (fun vs H Q E h => ?_) (fun fa cdv A outer s H vs Q E hr h => ?_)
  · obtain ⟨_, _, _, _, _, _, _, _, _, _, rfl, _⟩ := h
    rfl
  · obtain ⟨a, dx, r, p, d, M, vm, vf, m, f, rfl, mk, hm, hf, hin, hz, q⟩ := h
    refine ⟨_, (pss_cons (ps_if (pt_cmpR op_eq (pe_callB call_len_seq (by rfl) T.b_len PySem.boot_len (pa_cons (pv 1) pa_nil)) pe_int (nomark _))
(pss_one (ps_ret (C8.pe_mt (m_once T TM) hr (by decide) (pv 0) (pa_cons (pe_tup (pa_cons pe_str (pa_cons (pv 2) pa_nil))) pa_nil))))
pss_nil)
(pss_cons (ps_set (i := 3) sc_Maker_row_of_product.nd rfl (Or.inl rfl) (C8.pe_mt (m_row_of_mark T TM) hr (by decide) (pv 0) (pa_cons (pe_ix ix_tup (pv 1) pe_int (fun _ _ => rfl)) pa_nil)))
(pss_cons (ps_for PassesOwn.never rfl (pi_tup (pe_slice sl_tupD (pv 1) (po_some pe_int) po_none)) (pg_name (i := 4) sc_Maker_row_of_product.nd rfl (Or.inl rfl))
(pss_one (ps_set (i := 3) sc_Maker_row_of_product.nd rfl (Or.inl rfl) (C8.pe_mt (m_put T TM) hr (by decide) (pv 0) (pa_cons (pe_tup (pa_cons pe_str (pa_cons (pv 3) (pa_cons (C8.pe_mt (m_row_of_mark T TM) hr (by decide) (pv 0) (pa_cons (pv 4) pa_nil)) pa_nil)))) pa_nil)))))
(pss_cons (ps_if (pt_cmpR (op_eqD (rhu hr)) (pv 2) (pe_con T.k_onef (by rfl)) (nomark _))
(pss_one (ps_ret (pv 3)))
pss_nil)
(pss_one (ps_ret (C8.pe_mt (m_put T TM) hr (by decide) (pv 0) (pa_cons (pe_tup (pa_cons pe_str (pa_cons (C8.pe_mt (m_once T TM) hr (by decide) (pv 0) (pa_cons (pe_tup (pa_cons pe_str (pa_cons (pv 2) pa_nil))) pa_nil)) (pa_cons (pv 3) pa_nil)))) pa_nil)))))))), ?_⟩
    obtain ⟨am, xm, rfl, tm, tds⟩ := hm.mono_inv
    have lm : xm.length = m.length := by rw [tds.len, List.length_map]
    refine ⟨_, rfl, am, xm, rfl, .inr tm.sq, rfl, _, rfl, ?_⟩
    cases m with
    | nil =>
      cases xm with
      | cons _ _ => simp at lm
      | nil =>
      refine iteY (by decide) ?_
      refine ⟨_, rfl, a, dx, _, rfl, mk.ins, rfl, _, rfl, two_le, fun t ht => ?_⟩
      have s1 : Same H (upd H t (.tup [.str "number", vf])) := Same.new ht
      exact ⟨a, dx, r, p, d, M, _, .num f, rfl, mk.same s1, TD.of_num (.inl upd_same) (hf.up (.of s1)), by simp at hz; omega, fun H' c mk' => q H' ((Ch.of s1).trans c) mk'⟩
    | cons m0 ms =>
      cases tds with
      | @cons v0 vs' _ _ t0 ts =>
      refine iteN (by rw [decide_eq_false_iff_not]; intro z; injection z with z; simp at z; omega) ?_
      rw [List.length_cons] at hz
      refine ⟨_, rfl, a, dx, _, rfl, mk.ins, rfl, _, rfl, _, _, _, _, rfl, rfl, tm.sq, a0, a, dx, r, p, d, M, v0, m0, rfl, mk, t0, hin m0 (List.mem_cons_self ..), by omega, fun H1 c1 mk1 => ?_⟩
      refine ⟨_, rfl, _, rfl, am, v0 :: vs', rfl, tm.up c1.kp, fun H2 ps s2 tps => ?_⟩
      rw [cut_tail] at tps
      refine ⟨_, rfl, ⟨_, tps.sq⟩, ?_⟩
      have lvs : vs'.length = ms.length := by simpa using lm
      refine for_it (walk_tup (xs := vs')) (fun i σ H3 => i ≤ ms.length ∧ Ch (MS r p d) H H3 ∧ Kp H2 H3 ∧ MK P w K C H3 a dx r p d ((ms.take i).foldl mstep (mmk M m0)).1 ∧ ∃ x4, σ = [some (.ref a), some (.ref am), some vf, some (.int ((ms.take i).foldl mstep (mmk M m0)).2), x4]) ?_ ?_ ?_ ?_
      · exact ⟨Nat.zero_le _, c1.same s2, Kp.refl _, mk1.same s2, _, rfl⟩
      · rintro i σ H3 _ ⟨_, _, k3, _⟩
        exact (tps.up k3).sq
      · rintro i x σ H3 H4 hi ⟨him, c3, k3, mk3, x4, rfl⟩ ⟨rfl, ex⟩
        obtain ⟨dd, ed, tx⟩ := (ts.up (Kp.trans c1.kp (Kp.trans (.of s2) k3))).get' ex
        rw [List.getElem?_map] at ed
        obtain ⟨mi, emi, rfl⟩ := Option.map_eq_some_iff.mp ed
        have hmi : mi ∈ ms := List.mem_of_getElem? emi
        have l3 := mfold_len (ms.take i) (mmk M m0)
        have l2 := mmk_len M m0
        have lt : (ms.take i).length ≤ i := by rw [List.length_take]; omega
        have eA : (ms.take (i + 1)).foldl mstep (mmk M m0) = mstep ((ms.take i).foldl mstep (mmk M m0)) mi := by
          rw [List.take_add_one, emi, List.foldl_append]; rfl
        have in3 : MarkIn ((ms.take i).foldl mstep (mmk M m0)).1 mi := mfold_in _ (mmk_in (hin mi (List.mem_cons_of_mem _ hmi)) _)
        generalize (ms.take i).foldl mstep (mmk M m0) = A at *
        refine ⟨_, rfl, a, dx, _, rfl, mk3.ins, rfl, _, rfl, _, rfl, a, dx, _, rfl, mk3.ins, rfl, _, rfl, a, dx, r, p, d, A.1, x, mi, rfl, mk3, tx, in3, by omega, fun H5 c5 mk5 => ⟨three_le, fun t ht => ?_⟩⟩
        have s6 : Same H5 (upd H5 t (.tup [.str "times", .int A.2, .int (mmk A.1 mi).2])) := Same.new ht
        have l5 := mmk_len A.1 mi
        refine ⟨a, dx, r, p, d, (mmk A.1 mi).1, _, .op .times A.2 (mmk A.1 mi).2, rfl, mk5.same s6, TD.of_op (w := .times) (.inl upd_same), by omega, fun H7 c7 mk7 => ?_⟩
        refine ⟨by omega, (c3.trans (c5.same s6)).trans c7, Kp.trans k3 (Kp.trans c5.kp (Kp.trans (.of s6) c7.kp)), ?_, x, ?_⟩
        · rw [eA]; exact mk7
        · rw [eA]; rfl
      · rintro σ H3 ⟨_, c3, k3, mk3, x4, rfl⟩
        rw [lvs, List.take_length] at mk3 ⊢
        have hf3 : TD K H3 vf (eF f) := hf.up c3.kp
        have l3 := mfold_len ms (mmk M m0)
        have l2 := mmk_len M m0
        refine ⟨_, rfl, fun an tn => ⟨eF f, eF 1, hf3.dp, (TD.of_fr (q := 1) (tn _)).dp, shaped_eF _, shaped_eF _, _, rfl, ?_⟩⟩
        rw [eqv_eF]
        have ep : mprod M (m0 :: ms) f = if f = 1 then ms.foldl mstep (mmk M m0) else (mput (monce (ms.foldl mstep (mmk M m0)).1 (.num f)).1 (.op .times (monce (ms.foldl mstep (mmk M m0)).1 (.num f)).2 (ms.foldl mstep (mmk M m0)).2), (monce (ms.foldl mstep (mmk M m0)).1 (.num f)).1.rows.length) := rfl
        rw [ep] at q
        generalize ms.foldl mstep (mmk M m0) = A at *
        refine iteB (fun z => ?_) (fun z => ?_)
        · rw [if_pos (of_decide_eq_true z)] at q
          exact ⟨_, rfl, q _ c3 mk3⟩
        · rw [if_neg (of_decide_eq_false z)] at q
          refine ⟨_, rfl, a, dx, _, rfl, mk3.ins, rfl, _, rfl, a, dx, _, rfl, mk3.ins, rfl, _, rfl, two_le, fun t ht => ?_⟩
          have s4 : Same H3 (upd H3 t (.tup [.str "number", vf])) := Same.new ht
          refine ⟨a, dx, r, p, d, A.1, _, .num f, rfl, mk3.same s4, TD.of_num (.inl upd_same) (hf3.up (.of s4)), by omega, fun H5 c5 mk5 => ⟨_, rfl, three_le, fun t2 ht2 => ?_⟩⟩
          have s6 : Same H5 (upd H5 t2 (.tup [.str "times", .int (monce A.1 (.num f)).2, .int A.2])) := Same.new ht2
          have l5 := monce_len A.1 (.num f)
          refine ⟨a, dx, r, p, d, _, _, .op .times (monce A.1 (.num f)).2 A.2, rfl, mk5.same s6, TD.of_op (w := .times) (.inl upd_same), by omega, fun H7 c7 mk7 => ?_⟩
          exact q _ (((c3.same s4).trans (c5.same s6)).trans c7) mk7
end
end U
set_option Elab.async false
set_option linter.all false
set_option maxRecDepth 100000
set_option maxHeartbeats 4000000
/-! The Maker's methods, walked: last_of, mark_row. -/
namespace U
open PySem PySem.Spec PyProof.Rows L2
open PySem.W (EachIs AllAlike dataLe dataKind SortsAt)
/-- what is known is there -/
def KOk (M : Mkr) : Prop := ∀ k i, tget M.known k = some i → i < M.rows.length
theorem kok_put {M : Mkr} (h : KOk M) (x : Row) : KOk (mput M x) := fun k i e => by
  have := h k i e
  rw [mput_len]; omega
theorem kok_once {M : Mkr} (h : KOk M) (x : Row) : KOk (monce M x).1 ∧ (monce M x).2 < (monce M x).1.rows.length := by
  unfold monce
  cases e : tget M.known (.row x) with
  | some i => exact ⟨h, h _ _ e⟩
  | none =>
    have l : (M.rows ++ [x]).length = M.rows.length + 1 := by rw [List.length_append]; rfl
    refine ⟨fun k i e => ?_, ?_⟩
    · have e' : tget (tput M.known (.row x) M.rows.length) k = some i := e
      show i < (M.rows ++ [x]).length
      rw [tget_put] at e'
      split at e'
      · cases e'; omega
      · have := h k i e'; omega
    · show M.rows.length < (M.rows ++ [x]).length
      omega
theorem kok_mk {M : Mkr} (h : KOk M) {m : Mark} (hi : MarkIn M m) : KOk (mmk M m).1 ∧ (mmk M m).2 < (mmk M m).1.rows.length := by
  unfold mmk
  rcases hi with ⟨h1, _⟩ | ⟨h1, h2⟩
  · rw [if_pos h1]; exact kok_once h _
  · rw [if_neg h1]
    obtain ⟨i, e⟩ := Option.isSome_iff_exists.mp h2
    refine ⟨h, ?_⟩
    show (tget M.known (.mark m)).getD 0 < _
    rw [e]
    exact h _ _ e
theorem kok_step {A : Mkr × Nat} (h : KOk A.1) {m : Mark} (hi : MarkIn A.1 m) : KOk (mstep A m).1 ∧ (mstep A m).2 < (mstep A m).1.rows.length := by
  obtain ⟨h1, h2⟩ := kok_mk h hi
  refine ⟨kok_put h1 _, ?_⟩
  show (mmk A.1 m).1.rows.length < (mput (mmk A.1 m).1 _).rows.length
  rw [mput_len]; omega
theorem kok_fold : ∀ (ms : Mono) {A : Mkr × Nat}, KOk A.1 → A.2 < A.1.rows.length → (∀ m ∈ ms, MarkIn A.1 m) → KOk (ms.foldl mstep A).1 ∧ (ms.foldl mstep A).2 < (ms.foldl mstep A).1.rows.length
  | [], _, h, h2, _ => ⟨h, h2⟩
  | n :: ms, A, h, _, hi => by
    obtain ⟨h1, h2⟩ := kok_step h (hi n (List.mem_cons_self ..))
    exact kok_fold ms h1 h2 fun m hm => mstep_in (hi m (List.mem_cons_of_mem _ hm)) n
theorem kok_prod {M : Mkr} (h : KOk M) {p : Mono} (hi : ∀ m ∈ p, MarkIn M m) (f : Rat) : KOk (mprod M p f).1 ∧ (mprod M p f).2 < (mprod M p f).1.rows.length := by
  unfold mprod
  cases p with
  | nil => exact kok_once h _
  | cons n ms =>
    dsimp only
    obtain ⟨h1, h2⟩ := kok_mk h (hi n (List.mem_cons_self ..))
    obtain ⟨h3, h4⟩ := kok_fold ms h1 h2 fun m hm => mmk_in (hi m (List.mem_cons_of_mem _ hm)) n
    split
    · exact ⟨h3, h4⟩
    · obtain ⟨h5, h6⟩ := kok_once h3 (.num f)
      refine ⟨kok_put h5 _, ?_⟩
      show (monce _ _).1.rows.length < (mput (monce _ _).1 _).rows.length
      rw [mput_len]; omega
theorem mterm_in {g : Form} {A : Mkr × Option Nat} {m : Mark} (h : MarkIn A.1 m) (p : Mono) : MarkIn (mterm g A p).1 m := by
  unfold mterm
  dsimp only
  have := mprod_in h p ((tget g p).getD 0)
  split <;> exact this
def OLt (A : Mkr × Option Nat) : Prop := ∀ i, A.2 = some i → i < A.1.rows.length
theorem kok_term {g : Form} {A : Mkr × Option Nat} (h : KOk A.1) {p : Mono} (hi : ∀ m ∈ p, MarkIn A.1 m) : KOk (mterm g A p).1 ∧ OLt (mterm g A p) := by
  unfold mterm
  dsimp only
  obtain ⟨h1, h2⟩ := kok_prod h hi ((tget g p).getD 0)
  split
  · exact ⟨h1, fun i e => by cases e; exact h2⟩
  · refine ⟨kok_put h1 _, fun i e => ?_⟩
    cases e
    show _ < (mput _ _).rows.length
    rw [mput_len]; omega
theorem mterm_len (g : Form) (A : Mkr × Option Nat) (p : Mono) : (mterm g A p).1.rows.length ≤ A.1.rows.length + 2 * p.length + 3 := by
  unfold mterm
  dsimp only
  have := mprod_len A.1 p ((tget g p).getD 0)
  split
  · dsimp only; omega
  · show (mput _ _).rows.length ≤ _
    rw [mput_len]; omega
theorem tfold_len (g : Form) : ∀ (ps : List Mono) (A : Mkr × Option Nat), (∀ p ∈ ps, p.length ≤ 2) → (ps.foldl (mterm g) A).1.rows.length ≤ A.1.rows.length + 7 * ps.length
  | [], _, _ => by simp
  | p :: ps, A, h => by
    rw [List.foldl_cons, List.length_cons]
    have h1 := tfold_len g ps (mterm g A p) fun q hq => h q (List.mem_cons_of_mem _ hq)
    have h2 := mterm_len g A p
    have h3 := h p (List.mem_cons_self ..)
    omega
theorem tfold_in {g : Form} {m : Mark} : ∀ (ps : List Mono) {A : Mkr × Option Nat}, MarkIn A.1 m → MarkIn (ps.foldl (mterm g) A).1 m
  | [], _, h => h
  | p :: ps, _, h => tfold_in ps (mterm_in h p)
theorem kok_tfold {g : Form} : ∀ (ps : List Mono) {A : Mkr × Option Nat}, KOk A.1 → OLt A → (∀ p ∈ ps, ∀ m ∈ p, MarkIn A.1 m) → KOk (ps.foldl (mterm g) A).1 ∧ OLt (ps.foldl (mterm g) A)
  | [], _, h, h2, _ => ⟨h, h2⟩
  | p :: ps, A, h, _, hi => by
    obtain ⟨h1, h2⟩ := kok_term (g := g) h (hi p (List.mem_cons_self ..))
    exact kok_tfold ps h1 h2 fun q hq m hm => mterm_in (hi q (List.mem_cons_of_mem _ hq) m hm) p
theorem fkeys_mem {g : Form} {p : Mono} : p ∈ fkeys g ↔ p ∈ g.map (·.1) := List.mem_mergeSort
theorem fkeys_len (g : Form) : (fkeys g).length = g.length := by unfold fkeys; rw [List.length_mergeSort, List.length_map]
/-- what mlast wants -/
structure LastOk (M : Mkr) (g : Form) : Prop where
  kok : KOk M
  fm : Fm g
  ins : ∀ p ∈ g, ∀ m ∈ p.1, MarkIn M m
  len : M.rows.length + 7 * g.length + 1020 < sizeLine
theorem last_mid {M : Mkr} {g : Form} (h : LastOk M g) : KOk (mend ((fkeys g).foldl (mterm g) (M, none))).1 ∧ (mend ((fkeys g).foldl (mterm g) (M, none))).2 < (mend ((fkeys g).foldl (mterm g) (M, none))).1.rows.length := by
  obtain ⟨h1, h2⟩ := kok_tfold (g := g) (fkeys g) (A := (M, none)) h.kok (fun i e => by cases e) fun p hp m hm => by
    obtain ⟨q, hq, rfl⟩ := List.mem_map.mp (fkeys_mem.mp hp)
    exact h.ins q hq m hm
  unfold mend
  cases e : ((fkeys g).foldl (mterm g) (M, none)).2 with
  | none =>
    refine ⟨kok_put h1 _, ?_⟩
    show ((fkeys g).foldl (mterm g) (M, none)).1.rows.length < (mput ((fkeys g).foldl (mterm g) (M, none)).1 (.num 0)).rows.length
    rw [mput_len]; exact Nat.lt_succ_self _
  | some i => exact ⟨h1, h2 i e⟩
theorem each_at {α β : Type} {R : α → β → Prop} : ∀ {xs : List α} {ys : List β} {i : Nat} {x : α}, EachIs R xs ys → xs[i]? = some x → ∃ y, ys[i]? = some y ∧ R x y
  | _, _, 0, _, .cons h _, e => by simp at e; subst e; exact ⟨_, rfl, h⟩
  | _, _, i + 1, _, .cons _ hs, e => by simpa using each_at (i := i) hs (by simpa using e)
  | _, _, _, _, .nil, e => by simp at e
def oV : Option Nat → V
  | none => .non
  | some i => .int i
def headS : Row → Str
  | .num _ => "number"
  | .let_ _ => "letter"
  | .op w _ _ => wdS w
section
variable {P : Program} {w : World} {K : PySem.W.Frag} {mg : Str → Option Value} {base : Heap} {C : Addr}
theorem TD.row_head {H : Hp} {v : V} {x : Row} (h : TD K H v (eRow x)) : ∃ b ys, v = .ref b ∧ Tq K H b (.str (headS x) :: ys) := by
  cases x with
  | num q => obtain ⟨a, vf, e, t, _⟩ := h.row_num; exact ⟨a, _, e, t⟩
  | let_ k => obtain ⟨a, e, t⟩ := h.row_let; exact ⟨a, _, e, t⟩
  | op w i j => obtain ⟨a, e, t⟩ := h.row_op; exact ⟨a, _, e, t⟩
theorem bare_in (x : Row) : inV (.str (headS x)) [.str "number", .str "letter"] = isBare x := by
  cases x with
  | num q => show inV (.str "number") _ = true; decide +kernel
  | let_ k => show inV (.str "letter") _ = true; decide +kernel
  | op w i j =>
    have key : ∀ w, inV (.str (wdS w)) [.str "number", .str "letter"] = false := fun w => by cases w <;> decide +kernel
    exact key w
theorem alike_marks : ∀ (a b : Mono), PySem.W.alikeAll (a.map eK) (b.map eK) = true
  | [], _ => rfl
  | _ :: _, [] => rfl
  | x :: a, y :: b => by
    show (PySem.W.alike (eK x) (eK y) && PySem.W.alikeAll (a.map eK) (b.map eK)) = true
    rw [alike_eK, alike_marks a b]; rfl
theorem alike_eM (a b : Mono) : PySem.W.alike (eM a) (eM b) = true := alike_marks a b
theorem depth_eM (m : Mono) : (eM m).depth ≤ 8 := by
  have key : ∀ m : Mono, PyData.depthAll (m.map eK) ≤ 7 := fun m => by
    induction m with
    | nil => simp [PyData.depthAll]
    | cons p m ih =>
      rw [List.map_cons]
      have : (eK p).depth ≤ 2 := by simp [eK, PyData.depth, PyData.depthAll]
      simp only [PyData.depthAll]
      omega
  have := key m
  simp only [eM, PyData.depth]
  omega
theorem sorted_keys {F : List (NestedKey × V)} {g : Form} {H : Hp} (h : RT keyM (RQ K H) F g) : (F.map (·.1)).mergeSort (dataLe false NestedKey.data) = (fkeys g).map keyM := by
  have e : F.map (·.1) = (g.map (·.1)).map keyM := by rw [h.keys, List.map_map]; rfl
  unfold fkeys
  rw [e, ← List.map_mergeSort]
  intro a _ b _
  unfold dataLe PySem.W.sortLe
  simp only [keyM_data]
def spLast (P : Program) (w : World) (K : PySem.W.Frag) (C : Addr) : Sp := fun vs H Q _ => ∃ (a dx r p d f : Addr) (M : Mkr) (g : Form) (vk : V) (mk : Option Mark), vs = [.ref a, .ref f, vk] ∧ MK P w K C H a dx r p d M ∧ FD P w K H f g ∧ f ≠ d ∧ TD K H vk (eOM mk) ∧ LastOk M g ∧
  ∀ H', Ch (MS r p d) H H' → MK P w K C H' a dx r p d (mlast M g mk).1 → Q (.int (mlast M g mk).2) H'
theorem sc_Maker_last_of : FnScope ["self", "form", "mark", "begin", "found", "product", "one", "bare"] ["self", "form", "mark"] (defScope s_Maker_last_of) := ⟨rfl, rfl, rfl, by decide +kernel, rfl, by decide +kernel, by decide +kernel⟩
theorem ixN_nat {n j : Nat} (h : j < n) : ixN n (j : Int) = some j := by
  unfold ixN
  rw [if_pos (by omega), if_pos (by omega)]; simp
def ifBody : Stmt → List Stmt
  | .If _ b _ _ => b
  | _ => []
abbrev XL (P : Program) (w : World) (K : PySem.W.Frag) (mg : Str → Option Value) (base : Heap) (fa : Addr) (cdv : Value) (A : Around) (outer : List Env) (s : Shared) (H : Hp) (E : XK) : Cx := (cxOf CX0 P w K mg base ["self", "form", "mark", "begin", "found", "product", "one", "bare"] "Maker.last_of" (defScope s_Maker_last_of) fa cdv A outer s H E).nox
theorem last_t2 (TM : MkrT K mg C) (fa : Addr) (cdv : Value) (A : Around) (outer : List Env) (s : Shared) (H : Hp) (Q : VK) (E : XK) :
    ∃ t, PSs (XL P w K mg base fa cdv A outer s H E) ((defBody s_Maker_last_of).drop 6) t ∧ ∀ (H1 : Hp) (a dx r p d : Addr) (vk : V) (mk : Option Mark) (A1 : Mkr × Nat) (x1 x3 x5 x6 x7 : Option V), MK P w K C H1 a dx r p d A1.1 → TD K H1 vk (eOM mk) → A1.2 < A1.1.rows.length →
      (∀ H', Ch (MS r p d) H1 H' → MK P w K C H' a dx r p d ⟨A1.1.rows, A1.1.paper.set A1.2 mk, A1.1.known, A1.1.off⟩ → Q (.int A1.2) H') → t { nx := fun _ H' => Q .non H', rt := Q } [some (.ref a), x1, some vk, x3, some (.int A1.2), x5, x6, x7] H1 := by
  refine ⟨_, (pss_cons (ps_asg (pv 2) (pg_sub (pe_fld (pv 0) rfl) (pv 4) set_list)) (pss_one (ps_ret (pv 4)))), fun H1 a dx r p d vk mk A1 x1 x3 x5 x6 x7 hM hk hlt q => ?_⟩
  obtain ⟨ys, hy, ty⟩ := hM.paper
  obtain ⟨xs, hx, tx⟩ := hM.rows
  obtain ⟨o, F, nd, rt⟩ := hM.known
  have ly : ys.length = A1.1.rows.length := by rw [ty.len, List.length_map, hM.lp]
  refine ⟨_, rfl, _, rfl, a, C, dx, _, .ref p, rfl, hM.ins, TM.cls, TM.n_paper, rfl, _, rfl, p, ys, _, A1.2, rfl, rfl, hy, ixN_nat (by omega), ?_⟩
  have ap : a ≠ p := fun z => by rw [← z, hM.ins] at hy; cases hy
  have dp : d ≠ p := fun z => by have := nd.at_; rw [z, hy] at this; cases this
  have c1 : Ch (MS r p d) H1 (upd H1 p (.lst (ys.set A1.2 vk))) := Ch.put (.inr (.inl rfl)) hy (fun _ z => by cases z)
  refine ⟨_, rfl, q _ c1 ⟨by rw [upd_ne ap]; exact hM.ins, ⟨xs, by rw [upd_ne hM.ne]; exact hx, tx.up c1.kp⟩, ⟨_, upd_same, ?_⟩, ⟨o, F, nd.up c1.kp (by rw [upd_ne dp]; exact nd.at_), rt⟩, hM.ne, ?_, hM.lk, hM.lo⟩⟩
  · show TDs K _ _ ((A1.1.paper.set A1.2 mk).map eOM)
    rw [List.map_set]
    exact (ty.set _ hk).up c1.kp
  · show (A1.1.paper.set A1.2 mk).length = _
    rw [List.length_set]; exact hM.lp
theorem last_then (T : Txt K mg) (TM : MkrT K mg C) (fa : Addr) (cdv : Value) (A : Around) (outer : List Env) (s : Shared) (H : Hp) (E : XK) (hr : Room 4 (A.deeper (envOfC "Maker.last_of" (defScope s_Maker_last_of) s.heap.objs.size fa cdv))) :
    ∃ t, PSs (XL P w K mg base fa cdv A outer s H E) (ifBody ((defBody s_Maker_last_of).getD 5 (.Pass ⟨0, 0, 0, 0⟩))) t ∧ ∀ (D : Ends) (H1 : Hp) (a dx r p d : Addr) (A1 : Mkr × Nat) (x1 x2 x3 x5 x6 x7 : Option V), MK P w K C H1 a dx r p d A1.1 → A1.1.rows.length + 1004 < sizeLine →
      (∀ H', Ch (MS r p d) H1 H' → MK P w K C H' a dx r p d (mput (monce A1.1 (.num 0)).1 (.op .plus A1.2 (monce A1.1 (.num 0)).2)) → D.nx [some (.ref a), x1, x2, x3, some (.int (monce A1.1 (.num 0)).1.rows.length), x5, x6, x7] H') → t D [some (.ref a), x1, x2, x3, some (.int A1.2), x5, x6, x7] H1 := by
  refine ⟨_, (pss_one (ps_set (i := 4) sc_Maker_last_of.nd rfl (Or.inl rfl) (C8.pe_mt (m_put T TM) hr (by decide) (pv 0) (pa_cons (pe_tup (pa_cons pe_str (pa_cons (pv 4) (pa_cons (C8.pe_mt (m_once T TM) hr (by decide) (pv 0) (pa_cons (pe_tup (pa_cons pe_str (pa_cons (pe_tup (pa_cons pe_int (pa_cons pe_int pa_nil))) pa_nil))) pa_nil)) pa_nil)))) pa_nil)))), fun D H1 a dx r p d A1 x1 x2 x3 x5 x6 x7 hM hz q => ?_⟩
  refine ⟨_, rfl, a, dx, _, rfl, hM.ins, rfl, _, rfl, _, rfl, a, dx, _, rfl, hM.ins, rfl, two_le, fun t1 ht1 => ⟨two_le, fun t2 ht2 => ?_⟩⟩
  have s1 : Same H1 (upd H1 t1 (.tup [.int 0, .int 1])) := Same.new ht1
  have s2 : Same (upd H1 t1 (.tup [.int 0, .int 1])) (upd (upd H1 t1 (.tup [.int 0, .int 1])) t2 (.tup [.str "number", .ref t1])) := Same.new ht2
  have s12 := L2.Same.trans s1 s2
  refine ⟨a, dx, r, p, d, A1.1, _, .num 0, rfl, hM.same s12, TD.of_num (.inl upd_same) (td01 (.inl (s2 _ _ upd_same))), by omega, fun H5 c5 mk5 => ⟨three_le, fun t3 ht3 => ?_⟩⟩
  have s6 : Same H5 (upd H5 t3 (.tup [.str "plus", .int A1.2, .int (monce A1.1 (.num 0)).2])) := Same.new ht3
  have l5 := monce_len A1.1 (.num 0)
  refine ⟨a, dx, r, p, d, _, _, .op .plus A1.2 (monce A1.1 (.num 0)).2, rfl, mk5.same s6, TD.of_op (w := .plus) (.inl upd_same), by omega, fun H7 c7 mk7 => ?_⟩
  exact q _ (((Ch.of s12).trans (c5.same s6)).trans c7) mk7
theorem last_t1 (T : Txt K mg) (TM : MkrT K mg C) (fa : Addr) (cdv : Value) (A : Around) (outer : List Env) (s : Shared) (H : Hp) (Q : VK) (E : XK) (hr : Room 4 (A.deeper (envOfC "Maker.last_of" (defScope s_Maker_last_of) s.heap.objs.size fa cdv))) :
    ∃ t, PSs (XL P w K mg base fa cdv A outer s H E) ((defBody s_Maker_last_of).drop 4) t ∧ ∀ (H1 : Hp) (a dx r p d : Addr) (vk : V) (mk : Option Mark) (A1 : Mkr × Nat) (begin : Nat) (x1 x5 x6 x7 : Option V), MK P w K C H1 a dx r p d A1.1 → TD K H1 vk (eOM mk) → A1.2 < A1.1.rows.length → KOk A1.1 → A1.1.rows.length + 1004 < sizeLine →
      (∀ H', Ch (MS r p d) H1 H' → MK P w K C H' a dx r p d ⟨(mshut begin mk A1).1.rows, (mshut begin mk A1).1.paper.set (mshut begin mk A1).2 mk, (mshut begin mk A1).1.known, (mshut begin mk A1).1.off⟩ → Q (.int (mshut begin mk A1).2) H') → t { nx := fun _ H' => Q .non H', rt := Q } [some (.ref a), x1, some vk, some (.int begin), some (.int A1.2), x5, x6, x7] H1 := by
  obtain ⟨t2, p2, r2⟩ := last_t2 (P := P) (w := w) (base := base) TM fa cdv A outer s H Q E
  obtain ⟨tt, pt, rt⟩ := last_then (P := P) (w := w) (base := base) T TM fa cdv A outer s H E hr
  refine ⟨_, (pss_cons (ps_set (i := 7) sc_Maker_last_of.nd rfl (Or.inl rfl) (pe_and (pe_cmpR op_notN (pv 2) pe_non (nomark _)) (pe_one (pe_cmpR op_in_seq (pe_ix ix_tup (pe_ix ix_list (pe_fld (pv 0) rfl) (pv 4) (fun _ _ => rfl)) pe_int (fun _ _ => rfl)) (pe_tup (pa_cons pe_str (pa_cons pe_str pa_nil))) rfl))))
(pss_cons (ps_if (PW.pt (pw_or (pt_cmpR op_lt (pv 4) (pv 3) (nomark _)) (pw_or (pt_cmpR op_lt (pv 4) (pe_op op_sub (pe_callB call_len_seq (by rfl) T.b_len PySem.boot_len (pa_cons (pe_fld (pv 0) rfl) pa_nil)) pe_int) (nomark _)) (pw_or1 (pt_val (pv 7)))))) pt pss_nil) p2)), fun H1 a dx r p d vk mk A1 begin x1 x5 x6 x7 hM hk hlt hok hz q => ?_⟩
  obtain ⟨xs, hx, tx⟩ := hM.rows
  have lx : xs.length = A1.1.rows.length := by rw [tx.len, List.length_map]
  have er : (A1.1.rows.map eRow)[A1.2]? = some (eRow (A1.1.rows.getD A1.2 (.num 0))) := by
    rw [List.getElem?_map, List.getD_eq_getElem?_getD, List.getElem?_eq_getElem hlt]; rfl
  obtain ⟨vr, evr, tvr⟩ := tx.get er
  obtain ⟨br, yr, rfl, tqr⟩ := tvr.row_head
  obtain ⟨h5, h6⟩ := kok_once hok (.num 0)
  -- behind bare
  have sum : ∀ (x7 : Option V) (H2 : Hp), Same H1 H2 → (decide (A1.2 < begin) || (decide (A1.2 < A1.1.rows.length - 1) || (mk.isSome && isBare (A1.1.rows.getD A1.2 (.num 0))))) = true → tt { nx := fun σ H' => t2 { nx := fun _ H' => Q .non H', rt := Q } σ H', rt := Q } [some (.ref a), x1, some vk, some (.int begin), some (.int A1.2), x5, x6, x7] H2 := fun x7 H2 s2 hc => by
    have em : mshut begin mk A1 = (mput (monce A1.1 (.num 0)).1 (.op .plus A1.2 (monce A1.1 (.num 0)).2), (monce A1.1 (.num 0)).1.rows.length) := if_pos hc
    rw [em] at q
    refine rt _ H2 a dx r p d A1 _ _ _ _ _ _ (hM.same s2) hz fun H3 c3 mk3 => ?_
    exact r2 H3 a dx r p d vk mk (mput (monce A1.1 (.num 0)).1 (.op .plus A1.2 (monce A1.1 (.num 0)).2), (monce A1.1 (.num 0)).1.rows.length) _ _ _ _ _ mk3 (hk.up ((Kp.of s2).trans c3.kp)) (by rw [mput_len]; exact Nat.lt_succ_self _) fun H4 c4 mk4 => q H4 (((Ch.of s2).trans c3).trans c4) mk4
  have plain : ∀ (x7 : Option V) (H2 : Hp), Same H1 H2 → (decide (A1.2 < begin) || (decide (A1.2 < A1.1.rows.length - 1) || (mk.isSome && isBare (A1.1.rows.getD A1.2 (.num 0))))) = false → t2 { nx := fun _ H' => Q .non H', rt := Q } [some (.ref a), x1, some vk, some (.int begin), some (.int A1.2), x5, x6, x7] H2 := fun x7 H2 s2 hc => by
    have em : mshut begin mk A1 = A1 := if_neg (by rw [hc]; exact Bool.false_ne_true)
    rw [em] at q
    exact r2 H2 a dx r p d vk mk A1 _ _ _ _ _ (hM.same s2) (hk.up (.of s2)) hlt fun H4 c4 mk4 => q H4 ((Ch.of s2).trans c4) mk4
  have c1 : (V.int A1.2 = V.int begin) ∨ True := .inr trivial
  cases mk with
  | none =>
    cases hk
    refine ⟨_, rfl, rfl, _, rfl, iteN rfl ?_⟩
    refine ⟨_, rfl, _, rfl, _, _, rfl, rfl, _, rfl, ?_⟩
    refine ite2 (fun z => iteY rfl (sum _ _ (same_rfl _) (by rw [show decide (A1.2 < begin) = true from decide_eq_true (by have := of_decide_eq_true z; omega)]; rfl))) (fun z1 => ?_)
    refine ⟨_, rfl, _, rfl, a, C, dx, _, .ref r, rfl, hM.ins, TM.cls, TM.n_rows, rfl, r, xs, rfl, .inl (.of hx), _, _, rfl, rfl, _, _, rfl, rfl, _, rfl, ?_⟩
    refine ite2 (fun z => iteY rfl (sum _ _ (same_rfl _) (by rw [show decide (A1.2 < A1.1.rows.length - 1) = true from decide_eq_true (by have := of_decide_eq_true z; omega)]; simp))) (fun z2 => ?_)
    refine ⟨_, rfl, _, rfl, iteN rfl (plain _ _ (same_rfl _) ?_)⟩
    have h1 : ¬ A1.2 < begin := fun y => z1 (decide_eq_true (by omega))
    have h2 : ¬ A1.2 < A1.1.rows.length - 1 := fun y => z2 (decide_eq_true (by omega))
    simp [h1, h2]
  | some m =>
    obtain ⟨bk, rfl, tbk⟩ := TD.mk (show TD K H1 vk (eK m) from hk)
    refine ⟨_, rfl, rfl, _, rfl, iteY rfl ?_⟩
    refine ⟨_, rfl, a, C, dx, _, .ref r, rfl, hM.ins, TM.cls, TM.n_rows, rfl, _, rfl, r, xs, _, _, rfl, rfl, .of hx, atI_nat evr, _, _, _, _, rfl, rfl, tqr.sq, a0, two_le, fun t ht => ?_⟩
    have s2 : Same H1 (upd H1 t (.tup [.str "number", .str "letter"])) := Same.new ht
    refine ⟨t, _, rfl, .inr (.inl (.inl upd_same)), rfl, rfl, ?_⟩
    rw [if_neg (by decide), bare_in]
    have hM2 := hM.same s2
    refine ⟨_, rfl, _, rfl, _, _, rfl, rfl, _, rfl, ?_⟩
    refine ite2 (fun z => iteY rfl (sum _ _ s2 (by rw [show decide (A1.2 < begin) = true from decide_eq_true (by have := of_decide_eq_true z; omega)]; rfl))) (fun z1 => ?_)
    refine ⟨_, rfl, _, rfl, a, C, dx, _, .ref r, rfl, hM2.ins, TM.cls, TM.n_rows, rfl, r, xs, rfl, .inl (.of (s2 _ _ hx)), _, _, rfl, rfl, _, _, rfl, rfl, _, rfl, ?_⟩
    refine ite2 (fun z => iteY rfl (sum _ _ s2 (by rw [show decide (A1.2 < A1.1.rows.length - 1) = true from decide_eq_true (by have := of_decide_eq_true z; omega)]; simp))) (fun z2 => ?_)
    have h1 : ¬ A1.2 < begin := fun y => z1 (decide_eq_true (by omega))
    have h2 : ¬ A1.2 < A1.1.rows.length - 1 := fun y => z2 (decide_eq_true (by omega))
    refine ⟨_, rfl, _, rfl, ?_⟩
    cases eb : isBare (A1.1.rows.getD A1.2 (.num 0)) with
    | true => exact iteY rfl (sum _ _ s2 (by rw [eb]; simp))
    | false => exact iteN rfl (plain _ _ s2 (by rw [eb]; simp [h1, h2]))
theorem b_last (T : Txt K mg) (TM : MkrT K mg C) (fa : Addr) (cdv : Value) (A : Around) (outer : List Env) (s : Shared) (H : Hp) (vs : List V) (Q : VK) (E : XK) (hr : Room 4 (A.deeper (envOfC "Maker.last_of" (defScope s_Maker_last_of) s.heap.objs.size fa cdv))) (h : spLast P w K C vs H Q E) :
    ∃ t, PSs (cxOf CX0 P w K mg base ["self", "form", "mark", "begin", "found", "product", "one", "bare"] "Maker.last_of" (defScope s_Maker_last_of) fa cdv A outer s H E).nox (defBody s_Maker_last_of) t ∧ t { nx := fun _ H' => Q .non H', rt := Q } (start ["self", "form", "mark", "begin", "found", "product", "one", "bare"] vs) H := by
  obtain ⟨a, dx, r, p, d, f, M, g, vk, mk, rfl, hM, hf, hfd, hk, ok, q⟩ := h
  obtain ⟨t1, p1, r1⟩ := last_t1 (P := P) (w := w) (base := base) T TM fa cdv A outer s H Q E hr
  refine ⟨_, (pss_cons (ps_set (i := 3) sc_Maker_last_of.nd rfl (Or.inl rfl) (pe_callB call_len_seq (by rfl) T.b_len PySem.boot_len (pa_cons (pe_fld (pv 0) rfl) pa_nil)))
(pss_cons (ps_set (i := 4) sc_Maker_last_of.nd rfl (Or.inl rfl) pe_non)
(pss_cons (ps_for PassesOwn.never rfl (pi_list (pe_callB (cr_sortedN rfl (rhu100 hr)) (by rfl) T.b_sorted (by decide +kernel) (pa_cons (pv 1) pa_nil))) (pg_name (i := 5) sc_Maker_last_of.nd rfl (Or.inl rfl))
(pss_cons (ps_set (i := 6) sc_Maker_last_of.nd rfl (Or.inl rfl) (C8.pe_mt (m_row_of_product T TM) hr (by decide) (pv 0) (pa_cons (pv 5) (pa_cons (pe_nget (rhu hr) (pv 1) (pv 5) (fun _ _ => rfl)) pa_nil))))
(pss_one (ps_if (pt_cmpR op_isN (pv 4) pe_non (nomark _))
(pss_one (ps_set (i := 4) sc_Maker_last_of.nd rfl (Or.inl rfl) (pv 6)))
(pss_one (ps_set (i := 4) sc_Maker_last_of.nd rfl (Or.inl rfl) (C8.pe_mt (m_put T TM) hr (by decide) (pv 0) (pa_cons (pe_tup (pa_cons pe_str (pa_cons (pv 4) (pa_cons (pv 6) pa_nil)))) pa_nil))))))))
(pss_cons (ps_if (pt_cmpR op_isN (pv 4) pe_non (nomark _))
(pss_one (ps_set (i := 4) sc_Maker_last_of.nd rfl (Or.inl rfl) (C8.pe_mt (m_put T TM) hr (by decide) (pv 0) (pa_cons (pe_tup (pa_cons pe_str (pa_cons (pe_tup (pa_cons pe_int (pa_cons pe_int pa_nil))) pa_nil))) pa_nil))))
pss_nil) p1)))), ?_⟩
  obtain ⟨xs, hx, tx⟩ := hM.rows
  have lx : xs.length = M.rows.length := by rw [tx.len, List.length_map]
  obtain ⟨of, Ff, nf, rf⟩ := hf.ex
  have fr : f ≠ r := fun z => by have := nf.at_; rw [z, hx] at this; cases this
  have fp : f ≠ p := fun z => by obtain ⟨ys, hy, _⟩ := hM.paper; have := nf.at_; rw [z, hy] at this; cases this
  have fS : ¬ MS r p d f := fun z => by
    rcases z with z | z | z
    · exact fr z
    · exact fp z
    · exact hfd z
  refine ⟨_, rfl, a, C, dx, _, .ref r, rfl, hM.ins, TM.cls, TM.n_rows, rfl, r, xs, rfl, .inl (.of hx), ?_⟩
  refine ⟨_, rfl, f, of, Ff, rfl, nf, ?_, ?_, ?_, fun pl out hpl eo => ?_⟩
  · intro d1 h1 d2 h2
    rw [rf.keys, List.map_map] at h1 h2
    obtain ⟨q1, _, rfl⟩ := List.mem_map.mp h1
    obtain ⟨q2, _, rfl⟩ := List.mem_map.mp h2
    show PySem.W.alike (keyM q1.1).data (keyM q2.1).data = true
    rw [keyM_data, keyM_data]
    exact alike_eM _ _
  · intro k hk
    rw [rf.keys] at hk
    obtain ⟨q1, _, rfl⟩ := List.mem_map.mp hk
    exact ⟨_, rfl⟩
  · intro k hk
    rw [rf.keys] at hk
    obtain ⟨q1, _, rfl⟩ := List.mem_map.mp hk
    rw [keyM_data]
    exact depth_eM _
  rw [sorted_keys rf] at eo
  have lo : out.length = (fkeys g).length := by rw [eo.length, List.length_map]
  have s1 : Same H (upd H pl (.lst out)) := Same.new hpl
  have plS : ¬ MS r p d pl := fun z => by
    rcases z with z | z | z
    · rw [z, hx] at hpl; cases hpl
    · obtain ⟨ys, hy, _⟩ := hM.paper; rw [z, hy] at hpl; cases hpl
    · obtain ⟨o, F, nd, _⟩ := hM.known; have := nd.at_; rw [← z, hpl] at this; cases this
  refine ⟨_, rfl, ⟨_, .of upd_same⟩, ?_⟩
  have hfk : ∀ p ∈ fkeys g, p.length ≤ 2 := fun p hp => by
    obtain ⟨q, hq, rfl⟩ := List.mem_map.mp (fkeys_mem.mp hp)
    exact (ok.fm.ks q hq).1
  refine for_it (walk_list (xs := out)) (fun i σ H3 => i ≤ (fkeys g).length ∧ Ch (MS r p d) H H3 ∧ Ch (MS r p d) (upd H pl (.lst out)) H3 ∧ MK P w K C H3 a dx r p d (((fkeys g).take i).foldl (mterm g) (M, none)).1 ∧
    ∃ x5 x6 x7, σ = [some (.ref a), some (.ref f), some vk, some (.int M.rows.length), some (oV (((fkeys g).take i).foldl (mterm g) (M, none)).2), x5, x6, x7]) ?_ ?_ ?_ ?_
  · exact ⟨Nat.zero_le _, .of s1, Ch.refl _ _, hM.same s1, _, _, _, by rw [← lx]; rfl⟩
  · rintro i σ H3 _ ⟨_, _, c3, _⟩
    exact .of (c3.keep _ _ plS upd_same)
  · rintro i x σ H3 H4 hi ⟨him, c0, c3, mk3, x5, x6, x7, rfl⟩ ⟨rfl, ex⟩
    obtain ⟨pm, epm, tpm⟩ := each_at eo ex
    rw [List.getElem?_map] at epm
    obtain ⟨pr, epr, rfl⟩ := Option.map_eq_some_iff.mp epm
    have hmem := List.mem_of_getElem? epr
    obtain ⟨qr, hqr, eqr⟩ := List.mem_map.mp (fkeys_mem.mp hmem)
    have epg : tget g pr = some qr.2 := tget_of_mem hf.nd (by rw [← eqr]; exact hqr)
    have tpr : TD K H4 x (eM pr) := by rw [← keyM_data]; exact tpm.up c0.kp
    obtain ⟨bx, xs2, rfl, _, _⟩ := tpr.mono_inv
    have eA : ((fkeys g).take (i + 1)).foldl (mterm g) (M, none) = mterm g (((fkeys g).take i).foldl (mterm g) (M, none)) pr := by
      rw [List.take_add_one, epr, List.foldl_append]; rfl
    have lA := tfold_len g ((fkeys g).take i) (M, none) fun p hp => hfk p (List.mem_of_mem_take hp)
    have lt : ((fkeys g).take i).length ≤ i := by rw [List.length_take]; omega
    have lg := fkeys_len g
    have hi' : i < (fkeys g).length := by omega
    have inA : ∀ m ∈ pr, MarkIn (((fkeys g).take i).foldl (mterm g) (M, none)).1 m := fun m hm => tfold_in _ (ok.ins qr hqr m (by rw [eqr]; exact hm))
    have l2 : pr.length ≤ 2 := hfk pr hmem
    have okl := ok.len
    generalize ((fkeys g).take i).foldl (mterm g) (M, none) = A0 at *
    have nf4 : NDo P w K H4 f of Ff := nf.up c0.kp (c0.keep _ _ fS nf.at_)
    obtain ⟨vq, evq, tvq⟩ := (RQ.up c0.kp rf).val_some keyMi epg
    have lA' : A0.1.rows.length + 7 * g.length + 10 < sizeLine ∨ True := .inr trivial
    refine ⟨_, rfl, a, dx, _, rfl, mk3.ins, rfl, _, rfl, _, rfl, _, rfl, f, of, Ff, keyM pr, bx, vq, rfl, rfl, nf4, ky_of tpr, evq, ?_⟩
    have z0 : A0.1.rows.length + 2 * pr.length + 1004 < sizeLine := by
      have : A0.1.rows.length ≤ M.rows.length + 7 * ((fkeys g).take i).length := lA
      omega
    refine ⟨a, dx, r, p, d, A0.1, _, vq, pr, qr.2, rfl, mk3, tpr, tvq, inA, z0, fun H5 c5 mk5 => ?_⟩
    have eM' : mterm g A0 pr = (match A0.2 with | none => ((mprod A0.1 pr qr.2).1, some (mprod A0.1 pr qr.2).2) | some i => (mput (mprod A0.1 pr qr.2).1 (.op .plus i (mprod A0.1 pr qr.2).2), some (mprod A0.1 pr qr.2).1.rows.length)) := by
      unfold mterm; rw [epg]; rfl
    have lB := mprod_len A0.1 pr qr.2
    refine ⟨_, rfl, rfl, _, rfl, ?_⟩
    cases e2 : A0.2 with
    | none =>
      rw [e2] at eM'
      refine iteY rfl ?_
      refine ⟨_, rfl, by omega, c0.trans c5, c3.trans c5, by rw [eA, eM']; exact mk5, some (.ref bx), some (.int (mprod A0.1 pr qr.2).2), x7, ?_⟩
      rw [eA, eM']; rfl
    | some j =>
      rw [e2] at eM'
      refine iteN rfl ?_
      refine ⟨_, rfl, a, dx, _, rfl, mk5.ins, rfl, _, rfl, _, rfl, three_le, fun t ht => ?_⟩
      have s6 : Same H5 (upd H5 t (.tup [.str "plus", .int j, .int (mprod A0.1 pr qr.2).2])) := Same.new ht
      refine ⟨a, dx, r, p, d, _, _, .op .plus j (mprod A0.1 pr qr.2).2, rfl, mk5.same s6, TD.of_op (w := .plus) (.inl upd_same), by have : A0.1.rows.length ≤ M.rows.length + 7 * ((fkeys g).take i).length := lA; omega, fun H7 c7 mk7 => ?_⟩
      refine ⟨by omega, (c0.trans (c5.same s6)).trans c7, (c3.trans (c5.same s6)).trans c7, by rw [eA, eM']; exact mk7, some (.ref bx), some (.int (mprod A0.1 pr qr.2).2), x7, ?_⟩
      rw [eA, eM']; rfl
  · rintro σ H3 ⟨_, c0, _, mk3, x5, x6, x7, rfl⟩
    rw [lo, List.take_length] at mk3 ⊢
    obtain ⟨k1, k2⟩ := last_mid ok
    have lA := tfold_len g (fkeys g) (M, none) hfk
    have lg := fkeys_len g
    have okl := ok.len
    have eL : mlast M g mk = (⟨(mshut M.rows.length mk (mend ((fkeys g).foldl (mterm g) (M, none)))).1.rows, (mshut M.rows.length mk (mend ((fkeys g).foldl (mterm g) (M, none)))).1.paper.set (mshut M.rows.length mk (mend ((fkeys g).foldl (mterm g) (M, none)))).2 mk, (mshut M.rows.length mk (mend ((fkeys g).foldl (mterm g) (M, none)))).1.known, (mshut M.rows.length mk (mend ((fkeys g).foldl (mterm g) (M, none)))).1.off⟩, (mshut M.rows.length mk (mend ((fkeys g).foldl (mterm g) (M, none)))).2) := rfl
    rw [eL] at q
    have lA' : ((fkeys g).foldl (mterm g) (M, none)).1.rows.length ≤ M.rows.length + 7 * (fkeys g).length := lA
    generalize (fkeys g).foldl (mterm g) (M, none) = A0 at *
    refine ⟨_, rfl, rfl, _, rfl, ?_⟩
    cases e2 : A0.2 with
    | none =>
      have em : mend A0 = (mput A0.1 (.num 0), A0.1.rows.length) := by unfold mend; rw [e2]
      rw [em] at k1 k2 q
      refine iteY rfl ?_
      refine ⟨_, rfl, a, dx, _, rfl, mk3.ins, rfl, two_le, fun t1 ht1 => ⟨two_le, fun t2 ht2 => ?_⟩⟩
      have s1 : Same H3 (upd H3 t1 (.tup [.int 0, .int 1])) := Same.new ht1
      have s2 : Same (upd H3 t1 (.tup [.int 0, .int 1])) (upd (upd H3 t1 (.tup [.int 0, .int 1])) t2 (.tup [.str "number", .ref t1])) := Same.new ht2
      have s12 := L2.Same.trans s1 s2
      refine ⟨a, dx, r, p, d, A0.1, _, .num 0, rfl, mk3.same s12, TD.of_num (.inl upd_same) (td01 (.inl (s2 _ _ upd_same))), by omega, fun H5 c5 mk5 => ?_⟩
      have c05 := (c0.same s12).trans c5
      exact r1 H5 a dx r p d vk mk (mput A0.1 (.num 0), A0.1.rows.length) M.rows.length _ _ _ _ mk5 (hk.up c05.kp) k2 k1 (by rw [mput_len]; omega) fun H6 c6 mk6 => q H6 (c05.trans c6) mk6
    | some j =>
      have em : mend A0 = (A0.1, j) := by unfold mend; rw [e2]
      rw [em] at k1 k2 q
      refine iteN rfl ?_
      exact r1 H3 a dx r p d vk mk (A0.1, j) M.rows.length _ _ _ _ mk3 (hk.up c0.kp) k2 k1 (by show A0.1.rows.length + 1004 < _; omega) fun H6 c6 mk6 => q H6 (c0.trans c6) mk6
end
end U
set_option Elab.async false
set_option linter.all false
set_option maxRecDepth 100000
set_option maxHeartbeats 4000000
/-! The Maker's methods, walked: mark_row. -/
namespace U
open PySem PySem.Spec PyProof.Rows L2
theorem off_once (M : Mkr) (x : Row) : (monce M x).1.off = M.off := by
  unfold monce
  cases tget M.known (.row x) <;> rfl
theorem off_mk (M : Mkr) (m : Mark) : (mmk M m).1.off = M.off := by
  unfold mmk
  split
  · exact off_once _ _
  · rfl
theorem off_fold : ∀ (ms : Mono) (A : Mkr × Nat), (ms.foldl mstep A).1.off = A.1.off
  | [], _ => rfl
  | m :: ms, A => by rw [List.foldl_cons, off_fold ms]; exact off_mk A.1 m
theorem off_prod (M : Mkr) (p : Mono) (f : Rat) : (mprod M p f).1.off = M.off := by
  unfold mprod
  cases p with
  | nil => exact off_once _ _
  | cons n ms =>
    dsimp only
    split
    · rw [off_fold]; exact off_mk _ _
    · show (monce _ _).1.off = _
      rw [off_once, off_fold]; exact off_mk _ _
theorem off_term (g : Form) (A : Mkr × Option Nat) (p : Mono) : (mterm g A p).1.off = A.1.off := by
  unfold mterm
  dsimp only
  split
  · exact off_prod _ _ _
  · exact off_prod _ _ _
theorem off_tfold (g : Form) : ∀ (ps : List Mono) (A : Mkr × Option Nat), (ps.foldl (mterm g) A).1.off = A.1.off
  | [], _ => rfl
  | p :: ps, A => by rw [List.foldl_cons, off_tfold g ps]; exact off_term g A p
theorem off_end (A : Mkr × Option Nat) : (mend A).1.off = A.1.off := by
  unfold mend
  cases A.2 <;> rfl
theorem off_shut (b : Nat) (mk : Option Mark) (A : Mkr × Nat) : (mshut b mk A).1.off = A.1.off := by
  unfold mshut
  split
  · exact off_once _ _
  · rfl
theorem off_last (M : Mkr) (g : Form) (mk : Option Mark) : (mlast M g mk).1.off = M.off := by
  show (mshut _ _ _).1.off = _
  rw [off_shut, off_end, off_tfold]
theorem mend_len (A : Mkr × Option Nat) : (mend A).1.rows.length ≤ A.1.rows.length + 1 := by
  unfold mend
  cases A.2 with
  | none => show (mput _ _).rows.length ≤ _; rw [mput_len]; exact Nat.le_refl _
  | some i => exact Nat.le_succ _
theorem mshut_len (b : Nat) (mk : Option Mark) (A : Mkr × Nat) : (mshut b mk A).1.rows.length ≤ A.1.rows.length + 2 := by
  unfold mshut
  split
  · show (mput _ _).rows.length ≤ _
    rw [mput_len]
    have := monce_len A.1 (.num 0)
    omega
  · omega
theorem mlast_len {M : Mkr} {g : Form} (h : Fm g) (mk : Option Mark) : (mlast M g mk).1.rows.length ≤ M.rows.length + 7 * g.length + 3 := by
  show (mshut _ _ _).1.rows.length ≤ _
  have h1 := mshut_len M.rows.length mk (mend ((fkeys g).foldl (mterm g) (M, none)))
  have h2 := mend_len ((fkeys g).foldl (mterm g) (M, none))
  have h3 := tfold_len g (fkeys g) (M, none) fun p hp => by
    obtain ⟨q, hq, rfl⟩ := List.mem_map.mp (fkeys_mem.mp hp)
    exact (h.ks q hq).1
  rw [fkeys_len] at h3
  have h4 : ((fkeys g).foldl (mterm g) (M, none)).1.rows.length ≤ M.rows.length + 7 * g.length := h3
  omega
section
variable {P : Program} {w : World} {K : PySem.W.Frag} {mg : Str → Option Value} {base : Heap} {C : Addr}
theorem m_last_of (T : Txt K mg) (TM : MkrT K mg C) : C8.Met P w K mg base 5 C "last_of" (spLast P w K C) [] :=
  met_of1 1 TM.cls TM.last_of sc_Maker_last_of 3 rfl (fun T kV doc pm an cdv ct us its hl h1 => match us, its, hl, h1 with | [_, _, _], [_], _, _ => ⟨_, rfl, rfl⟩) (fun vs H Q E h => by
    obtain ⟨_, _, _, _, _, _, _, _, _, _, rfl, _⟩ := h
    rfl) (b_last T TM)
theorem m_last_of1 (T : Txt K mg) (TM : MkrT K mg C) : C8.Met P w K mg base 5 C "last_of" (spLast P w K C) [.non] :=
  met_of1 0 TM.cls TM.last_of sc_Maker_last_of 2 rfl (fun T kV doc pm an cdv ct us its hl h1 => match us, its, hl, h1 with | [_, _], [_], _, _ => ⟨_, rfl, rfl⟩) (fun vs H Q E h => by
    obtain ⟨_, _, _, _, _, _, _, _, _, _, rfl, _⟩ := h
    rfl) (b_last T TM)
def spMark (P : Program) (w : World) (K : PySem.W.Frag) (C : Addr) : Sp := fun vs H Q _ => ∃ (a dx r p d f : Addr) (M : Mkr) (g : Form) (vk : V) (m : Mark), vs = [.ref a, vk, .ref f] ∧ MK P w K C H a dx r p d M ∧ FD P w K H f g ∧ f ≠ d ∧ TD K H vk (eK m) ∧ LastOk M g ∧ M.off < 1000 ∧
  ∀ H', Ch (MS r p d) H H' → MK P w K C H' a dx r p d (mmark M m g) → Q .non H'
theorem sc_Maker_mark_row : FnScope ["self", "mark", "form"] ["self", "mark", "form"] (defScope s_Maker_mark_row) := ⟨rfl, rfl, rfl, by decide +kernel, rfl, by decide +kernel, by decide +kernel⟩
theorem m_mark_row (T : Txt K mg) (TM : MkrT K mg C) : C8.Met P w K mg base 6 C "mark_row" (spMark P w K C) [] := by
  refine met_of TM.cls TM.mark_row sc_Maker_mark_row (fun _ _ _ _ _ _ us hl => match us, hl with | [_, _, _], _ => rfl) (fun vs H Q E h => ?_) (fun fa cdv A outer s H vs Q E hr h => ?_)
  · obtain ⟨_, _, _, _, _, _, _, _, _, _, rfl, _⟩ := h
    rfl
  · obtain ⟨a, dx, r, p, d, f, M, g, vk, m, rfl, hM, hf, hfd, hk, ok, ho, q⟩ := h
    refine ⟨_, (pss_one (ps_nput (rhu hr) (pe_fld (pv 0) rfl) (pv 1) (C8.pe_mt (m_last_of T TM) hr (by decide) (pv 0) (pa_cons (pv 2) (pa_cons (pv 1) pa_nil))) rfl)), ?_⟩
    obtain ⟨bk, rfl, tbk⟩ := hk.mk
    refine ⟨_, rfl, a, dx, _, rfl, hM.ins, rfl, _, rfl, _, rfl, a, dx, r, p, d, f, M, g, .ref bk, some m, rfl, hM, hf, hfd, hk, ok, fun H1 c1 mk1 => ?_⟩
    obtain ⟨o, F, nd, rt⟩ := mk1.known
    have l1 := mlast_len (M := M) ok.fm (some m)
    have l2 := ok.len
    have lk1 := mk1.lk
    have lo1 := mk1.lo
    have eo := off_last M g (some m)
    refine ⟨_, rfl, a, C, dx, _, .ref d, rfl, mk1.ins, TM.cls, TM.n_known, rfl, _, rfl, d, o, F, keyK m, bk, rfl, rfl, nd, kyK_of (hk.up c1.kp), by rw [rt.len]; omega, fun o2 n2 => ?_⟩
    have c2 : Ch (MS r p d) H1 (upd H1 d (pinO d o2)) := Ch.put (.inr (.inr rfl)) nd.at_ pinO_tup
    obtain ⟨xs, hx, tx⟩ := mk1.rows
    obtain ⟨ys, hy, ty⟩ := mk1.paper
    have ad : a ≠ d := fun z => by have := nd.at_; rw [← z, mk1.ins] at this; cases this
    have rd : r ≠ d := fun z => by have := nd.at_; rw [← z, hx] at this; cases this
    have pd : p ≠ d := fun z => by have := nd.at_; rw [← z, hy] at this; cases this
    refine q _ (c1.trans c2) ⟨by rw [upd_ne ad]; exact mk1.ins, ⟨xs, by rw [upd_ne rd]; exact hx, tx.up c2.kp⟩, ⟨ys, by rw [upd_ne pd]; exact hy, ty.up c2.kp⟩, ⟨o2, _, n2, rt.put kKK_inj (.mark m) rfl⟩, mk1.ne, mk1.lp, ?_, ?_⟩
    · have h1 := len_put (mlast M g (some m)).1.known (.mark m) (mlast M g (some m)).2
      show (tput (mlast M g (some m)).1.known (.mark m) (mlast M g (some m)).2).length ≤ (mlast M g (some m)).1.rows.length + ((mlast M g (some m)).1.off + 1)
      omega
    · show (mlast M g (some m)).1.off + 1 ≤ 1000
      omega
end
end U
set_option Elab.async false
set_option linter.all false
set_option maxRecDepth 100000
set_option maxHeartbeats 4000000
/-! The Rules, in plain Lean and in the heap; reading, put_together. -/
namespace U
open PySem PySem.Spec PyProof.Rows L2
structure Rul where
  rows : List Row
  point : List Rat
  most : Nat
  came : List Rat
  rules : List (Mark × Form)
abbrev mkI (i k : Nat) : Mark := ((i : Int), (k : Int))
def isLet : Row → Bool
  | .let_ _ => true
  | _ => false
def rowAt (R : Rul) (i : Nat) : Row := R.rows.getD i (.num 0)
def rget (R : Rul) (i k : Nat) : Form := (tget R.rules (mkI i k)).getD []
def readF (R : Rul) (i k : Nat) : Form :=
  if k = 0 then numF (R.came.getD i 0) else if (isLet (rowAt R i) || decide ((rget R i k).length = 0)) = true then rget R i k else markF (mkI i k)
def togStep (R : Rul) (i j k : Nat) (f : Form) (e : Nat) : Form := addF f (mulF (readF R i e) (readF R j (k - e)))
def togF (R : Rul) (i j k least : Nat) : Form := (List.range (k + 1 - least)).foldl (fun f t => togStep R i j k f (least + t)) []
def ruleF (R : Rul) (r : Row) (i k : Nat) : Form :=
  match r with
  | .num _ => []
  | .let_ c => if k = 1 then addF (markF (-1, (c : Int))) (numF (0 - R.point.getD c 0)) else []
  | .op .plus a b => addF (readF R a k) (readF R b k)
  | .op .less a b => offF (readF R a k) (readF R b k)
  | .op .times a b => togF R a b k 0
  | .op .over a b => scF (offF (readF R a k) (togF R b i k 1)) (1 / R.came.getD b 0)
def kstep (i : Nat) (R : Rul) (k : Nat) : Rul := { R with rules := tput R.rules (mkI i (k + 1)) (ruleF R (rowAt R i) i (k + 1)) }
def istep (R : Rul) (i : Nat) : Rul := (List.range R.most).foldl (kstep i) R
def rul0 (rows : List Row) (point : List Rat) (most : Nat) : Rul := ⟨rows, point, most, valsF point rows, []⟩
def rulesF (rows : List Row) (point : List Rat) (most : Nat) : Rul := (List.range rows.length).foldl istep (rul0 rows point most)
def lastF (R : Rul) : Form := (List.range R.most).foldl (fun f t => addF f (readF R (R.rows.length - 1) (t + 1))) (numF (R.came.getD (R.rows.length - 1) 0))
def canTold (R : Rul) (i k : Nat) : Bool := (tget R.rules (mkI i k)).isSome && (!isLet (rowAt R i) && decide (0 < (rget R i k).length))
/-! ### in the heap -/
def rf (vr vp : V) (most : Nat) (cl d : Addr) : List (Str × V) := [("rows", vr), ("point", vp), ("most", .int most), ("came", .ref cl), ("rules", .ref d)]
/-- the rules' dict: forms at other places -/
def RRel (P : Program) (w : World) (K : PySem.W.Frag) (H : Hp) (d : Addr) : V → Form → Prop := fun v f => ∃ b, v = .ref b ∧ FD P w K H b f ∧ b ≠ d
structure RU (P : Program) (w : World) (K : PySem.W.Frag) (C : Addr) (H : Hp) (a dx cl d : Addr) (vr vp : V) (R : Rul) : Prop where
  ins : H a = some (.ins C dx (rf vr vp R.most cl d))
  rows : TD K H vr (.tuple (R.rows.map eRow))
  point : TD K H vp (.tuple (R.point.map eF))
  came : ∃ xs, H cl = some (.lst xs) ∧ TDs K H xs (R.came.map eF)
  rules : ∃ o F, NDo P w K H d o F ∧ RT keyK (RRel P w K H d) F R.rules
theorem keyKi : ∀ a b : Mark, keyK a = keyK b → a = b := fun _ _ => keyK_inj
section
variable {P : Program} {w : World} {K : PySem.W.Frag} {C : Addr} {H H' : Hp} {a dx cl d : Addr} {vr vp : V} {R : Rul}
theorem RRel.same {v : V} {f : Form} (s : Same H H') (h : RRel P w K H d v f) : RRel P w K H' d v f := by
  obtain ⟨b, e, fd, ne⟩ := h
  exact ⟨b, e, fd.same s, ne⟩
theorem RU.same (h : RU P w K C H a dx cl d vr vp R) (s : Same H H') : RU P w K C H' a dx cl d vr vp R := by
  obtain ⟨xs, h1, h2⟩ := h.came
  obtain ⟨o, F, h3, h4⟩ := h.rules
  exact ⟨s _ _ h.ins, h.rows.up (.of s), h.point.up (.of s), ⟨xs, s _ _ h1, h2.up (.of s)⟩, ⟨o, F, h3.same s, h4.mono fun _ _ q => q.same s⟩⟩
theorem RU.row (h : RU P w K C H a dx cl d vr vp R) {i : Nat} (hi : i < R.rows.length) : ∃ ar xr v, vr = .ref ar ∧ Tq K H ar xr ∧ xr[i]? = some v ∧ TD K H v (eRow (rowAt R i)) ∧ xr.length = R.rows.length := by
  obtain ⟨ar, xr, e, t, ts⟩ := h.rows.tup_inv
  have er : (R.rows.map eRow)[i]? = some (eRow (rowAt R i)) := by
    unfold rowAt
    rw [List.getElem?_map, List.getD_eq_getElem?_getD, List.getElem?_eq_getElem hi]; rfl
  obtain ⟨v, ev, tv⟩ := ts.get er
  exact ⟨ar, xr, v, e, t, ev, tv, by rw [ts.len, List.length_map]⟩
end
/-- what the walks ask of the class -/
structure RulT (K : PySem.W.Frag) (mg : Str → Option Value) (C : Addr) : Prop where
  gC : mg "Rules" = some (.ref C)
  cls : Cls K C
  n_rows : NoAttr K C "rows"
  n_point : NoAttr K C "point"
  n_most : NoAttr K C "most"
  n_came : NoAttr K C "came"
  n_rules : NoAttr K C "rules"
  made : ∃ f fd, Mk K C f ∧ FunD K "__init__" "Rules.__init__" (defArgs s_Rules_init) (defBody s_Rules_init) (defScope s_Rules_init) [] [] f fd
  reading : ∃ f fd, Meth K C "reading" f ∧ FunD K "reading" "Rules.reading" (defArgs s_Rules_reading) (defBody s_Rules_reading) (defScope s_Rules_reading) [] [] f fd
  put_together : ∃ f fd, Meth K C "put_together" f ∧ FunD K "put_together" "Rules.put_together" (defArgs s_Rules_put_together) (defBody s_Rules_put_together) (defScope s_Rules_put_together) [] [] f fd
  rule : ∃ f fd, Meth K C "rule" f ∧ FunD K "rule" "Rules.rule" (defArgs s_Rules_rule) (defBody s_Rules_rule) (defScope s_Rules_rule) [] [] f fd
  last_form : ∃ f fd, Meth K C "last_form" f ∧ FunD K "last_form" "Rules.last_form" (defArgs s_Rules_last_form) (defBody s_Rules_last_form) (defScope s_Rules_last_form) [] [] f fd
  can_be_told : ∃ f fd, Meth K C "can_be_told" f ∧ FunD K "can_be_told" "Rules.can_be_told" (defArgs s_Rules_can_be_told) (defBody s_Rules_can_be_told) (defScope s_Rules_can_be_told) [] [] f fd
/-- it can be read -/
structure ReadOk (R : Rul) (i k : Nat) : Prop where
  row : i < R.rows.length
  came : i < R.came.length
  have_ : k ≠ 0 → (tget R.rules (mkI i k)).isSome = true
section
variable {P : Program} {w : World} {K : PySem.W.Frag} {mg : Str → Option Value} {base : Heap} {C : Addr}
theorem let_head (x : Row) : decide (V.str (headS x) = V.str "letter") = isLet x := by
  cases x with
  | num q => show decide (V.str "number" = V.str "letter") = false; decide +kernel
  | let_ k => show decide (V.str "letter" = V.str "letter") = true; decide +kernel
  | op w i j =>
    have key : ∀ w, decide (V.str (wdS w) = V.str "letter") = false := fun w => by cases w <;> decide +kernel
    exact key w
def spReading (P : Program) (w : World) (K : PySem.W.Frag) (C : Addr) : Sp := fun vs H Q _ => ∃ (a dx cl d : Addr) (vr vp : V) (R : Rul) (i k : Nat), vs = [.ref a, .int i, .int k] ∧ RU P w K C H a dx cl d vr vp R ∧ ReadOk R i k ∧
  ∀ H' b, Same H H' → FD P w K H' b (readF R i k) → b ≠ d → Q (.ref b) H'
theorem sc_Rules_reading : FnScope ["self", "i", "k"] ["self", "i", "k"] (defScope s_Rules_reading) := ⟨rfl, rfl, rfl, by decide +kernel, rfl, by decide +kernel, by decide +kernel⟩
theorem r_reading (T : Txt K mg) (TR : RulT K mg C) : C8.Met P w K mg base 2 C "reading" (spReading P w K C) [] := by
  refine met_of TR.cls TR.reading sc_Rules_reading (fun _ _ _ _ _ _ us hl => match us, hl with | [_, _, _], _ => rfl) (fun vs H Q E h => ?_) (fun fa cdv A outer s H vs Q E hr h => ?_)
  · obtain ⟨_, _, _, _, _, _, _, _, _, rfl, _⟩ := h
    rfl
  · obtain ⟨a, dx, cl, d, vr, vp, R, i, k, rfl, ru, ok, q⟩ := h
    refine ⟨_, (pss_cons (ps_if (pt_cmpR op_eq (pv 2) pe_int (nomark _))
(pss_one (ps_ret (pe_c (f_number_form T) hr (by decide) (by rfl) (pa_cons (pe_ix ix_list (pe_fld (pv 0) rfl) (pv 1) (fun _ _ => rfl)) pa_nil))))
pss_nil)
(pss_cons (ps_if (PW.pt (pw_or (pt_cmpR op_eq (pe_ix ix_tup (pe_ix ix_tup (pe_fld (pv 0) rfl) (pv 1) (fun _ _ => rfl)) pe_int (fun _ _ => rfl)) pe_str (nomark _)) (pw_or1 (pt_cmpR op_eq (pe_callB call_lenN (by rfl) T.b_len PySem.boot_len (pa_cons (pe_nget (rhu hr) (pe_fld (pv 0) rfl) (pe_tup (pa_cons (pv 1) (pa_cons (pv 2) pa_nil))) (fun _ _ => rfl)) pa_nil)) pe_int (nomark _)))))
(pss_one (ps_ret (pe_nget (rhu hr) (pe_fld (pv 0) rfl) (pe_tup (pa_cons (pv 1) (pa_cons (pv 2) pa_nil))) (fun _ _ => rfl))))
pss_nil)
(pss_one (ps_ret (pe_c (f_mark_form T) hr (by decide) (by rfl) (pa_cons (pe_tup (pa_cons (pv 1) (pa_cons (pv 2) pa_nil))) pa_nil)))))), ?_⟩
    obtain ⟨o, F, nd, rt⟩ := ru.rules
    refine ⟨_, rfl, rfl, _, rfl, ?_⟩
    by_cases hk : k = 0
    · subst hk
      refine iteY rfl ?_
      obtain ⟨xs, hx, tx⟩ := ru.came
      obtain ⟨v, ev, tv⟩ := tx.getD (i := i) ok.came
      refine ⟨_, rfl, a, C, dx, _, .ref cl, rfl, ru.ins, TR.cls, TR.n_came, rfl, _, rfl, cl, xs, _, v, rfl, rfl, .of hx, atI_nat ev, v, _, rfl, tv, fun H' b s' hb fd => q _ _ s' fd fun z => ?_⟩
      have := nd.at_
      rw [← z, hb] at this
      cases this
    · refine iteN (decide_eq_false fun z => hk (by injection z with z; omega)) ?_
      obtain ⟨ar, xr, v, rfl, tr, ev, tv, _⟩ := ru.row ok.row
      obtain ⟨bv, yv, rfl, tb⟩ := tv.row_head
      obtain ⟨g, eg⟩ := Option.isSome_iff_exists.mp (ok.have_ hk)
      have erg : rget R i k = g := by unfold rget; rw [eg]; rfl
      have give : ∀ H1, Same H H1 → (isLet (rowAt R i) || decide ((rget R i k).length = 0)) = true → ∃ vg, valV F (keyK (mkI i k)) = some vg ∧ Q vg H1 := fun H1 s1 hc => by
        obtain ⟨vg, e1, bg, rfl, fd, ne⟩ := rt.val_some keyKi eg
        refine ⟨_, e1, q _ _ s1 ?_ ne⟩
        have : readF R i k = g := by unfold readF; rw [if_neg hk, if_pos hc, erg]
        rw [this]
        exact fd.same s1
      have gives : (isLet (rowAt R i) || decide ((rget R i k).length = 0)) = true → ∀ H1, Same H H1 → ∀ t, H1 t = none → ∃ (d_1 : Addr) (o_1 : Obj) (F_1 : List (NestedKey × V)) (k_1 : NestedKey) (b : Addr) (v : V), V.ref d = .ref d_1 ∧ V.ref t = .ref b ∧ NDo P w K (upd H1 t (.tup [.int i, .int k])) d_1 o_1 F_1 ∧ KyAt K (upd H1 t (.tup [.int i, .int k])) b k_1 ∧ valV F_1 k_1 = some v ∧ Q v (upd H1 t (.tup [.int i, .int k])) := fun hc H1 s1 t ht => by
        have s2 : Same H1 (upd H1 t (.tup [.int i, .int k])) := Same.new ht
        obtain ⟨vg, e1, qq⟩ := give _ (L2.Same.trans s1 s2) hc
        exact ⟨d, o, F, keyK (mkI i k), t, vg, rfl, rfl, nd.same (L2.Same.trans s1 s2), kyK_of (TD.mark (m := mkI i k) (.inl upd_same)), e1, qq⟩
      refine ⟨_, rfl, a, C, dx, _, .ref ar, rfl, ru.ins, TR.cls, TR.n_rows, rfl, _, rfl, ar, xr, _, _, rfl, rfl, tr.sq, atI_nat ev, _, _, _, _, rfl, rfl, tb.sq, a0, rfl, _, rfl, ?_⟩
      rw [let_head]
      cases hl : isLet (rowAt R i) with
      | true =>
        refine iteY rfl (iteY rfl ?_)
        refine ⟨_, rfl, a, C, dx, _, .ref d, rfl, ru.ins, TR.cls, TR.n_rules, rfl, _, rfl, _, rfl, two_le, fun t ht => ?_⟩
        exact gives (by rw [hl]; rfl) H (same_rfl _) t ht
      | false =>
        refine iteN rfl ?_
        refine ⟨_, rfl, a, C, dx, _, .ref d, rfl, ru.ins, TR.cls, TR.n_rules, rfl, _, rfl, _, rfl, two_le, fun t ht => ?_⟩
        have s2 : Same H (upd H t (.tup [.int i, .int k])) := Same.new ht
        obtain ⟨vg, e1, bg, rfl, fd, ne⟩ := rt.val_some keyKi eg
        obtain ⟨og, Fg, ng, rg⟩ := fd.ex
        refine ⟨d, o, F, keyK (mkI i k), t, _, rfl, rfl, nd.same s2, kyK_of (TD.mark (m := mkI i k) (.inl upd_same)), e1, bg, og, Fg, rfl, ng.same s2, rfl, _, rfl, ?_⟩
        have eb : decide (V.int (Fg.length : Nat) = V.int 0) = decide ((rget R i k).length = 0) := by
          rw [erg, rg.len, dec_int]
          by_cases z : g.length = 0
          · rw [z]; rfl
          · rw [decide_eq_false z]
            simp
            intro y
            rw [y] at z
            exact z rfl
        rw [eb]
        cases hz : decide ((rget R i k).length = 0) with
        | true =>
          refine iteY rfl ?_
          have ru2 := ru.same s2
          refine ⟨_, rfl, a, C, dx, _, .ref d, rfl, ru2.ins, TR.cls, TR.n_rules, rfl, _, rfl, _, rfl, two_le, fun t2 ht2 => ?_⟩
          exact gives (by rw [hz]; simp) _ s2 t2 ht2
        | false =>
          refine iteN rfl ?_
          refine ⟨_, rfl, _, rfl, two_le, fun t2 ht2 => ?_⟩
          have s3 : Same (upd H t (.tup [.int i, .int k])) (upd (upd H t (.tup [.int i, .int k])) t2 (.tup [.int i, .int k])) := Same.new ht2
          refine ⟨_, mkI i k, rfl, TD.mark (m := mkI i k) (.inl upd_same), fun H' b s' hb fd => q _ _ (L2.Same.trans s2 (L2.Same.trans s3 s')) ?_ fun z => ?_⟩
          · have : readF R i k = markF (mkI i k) := by unfold readF; rw [if_neg hk, if_neg (by rw [hl, hz]; decide)]
            rw [this]; exact fd
          · have := (nd.same (L2.Same.trans s2 s3)).at_
            rw [← z, hb] at this
            cases this
end
end U
set_option Elab.async false
set_option linter.all false
set_option maxRecDepth 100000
set_option maxHeartbeats 4000000
/-! Rules: put_together, rule. -/
namespace U
open PySem PySem.Spec PyProof.Rows L2
structure TogAt (R : Rul) (i j k e : Nat) (F : Form) : Prop where
  r1 : ReadOk R i e
  r2 : ReadOk R j (k - e)
  l1 : Lin (readF R i e)
  l2 : Lin (readF R j (k - e))
  z1 : SzF (readF R i e)
  z2 : SzF (readF R j (k - e))
  mo : MulOk (readF R i e) (readF R j (k - e))
  n1 : (readF R i e).length ≤ 100
  n2 : (readF R j (k - e)).length ≤ 100
  zm : SzF (mulF (readF R i e) (readF R j (k - e)))
  fF : Fm F
  zF : SzF F
  nF : F.length + (mulF (readF R i e) (readF R j (k - e))).length < sizeLine
def togTo (R : Rul) (i j k least t : Nat) : Form := (List.range t).foldl (fun f t => togStep R i j k f (least + t)) []
def TogOk (R : Rul) (i j k least : Nat) : Prop := k < 1000 ∧ least < 1000 ∧ ∀ t, t < k + 1 - least → TogAt R i j k (least + t) (togTo R i j k least t)
theorem range_fold {α : Type} (f : α → Nat → α) (x : α) (n : Nat) : (List.range (n + 1)).foldl f x = f ((List.range n).foldl f x) n := by
  rw [List.range_succ, List.foldl_append]; rfl
section
variable {P : Program} {w : World} {K : PySem.W.Frag} {mg : Str → Option Value} {base : Heap} {C : Addr}
def spTog (P : Program) (w : World) (K : PySem.W.Frag) (C : Addr) : Sp := fun vs H Q _ => ∃ (a dx cl d : Addr) (vr vp : V) (R : Rul) (i j k least : Nat), vs = [.ref a, .int i, .int j, .int k, .int least] ∧ RU P w K C H a dx cl d vr vp R ∧ TogOk R i j k least ∧
  ∀ H' b, Same H H' → H b = none → FD P w K H' b (togF R i j k least) → Q (.ref b) H'
theorem sc_Rules_put_together : FnScope ["self", "i", "j", "k", "least", "found", "e"] ["self", "i", "j", "k", "least"] (defScope s_Rules_put_together) := ⟨rfl, rfl, rfl, by decide +kernel, rfl, by decide +kernel, by decide +kernel⟩
theorem r_put_together (T : Txt K mg) (TR : RulT K mg C) : C8.Met P w K mg base 6 C "put_together" (spTog P w K C) [] := by
  refine met_of TR.cls TR.put_together sc_Rules_put_together (fun _ _ _ _ _ _ us hl => match us, hl with | [_, _, _, _, _], _ => rfl) (fun vs H Q E h => ?_) (fun fa cdv A outer s H vs Q E hr h => ?_)
  · obtain ⟨_, _, _, _, _, _, _, _, _, _, _, rfl, _⟩ := h
    rfl
  · obtain ⟨a, dx, cl, d, vr, vp, R, i, j, k, least, rfl, ru, ⟨k1, k2, ok⟩, q⟩ := h
    refine ⟨_, (pss_cons (ps_set (i := 5) sc_Rules_put_together.nd rfl (Or.inl rfl) pe_nnew)
(pss_cons (ps_for PassesOwn.never rfl (pi_range2 (by rfl) T.b_range (pa_cons (pv 4) (pa_cons (pe_op op_add (pv 3) pe_int) pa_nil))) (pg_name (i := 6) sc_Rules_put_together.nd rfl (Or.inl rfl))
(pss_one (ps_set (i := 5) sc_Rules_put_together.nd rfl (Or.inl rfl) (pe_c (f_added T) hr (by decide) (by rfl) (pa_cons (pv 5) (pa_cons (pe_c (f_multiplied T) hr (by decide) (by rfl) (pa_cons (C8.pe_mt (r_reading T TR) hr (by decide) (pv 0) (pa_cons (pv 1) (pa_cons (pv 6) pa_nil))) (pa_cons (C8.pe_mt (r_reading T TR) hr (by decide) (pv 0) (pa_cons (pv 2) (pa_cons (pe_op op_sub (pv 3) (pv 6)) pa_nil))) pa_nil))) pa_nil))))))
(pss_one (ps_ret (pv 5))))), ?_⟩
    intro b0 hb0 n0
    have s0 : Same H (upd H b0 (pinO b0 emptyD)) := Same.new hb0
    refine ⟨_, rfl, _, rfl, _, _, rfl, rfl, (least : Int), _, rfl, ⟨by omega, by omega, by omega, by omega⟩, ?_⟩
    have en : ((k : Int) + 1 - (least : Int)).toNat = k + 1 - least := by omega
    rw [en]
    refine for_it (walk_range (lo := (least : Int)) (n := k + 1 - least)) (fun t σ H1 => t ≤ k + 1 - least ∧ Same H H1 ∧ ∃ f x6, σ = [some (.ref a), some (.int i), some (.int j), some (.int k), some (.int least), some (.ref f), x6] ∧ H f = none ∧ FD P w K H1 f (togTo R i j k least t)) ?_ ?_ ?_ ?_
    · exact ⟨Nat.zero_le _, s0, b0, _, rfl, hb0, fd_nil n0⟩
    · intro _ _ _ _ _; trivial
    · rintro t x σ H1 H2 ht ⟨hle, s1, f, x6, rfl, hf, fd⟩ ⟨rfl, rfl⟩
      have at_ := ok t ht
      have ru1 := ru.same s1
      refine ⟨_, rfl, _, rfl, a, dx, _, rfl, ru1.ins, rfl, _, rfl, _, rfl, a, dx, cl, d, vr, vp, R, i, least + t, ?_, ru1, at_.r1, fun H3 b3 s3 fd3 ne3 => ?_⟩
      · show [V.ref a, V.int i, V.int ((least : Int) + (t : Int))] = [V.ref a, V.int i, V.int ((least + t : Nat) : Int)]
        rw [show ((least : Int) + (t : Int)) = ((least + t : Nat) : Int) by omega]
      have ru3 := ru1.same s3
      refine ⟨_, rfl, a, dx, _, rfl, ru3.ins, rfl, _, rfl, _, rfl, _, rfl, _, _, rfl, rfl, a, dx, cl, d, vr, vp, R, j, k - (least + t), ?_, ru3, at_.r2, fun H4 b4 s4 fd4 ne4 => ?_⟩
      · show [V.ref a, V.int j, V.int ((k : Int) - ((least : Int) + (t : Int)))] = [V.ref a, V.int j, V.int ((k - (least + t) : Nat) : Int)]
        rw [show ((k : Int) - ((least : Int) + (t : Int))) = ((k - (least + t) : Nat) : Int) by omega]
      refine ⟨b3, b4, _, _, rfl, fd3.same s4, fd4, at_.l1, at_.l2, at_.z1, at_.z2, at_.mo, at_.n1, at_.n2, fun H5 b5 s5 hb5 fd5 => ?_⟩
      have s25 := L2.Same.trans s3 (L2.Same.trans s4 s5)
      refine ⟨f, b5, _, _, rfl, fd.same s25, fd5, at_.fF, at_.zF, at_.zm, at_.nF, fun H6 b6 s6 hb6 fd6 => ?_⟩
      refine ⟨by omega, L2.Same.trans s1 (L2.Same.trans s25 s6), b6, _, rfl, none_of_same (L2.Same.trans s1 s25) hb6, ?_⟩
      have e : togTo R i j k least (t + 1) = addF (togTo R i j k least t) (mulF (readF R i (least + t)) (readF R j (k - (least + t)))) := range_fold _ _ _
      rw [e]
      exact fd6
    · rintro σ H1 ⟨_, s1, f, x6, rfl, hf, fd⟩
      exact ⟨_, rfl, q _ _ s1 hf fd⟩
/-- what a rule wants -/
def RuleOk (R : Rul) (r : Row) (i k : Nat) : Prop :=
  match r with
  | .num _ => True
  | .let_ c => c < R.point.length ∧ c < 3 ∧ Sz 4400 (R.point.getD c 0) ∧ Sz 4400 (0 - R.point.getD c 0)
  | .op .times a b => TogOk R a b k 0
  | .op .over a b => ReadOk R a k ∧ TogOk R b i k 1 ∧ b < R.came.length ∧ Sz 4400 (R.came.getD b 0) ∧ R.came.getD b 0 ≠ 0 ∧ Fm (readF R a k) ∧ SzF (readF R a k) ∧ SzF (togF R b i k 1) ∧ (readF R a k).length + (togF R b i k 1).length < sizeLine ∧
      SzF (offF (readF R a k) (togF R b i k 1)) ∧ Sz 4400 (1 / R.came.getD b 0)
  | .op _ a b => ReadOk R a k ∧ ReadOk R b k ∧ Fm (readF R a k) ∧ SzF (readF R a k) ∧ SzF (readF R b k) ∧ (readF R a k).length + (readF R b k).length < sizeLine
def spRule (P : Program) (w : World) (K : PySem.W.Frag) (C : Addr) : Sp := fun vs H Q _ => ∃ (a dx cl d : Addr) (vr vp v : V) (R : Rul) (r : Row) (i k : Nat), vs = [.ref a, v, .int i, .int k] ∧ RU P w K C H a dx cl d vr vp R ∧ TD K H v (eRow r) ∧ RuleOk R r i k ∧
  ∀ H' b, Same H H' → H b = none → FD P w K H' b (ruleF R r i k) → Q (.ref b) H'
theorem sz1 : Sz 4400 1 := sz_small (by decide) (by decide)
theorem szF_mark (m : Mark) : SzF (markF m) := fun p hp => by
  unfold markF at hp
  rw [List.mem_singleton] at hp
  subst hp
  exact sz1
theorem szF_num {q : Rat} (h : Sz 4400 q) : SzF (numF q) := fun p hp => by
  unfold numF at hp
  split at hp
  · cases hp
  · rw [List.mem_singleton] at hp
    subst hp
    exact h
theorem num_len (q : Rat) : (numF q).length ≤ 1 := by
  unfold numF
  split
  · exact Nat.zero_le _
  · exact Nat.le_refl _
theorem sc_Rules_rule : FnScope ["self", "row", "i", "k", "word", "away", "left"] ["self", "row", "i", "k"] (defScope s_Rules_rule) := ⟨rfl, rfl, rfl, by decide +kernel, rfl, by decide +kernel, by decide +kernel⟩
theorem r_rule (T : Txt K mg) (TR : RulT K mg C) : C8.Met P w K mg base 7 C "rule" (spRule P w K C) [] := by
  refine met_of TR.cls TR.rule sc_Rules_rule (fun _ _ _ _ _ _ us hl => match us, hl with | [_, _, _, _], _ => rfl) (fun vs H Q E h => ?_) (fun fa cdv A outer s H vs Q E hr h => ?_)
  · obtain ⟨_, _, _, _, _, _, _, _, _, _, _, rfl, _⟩ := h
    rfl
  · obtain ⟨a, dx, cl, d, vr, vp, v, R, r, i, k, rfl, ru, hv, ok, q⟩ := h
    refine ⟨_, (pss_cons (ps_set (i := 4) sc_Rules_rule.nd rfl (Or.inl rfl) (pe_ix ix_tup (pv 1) pe_int (fun _ _ => rfl)))
(pss_cons (ps_if (PW.pt (pw_and (pt_cmpR op_eq (pv 4) pe_str (nomark _)) (pw_and1 (pt_cmpR op_eq (pv 3) pe_int (nomark _)))))
(pss_cons (ps_set (i := 5) sc_Rules_rule.nd rfl (Or.inl rfl) (pe_c (f_number_form T) hr (by decide) (by rfl) (pa_cons (pe_c (f_less T) hr (by decide) (by rfl) (pa_cons (pe_tup (pa_cons pe_int (pa_cons pe_int pa_nil))) (pa_cons (pe_ix ix_tup (pe_fld (pv 0) rfl) (pe_ix ix_tup (pv 1) pe_int (fun _ _ => rfl)) (fun _ _ => rfl)) pa_nil))) pa_nil)))
(pss_one (ps_ret (pe_c (f_added T) hr (by decide) (by rfl) (pa_cons (pe_c (f_mark_form T) hr (by decide) (by rfl) (pa_cons (pe_c (f_letter_mark T) hr (by decide) (by rfl) (pa_cons (pe_ix ix_tup (pv 1) pe_int (fun _ _ => rfl)) pa_nil)) pa_nil)) (pa_cons (pv 5) pa_nil))))))
pss_nil)
(pss_cons (ps_if (PW.pt (pw_or (pt_cmpR op_eq (pv 4) pe_str (nomark _)) (pw_or1 (pt_cmpR op_eq (pv 4) pe_str (nomark _)))))
(pss_one (ps_ret pe_nnew))
pss_nil)
(pss_cons (ps_if (pt_cmpR op_eq (pv 4) pe_str (nomark _))
(pss_one (ps_ret (pe_c (f_added T) hr (by decide) (by rfl) (pa_cons (C8.pe_mt (r_reading T TR) hr (by decide) (pv 0) (pa_cons (pe_ix ix_tup (pv 1) pe_int (fun _ _ => rfl)) (pa_cons (pv 3) pa_nil))) (pa_cons (C8.pe_mt (r_reading T TR) hr (by decide) (pv 0) (pa_cons (pe_ix ix_tup (pv 1) pe_int (fun _ _ => rfl)) (pa_cons (pv 3) pa_nil))) pa_nil)))))
pss_nil)
(pss_cons (ps_if (pt_cmpR op_eq (pv 4) pe_str (nomark _))
(pss_one (ps_ret (pe_c (f_taken_off T) hr (by decide) (by rfl) (pa_cons (C8.pe_mt (r_reading T TR) hr (by decide) (pv 0) (pa_cons (pe_ix ix_tup (pv 1) pe_int (fun _ _ => rfl)) (pa_cons (pv 3) pa_nil))) (pa_cons (C8.pe_mt (r_reading T TR) hr (by decide) (pv 0) (pa_cons (pe_ix ix_tup (pv 1) pe_int (fun _ _ => rfl)) (pa_cons (pv 3) pa_nil))) pa_nil)))))
pss_nil)
(pss_cons (ps_if (pt_cmpR op_eq (pv 4) pe_str (nomark _))
(pss_one (ps_ret (C8.pe_mt (r_put_together T TR) hr (by decide) (pv 0) (pa_cons (pe_ix ix_tup (pv 1) pe_int (fun _ _ => rfl)) (pa_cons (pe_ix ix_tup (pv 1) pe_int (fun _ _ => rfl)) (pa_cons (pv 3) (pa_cons pe_int pa_nil)))))))
pss_nil)
(pss_cons (ps_set (i := 6) sc_Rules_rule.nd rfl (Or.inl rfl) (pe_c (f_taken_off T) hr (by decide) (by rfl) (pa_cons (C8.pe_mt (r_reading T TR) hr (by decide) (pv 0) (pa_cons (pe_ix ix_tup (pv 1) pe_int (fun _ _ => rfl)) (pa_cons (pv 3) pa_nil))) (pa_cons (C8.pe_mt (r_put_together T TR) hr (by decide) (pv 0) (pa_cons (pe_ix ix_tup (pv 1) pe_int (fun _ _ => rfl)) (pa_cons (pv 2) (pa_cons (pv 3) (pa_cons pe_int pa_nil))))) pa_nil))))
(pss_one (ps_ret (pe_c (f_scaled T) hr (by decide) (by rfl) (pa_cons (pv 6) (pa_cons (pe_c (f_over T) hr (by decide) (by rfl) (pa_cons (pe_tup (pa_cons pe_int (pa_cons pe_int pa_nil))) (pa_cons (pe_ix ix_list (pe_fld (pv 0) rfl) (pe_ix ix_tup (pv 1) pe_int (fun _ _ => rfl)) (fun _ _ => rfl)) pa_nil))) pa_nil)))))))))))), ?_⟩
    cases r with
    | num qn =>
      obtain ⟨b, vf, rfl, tb, _⟩ := hv.row_num
      refine ⟨_, rfl, _, _, _, _, rfl, rfl, tb.sq, a0, _, rfl, rfl, _, rfl, iteN (by decide +kernel) (iteN rfl ?_)⟩
      refine ⟨_, rfl, rfl, _, rfl, iteN (by decide +kernel) ⟨_, rfl, rfl, _, rfl, iteY (by decide +kernel) ?_⟩⟩
      exact fun p hp n => q _ _ (Same.new hp) hp (fd_nil n)
    | let_ c =>
      obtain ⟨b, rfl, tb⟩ := hv.row_let
      refine ⟨_, rfl, _, _, _, _, rfl, rfl, tb.sq, a0, _, rfl, rfl, _, rfl, iteY (by decide +kernel) ⟨_, rfl, rfl, _, rfl, ?_⟩⟩
      by_cases hk : k = 1
      · subst hk
        refine iteY (by decide) ?_
        obtain ⟨c1, c3, z1, z2⟩ := ok
        obtain ⟨ap, xp, rfl, tp, tsp⟩ := ru.point.tup_inv
        obtain ⟨v1, ev1, tv1⟩ := tsp.getD (i := c) c1
        refine ⟨two_le, fun t1 ht1 => ?_⟩
        have s1 : Same H (upd H t1 (.tup [.int 0, .int 1])) := Same.new ht1
        have ru1 := ru.same s1
        refine ⟨_, rfl, a, C, dx, _, .ref ap, rfl, ru1.ins, TR.cls, TR.n_point, rfl, _, rfl, _, _, _, _, rfl, rfl, (tb.up (.of s1)).sq, a1, ap, xp, _, v1, rfl, rfl, (tp.up (.of s1)).sq, atI_nat ev1, ?_⟩
        refine ⟨_, _, _, _, rfl, td01 (.inl upd_same), tv1.up (.of s1), ⟨sz0, z1⟩, fun H2 v2 s2 t2 => ?_⟩
        refine ⟨v2, _, rfl, t2, fun H3 b3 s3 hb3 fd3 => ?_⟩
        have s13 := L2.Same.trans s1 (L2.Same.trans s2 s3)
        refine ⟨_, rfl, _, _, _, _, rfl, rfl, (tb.up (.of s13)).sq, a1, (c : Int), rfl, fun H4 v4 s4 t4 => ?_⟩
        refine ⟨v4, _, rfl, t4, fun H5 b5 s5 hb5 fd5 => ?_⟩
        have s35 := L2.Same.trans s4 s5
        refine ⟨_, rfl, b5, b3, _, _, rfl, fd5, fd3.same s35, Fm.mark (.inl ⟨rfl, by show (0 : Int) ≤ c; omega, by show (c : Int) < 3; omega⟩), szF_mark _, szF_num z2, ?_, fun H6 b6 s6 hb6 fd6 => ?_⟩
        · have h1 := num_len (0 - R.point.getD c 0)
          have h2 : (2 : Nat) < sizeLine := by decide
          show 1 + (numF (0 - R.point.getD c 0)).length < sizeLine
          omega
        · exact q _ _ (L2.Same.trans s13 (L2.Same.trans s35 s6)) (none_of_same (L2.Same.trans s13 s35) hb6) fd6
      · refine iteN (decide_eq_false fun z => hk (by injection z with z; omega)) ?_
        refine ⟨_, rfl, rfl, _, rfl, iteY (by decide +kernel) (iteY rfl ?_)⟩
        refine fun p hp n => q _ _ (Same.new hp) hp ?_
        show FD P w K _ p (if k = 1 then _ else [])
        rw [if_neg hk]
        exact fd_nil n
    | op wd i1 i2 =>
      obtain ⟨b, rfl, tb⟩ := hv.row_op
      have two : ∀ (H1 : Hp), Same H H1 → Tq K H1 b [.str (wdS wd), .int i1, .int i2] := fun H1 s1 => tb.up (.of s1)
      have nL : decide (V.str (wdS wd) = V.str "letter") = false := by cases wd <;> decide +kernel
      have nN : decide (V.str (wdS wd) = V.str "number") = false := by cases wd <;> decide +kernel
      refine ⟨_, rfl, _, _, _, _, rfl, rfl, tb.sq, a0, _, rfl, rfl, _, rfl, iteN nL (iteN rfl ?_)⟩
      refine ⟨_, rfl, rfl, _, rfl, iteN nL ⟨_, rfl, rfl, _, rfl, iteN nN ?_⟩⟩
      refine ⟨_, rfl, rfl, _, rfl, ?_⟩
      cases wd with
      | plus =>
        refine iteY (by decide +kernel) ?_
        obtain ⟨o1, o2, f1, z1, z2, n1⟩ := ok
        refine ⟨_, rfl, a, dx, _, rfl, ru.ins, rfl, _, rfl, _, _, _, _, rfl, rfl, tb.sq, a1, _, rfl, a, dx, cl, d, vr, vp, R, i1, k, rfl, ru, o1, fun H3 b3 s3 fd3 ne3 => ?_⟩
        have ru3 := ru.same s3
        refine ⟨_, rfl, a, dx, _, rfl, ru3.ins, rfl, _, rfl, _, _, _, _, rfl, rfl, (two _ s3).sq, a2, _, rfl, a, dx, cl, d, vr, vp, R, i2, k, rfl, ru3, o2, fun H4 b4 s4 fd4 ne4 => ?_⟩
        exact ⟨b3, b4, _, _, rfl, fd3.same s4, fd4, f1, z1, z2, n1, fun H5 b5 s5 hb5 fd5 => q _ _ (L2.Same.trans s3 (L2.Same.trans s4 s5)) (none_of_same (L2.Same.trans s3 s4) hb5) fd5⟩
      | less =>
        refine iteN (by decide +kernel) ⟨_, rfl, rfl, _, rfl, iteY (by decide +kernel) ?_⟩
        obtain ⟨o1, o2, f1, z1, z2, n1⟩ := ok
        refine ⟨_, rfl, a, dx, _, rfl, ru.ins, rfl, _, rfl, _, _, _, _, rfl, rfl, tb.sq, a1, _, rfl, a, dx, cl, d, vr, vp, R, i1, k, rfl, ru, o1, fun H3 b3 s3 fd3 ne3 => ?_⟩
        have ru3 := ru.same s3
        refine ⟨_, rfl, a, dx, _, rfl, ru3.ins, rfl, _, rfl, _, _, _, _, rfl, rfl, (two _ s3).sq, a2, _, rfl, a, dx, cl, d, vr, vp, R, i2, k, rfl, ru3, o2, fun H4 b4 s4 fd4 ne4 => ?_⟩
        exact ⟨b3, b4, _, _, rfl, fd3.same s4, fd4, f1, z1, z2, n1, fun H5 b5 s5 hb5 fd5 => q _ _ (L2.Same.trans s3 (L2.Same.trans s4 s5)) (none_of_same (L2.Same.trans s3 s4) hb5) fd5⟩
      | times =>
        refine iteN (by decide +kernel) ⟨_, rfl, rfl, _, rfl, iteN (by decide +kernel) ⟨_, rfl, rfl, _, rfl, iteY (by decide +kernel) ?_⟩⟩
        refine ⟨_, rfl, a, dx, _, rfl, ru.ins, rfl, _, rfl, _, _, _, _, rfl, rfl, tb.sq, a1, _, rfl, _, _, _, _, rfl, rfl, tb.sq, a2, _, rfl, a, dx, cl, d, vr, vp, R, i1, i2, k, 0, rfl, ru, ok, fun H3 b3 s3 hb3 fd3 => q _ _ s3 hb3 fd3⟩
      | over =>
        refine iteN (by decide +kernel) ⟨_, rfl, rfl, _, rfl, iteN (by decide +kernel) ⟨_, rfl, rfl, _, rfl, iteN (by decide +kernel) ?_⟩⟩
        obtain ⟨o1, o2, hb, zb, nz, f1, z1, z2, n1, z3, z4⟩ := ok
        refine ⟨_, rfl, a, dx, _, rfl, ru.ins, rfl, _, rfl, _, _, _, _, rfl, rfl, tb.sq, a1, _, rfl, a, dx, cl, d, vr, vp, R, i1, k, rfl, ru, o1, fun H3 b3 s3 fd3 ne3 => ?_⟩
        have ru3 := ru.same s3
        refine ⟨_, rfl, a, dx, _, rfl, ru3.ins, rfl, _, rfl, _, _, _, _, rfl, rfl, (two _ s3).sq, a2, _, rfl, _, rfl, a, dx, cl, d, vr, vp, R, i2, i, k, 1, rfl, ru3, o2, fun H4 b4 s4 hb4 fd4 => ?_⟩
        refine ⟨b3, b4, _, _, rfl, fd3.same s4, fd4, f1, z1, z2, n1, fun H5 b5 s5 hb5 fd5 => ?_⟩
        have s35 := L2.Same.trans s3 (L2.Same.trans s4 s5)
        refine ⟨_, rfl, two_le, fun t1 ht1 => ?_⟩
        have s6 : Same H5 (upd H5 t1 (.tup [.int 1, .int 1])) := Same.new ht1
        have s06 := L2.Same.trans s35 s6
        have ru6 := ru.same s06
        obtain ⟨xs, hx, tx⟩ := ru6.came
        obtain ⟨v1, ev1, tv1⟩ := tx.getD (i := i2) hb
        refine ⟨_, rfl, a, C, dx, _, .ref cl, rfl, ru6.ins, TR.cls, TR.n_came, rfl, _, rfl, _, _, _, _, rfl, rfl, (two _ s06).sq, a2, cl, xs, _, v1, rfl, rfl, .of hx, atI_nat ev1, ?_⟩
        refine ⟨_, _, _, _, rfl, TD.of_fr (q := 1) (.inl upd_same), tv1, ⟨sz1, zb, nz⟩, fun H7 v7 s7 t7 => ?_⟩
        exact ⟨b5, v7, _, _, rfl, fd5.same (L2.Same.trans s6 s7), t7, z3, z4, fun H8 b8 s8 hb8 fd8 => q _ _ (L2.Same.trans s06 (L2.Same.trans s7 s8)) (none_of_same (L2.Same.trans s06 s7) hb8) fd8⟩
end
end U
set_option Elab.async false
set_option linter.all false
set_option maxRecDepth 100000
set_option maxHeartbeats 4000000
/-! Rules: last_form, can_be_told, made. -/
namespace U
open PySem PySem.Spec PyProof.Rows L2
def lastTo (R : Rul) (t : Nat) : Form := (List.range t).foldl (fun f t => addF f (readF R (R.rows.length - 1) (t + 1))) (numF (R.came.getD (R.rows.length - 1) 0))
structure LastFOk (R : Rul) : Prop where
  ne : 0 < R.rows.length
  came : R.came.length = R.rows.length
  most : R.most < 1000
  each : ∀ t, t < R.most → ReadOk R (R.rows.length - 1) (t + 1) ∧ Fm (lastTo R t) ∧ SzF (lastTo R t) ∧ SzF (readF R (R.rows.length - 1) (t + 1)) ∧ (lastTo R t).length + (readF R (R.rows.length - 1) (t + 1)).length < sizeLine
section
variable {P : Program} {w : World} {K : PySem.W.Frag} {mg : Str → Option Value} {base : Heap} {C : Addr}
def spLastF (P : Program) (w : World) (K : PySem.W.Frag) (C : Addr) : Sp := fun vs H Q _ => ∃ (a dx cl d : Addr) (vr vp : V) (R : Rul), vs = [.ref a] ∧ RU P w K C H a dx cl d vr vp R ∧ LastFOk R ∧ ∀ H' b, Same H H' → H b = none → FD P w K H' b (lastF R) → Q (.ref b) H'
theorem sc_Rules_last_form : FnScope ["self", "last", "found", "k"] ["self"] (defScope s_Rules_last_form) := ⟨rfl, rfl, rfl, by decide +kernel, rfl, by decide +kernel, by decide +kernel⟩
theorem r_last_form (T : Txt K mg) (TR : RulT K mg C) : C8.Met P w K mg base 5 C "last_form" (spLastF P w K C) [] := by
  refine met_of TR.cls TR.last_form sc_Rules_last_form (fun _ _ _ _ _ _ us hl => match us, hl with | [_], _ => rfl) (fun vs H Q E h => ?_) (fun fa cdv A outer s H vs Q E hr h => ?_)
  · obtain ⟨_, _, _, _, _, _, _, rfl, _⟩ := h
    rfl
  · obtain ⟨a, dx, cl, d, vr, vp, R, rfl, ru, ok, q⟩ := h
    refine ⟨_, (pss_cons (ps_set (i := 1) sc_Rules_last_form.nd rfl (Or.inl rfl) (pe_op op_sub (pe_callB call_len_seq (by rfl) T.b_len PySem.boot_len (pa_cons (pe_fld (pv 0) rfl) pa_nil)) pe_int))
(pss_cons (ps_set (i := 2) sc_Rules_last_form.nd rfl (Or.inl rfl) (pe_c (f_number_form T) hr (by decide) (by rfl) (pa_cons (pe_ix ix_list (pe_fld (pv 0) rfl) (pv 1) (fun _ _ => rfl)) pa_nil)))
(pss_cons (ps_for PassesOwn.never rfl (pi_range2 (by rfl) T.b_range (pa_cons pe_int (pa_cons (pe_op op_add (pe_fld (pv 0) rfl) pe_int) pa_nil))) (pg_name (i := 3) sc_Rules_last_form.nd rfl (Or.inl rfl))
(pss_one (ps_set (i := 2) sc_Rules_last_form.nd rfl (Or.inl rfl) (pe_c (f_added T) hr (by decide) (by rfl) (pa_cons (pv 2) (pa_cons (C8.pe_mt (r_reading T TR) hr (by decide) (pv 0) (pa_cons (pv 1) (pa_cons (pv 3) pa_nil))) pa_nil))))))
(pss_one (ps_ret (pv 2)))))), ?_⟩
    obtain ⟨ar, xr, v0, rfl, tr, ev0, tv0, lr⟩ := ru.row (i := R.rows.length - 1) (by have := ok.ne; omega)
    have ne := ok.ne
    have most := ok.most
    refine ⟨_, rfl, a, C, dx, _, .ref ar, rfl, ru.ins, TR.cls, TR.n_rows, rfl, ar, xr, rfl, .inr tr.sq, _, _, rfl, rfl, ?_⟩
    have el : (((xr.length : Nat) : Int) - 1) = ((R.rows.length - 1 : Nat) : Int) := by omega
    obtain ⟨xs, hx, tx⟩ := ru.came
    obtain ⟨v, ev, tv⟩ := tx.getD (i := R.rows.length - 1) (by rw [ok.came]; omega)
    refine ⟨_, rfl, a, C, dx, _, .ref cl, rfl, ru.ins, TR.cls, TR.n_came, rfl, _, rfl, cl, xs, _, v, rfl, rfl, .of hx, (by show atI xs (((xr.length : Nat) : Int) - 1) = some v; rw [el]; exact atI_nat ev), v, _, rfl, tv, fun H1 b1 s1 hb1 fd1 => ?_⟩
    have ru1 := ru.same s1
    refine ⟨_, rfl, a, C, dx, _, .int R.most, rfl, ru1.ins, TR.cls, TR.n_most, rfl, _, _, rfl, rfl, 1, _, rfl, ⟨by omega, by omega, by omega, by omega⟩, ?_⟩
    have en : ((R.most : Int) + 1 - 1).toNat = R.most := by omega
    rw [en]
    refine for_it (walk_range (lo := 1) (n := R.most)) (fun t σ H2 => t ≤ R.most ∧ Same H H2 ∧ ∃ f x3, σ = [some (.ref a), some (.int (((xr.length : Nat) : Int) - 1)), some (.ref f), x3] ∧ H f = none ∧ FD P w K H2 f (lastTo R t)) ?_ ?_ ?_ ?_
    · exact ⟨Nat.zero_le _, s1, b1, _, rfl, hb1, fd1⟩
    · intro _ _ _ _ _; trivial
    · rintro t x σ H2 H3 ht ⟨hle, s2, f, x3, rfl, hf, fd⟩ ⟨rfl, rfl⟩
      obtain ⟨o1, f1, z1, z2, n1⟩ := ok.each t ht
      have ru2 := ru.same s2
      refine ⟨_, rfl, _, rfl, a, dx, _, rfl, ru2.ins, rfl, _, rfl, _, rfl, a, dx, cl, d, _, vp, R, R.rows.length - 1, t + 1, ?_, ru2, o1, fun H4 b4 s4 fd4 ne4 => ?_⟩
      · show [V.ref a, V.int (((xr.length : Nat) : Int) - 1), V.int ((1 : Int) + (t : Int))] = [V.ref a, V.int ((R.rows.length - 1 : Nat) : Int), V.int ((t + 1 : Nat) : Int)]
        rw [el, show ((1 : Int) + (t : Int)) = ((t + 1 : Nat) : Int) by omega]
      refine ⟨f, b4, _, _, rfl, fd.same s4, fd4, f1, z1, z2, n1, fun H5 b5 s5 hb5 fd5 => ?_⟩
      refine ⟨by omega, L2.Same.trans s2 (L2.Same.trans s4 s5), b5, _, rfl, none_of_same (L2.Same.trans s2 s4) hb5, ?_⟩
      have e : lastTo R (t + 1) = addF (lastTo R t) (readF R (R.rows.length - 1) (t + 1)) := range_fold _ _ _
      rw [e]
      exact fd5
    · rintro σ H2 ⟨_, s2, f, x3, rfl, hf, fd⟩
      exact ⟨_, rfl, q _ _ s2 hf fd⟩
def spCan (P : Program) (w : World) (K : PySem.W.Frag) (C : Addr) : Sp := fun vs H Q _ => ∃ (a dx cl d : Addr) (vr vp v : V) (R : Rul) (i k : Nat), vs = [.ref a, v] ∧ RU P w K C H a dx cl d vr vp R ∧ TD K H v (eK (mkI i k)) ∧ i < R.rows.length ∧ Q (.bl (canTold R i k)) H
theorem sc_Rules_can_be_told : FnScope ["self", "mark"] ["self", "mark"] (defScope s_Rules_can_be_told) := ⟨rfl, rfl, rfl, by decide +kernel, rfl, by decide +kernel, by decide +kernel⟩
theorem r_can_be_told (T : Txt K mg) (TR : RulT K mg C) : C8.Met P w K mg base 1 C "can_be_told" (spCan P w K C) [] := by
  refine met_of TR.cls TR.can_be_told sc_Rules_can_be_told (fun _ _ _ _ _ _ us hl => match us, hl with | [_, _], _ => rfl) (fun vs H Q E h => ?_) (fun fa cdv A outer s H vs Q E hr h => ?_)
  · obtain ⟨_, _, _, _, _, _, _, _, _, _, rfl, _⟩ := h
    rfl
  · obtain ⟨a, dx, cl, d, vr, vp, v, R, i, k, rfl, ru, hv, hi, q⟩ := h
    refine ⟨_, (pss_one (ps_ret (pe_and (pe_cmp (pc_nin (rhu hr) (pv 1) (pe_fld (pv 0) rfl)) rfl) (pe_and (pe_cmpR op_ne (pe_ix ix_tup (pe_ix ix_tup (pe_fld (pv 0) rfl) (pe_ix ix_tup (pv 1) pe_int (fun _ _ => rfl)) (fun _ _ => rfl)) pe_int (fun _ _ => rfl)) pe_str (nomark _)) (pe_one (pe_cmpR op_gt (pe_callB call_lenN (by rfl) T.b_len PySem.boot_len (pa_cons (pe_nget (rhu hr) (pe_fld (pv 0) rfl) (pv 1) (fun _ _ => rfl)) pa_nil)) pe_int (nomark _))))))), ?_⟩
    obtain ⟨b, rfl, tb⟩ := hv.mk
    obtain ⟨o, F, nd, rt⟩ := ru.rules
    obtain ⟨ar, xr, v0, rfl, tr, ev0, tv0, lr⟩ := ru.row hi
    obtain ⟨bv, yv, rfl, tbv⟩ := tv0.row_head
    refine ⟨_, rfl, _, rfl, a, C, dx, _, .ref d, rfl, ru.ins, TR.cls, TR.n_rules, rfl, d, o, F, keyK (mkI i k), b, rfl, rfl, nd, kyK_of hv, _, rfl, ?_⟩
    rw [rt.isSome keyKi]
    unfold canTold at q
    cases e : tget R.rules (mkI i k) with
    | none => rw [e] at q; exact iteN rfl q
    | some g =>
      have erg : rget R i k = g := by unfold rget; rw [e]; rfl
      rw [e, erg] at q
      refine iteY rfl ?_
      refine ⟨_, rfl, a, C, dx, _, .ref ar, rfl, ru.ins, TR.cls, TR.n_rows, rfl, _, rfl, _, _, _, _, rfl, rfl, tb.sq, a0, ar, xr, _, _, rfl, rfl, tr.sq, atI_nat ev0, _, _, _, _, rfl, rfl, tbv.sq, a0, rfl, _, rfl, ?_⟩
      rw [let_head]
      cases hl : isLet (rowAt R i) with
      | true => rw [hl] at q; exact iteN rfl q
      | false =>
        rw [hl] at q
        refine iteY rfl ?_
        obtain ⟨vg, e1, bg, rfl, fd, ne⟩ := rt.val_some keyKi e
        obtain ⟨og, Fg, ng, rg⟩ := fd.ex
        refine ⟨_, rfl, a, C, dx, _, .ref d, rfl, ru.ins, TR.cls, TR.n_rules, rfl, _, rfl, d, o, F, keyK (mkI i k), b, _, rfl, rfl, nd, kyK_of hv, e1, bg, og, Fg, rfl, ng, ?_⟩
        refine ⟨_, _, rfl, rfl, ?_⟩
        have eb : decide ((0 : Int) < ((Fg.length : Nat) : Int)) = decide (0 < g.length) := by
          rw [rg.len]
          by_cases z : 0 < g.length
          · rw [decide_eq_true z, decide_eq_true (by omega)]
          · rw [decide_eq_false z, decide_eq_false (by omega)]
        have q' : Q (.bl (decide (0 < g.length))) H := q
        rw [← eb] at q'
        exact q'
end
end U
set_option Elab.async false
set_option linter.all false
set_option maxRecDepth 100000
set_option maxHeartbeats 4000000
/-! Rules, made. -/
namespace U
open PySem PySem.Spec PyProof.Rows L2
/-- what stays of the rules while they are made -/
structure RK (R R0 : Rul) : Prop where
  rows : R.rows = R0.rows
  point : R.point = R0.point
  most : R.most = R0.most
  came : R.came = R0.came
theorem RK.rfl' (R : Rul) : RK R R := ⟨rfl, rfl, rfl, rfl⟩
theorem RK.trans {A B C : Rul} (h : RK A B) (g : RK B C) : RK A C := ⟨h.rows.trans g.rows, h.point.trans g.point, h.most.trans g.most, h.came.trans g.came⟩
theorem rk_kstep (i : Nat) (R : Rul) (k : Nat) : RK (kstep i R k) R := ⟨rfl, rfl, rfl, rfl⟩
theorem rk_kfold (i : Nat) : ∀ (ks : List Nat) (R : Rul), RK (ks.foldl (kstep i) R) R
  | [], R => RK.rfl' R
  | k :: ks, R => (rk_kfold i ks (kstep i R k)).trans (rk_kstep i R k)
theorem rk_istep (R : Rul) (i : Nat) : RK (istep R i) R := rk_kfold i _ R
theorem rk_ifold : ∀ (is : List Nat) (R : Rul), RK (is.foldl istep R) R
  | [], R => RK.rfl' R
  | i :: is, R => (rk_ifold is (istep R i)).trans (rk_istep R i)
/-- the rules as they stand ahead of (i, k + 1) -/
def stageI (rows : List Row) (point : List Rat) (most i : Nat) : Rul := (List.range i).foldl istep (rul0 rows point most)
def stage (rows : List Row) (point : List Rat) (most i k : Nat) : Rul := (List.range k).foldl (kstep i) (stageI rows point most i)
theorem rk_stage (rows : List Row) (point : List Rat) (most i k : Nat) : RK (stage rows point most i k) (rul0 rows point most) := (rk_kfold i _ _).trans (rk_ifold _ _)
theorem stage_most {rows : List Row} {point : List Rat} {most i : Nat} : stage rows point most i most = stageI rows point most (i + 1) := by
  unfold stageI
  rw [range_fold]
  show _ = istep (stageI rows point most i) i
  unfold istep stage
  have e : (stageI rows point most i).most = most := (rk_ifold (List.range i) (rul0 rows point most)).most
  rw [e]
structure RulesOk (rows : List Row) (point : List Rat) (most : Nat) : Prop where
  run : RunOk point rows
  good : GoodTo point rows rows.length
  few : rows.length < 1000
  low : most < 1000
  rule : ∀ i k, i < rows.length → k < most → RuleOk (stage rows point most i k) (rows.getD i (.num 0)) i (k + 1)
  cnt : ∀ i k, i < rows.length → k < most → (stage rows point most i k).rules.length < sizeLine
section
variable {P : Program} {w : World} {K : PySem.W.Frag} {mg : Str → Option Value} {base : Heap} {C : Addr}
theorem RU.put {H : Hp} {a dx cl d b : Addr} {vr vp : V} {R : Rul} {o o' : Obj} {F : List (NestedKey × V)} {m : Mark} {f : Form} (h : RU P w K C H a dx cl d vr vp R) (nd : NDo P w K H d o F) (rt : RT keyK (RRel P w K H d) F R.rules) (fd : FD P w K H b f) (ne : b ≠ d)
    (n' : NDo P w K (upd H d (pinO d o')) d o' (putK F (keyK m) (.ref b))) : RU P w K C (upd H d (pinO d o')) a dx cl d vr vp { R with rules := tput R.rules m f } := by
  have c : Ch (· = d) H (upd H d (pinO d o')) := Ch.put rfl nd.at_ pinO_tup
  obtain ⟨xs, hx, tx⟩ := h.came
  have ad : a ≠ d := fun z => by have := nd.at_; rw [← z, h.ins] at this; cases this
  have cd : cl ≠ d := fun z => by have := nd.at_; rw [← z, hx] at this; cases this
  have up : ∀ v g, RRel P w K H d v g → RRel P w K (upd H d (pinO d o')) d v g := fun v g ⟨b, e, fd, ne⟩ => ⟨b, e, fd.ch c ne, ne⟩
  exact ⟨by rw [upd_ne ad]; exact h.ins, h.rows.up c.kp, h.point.up c.kp, ⟨xs, by rw [upd_ne cd]; exact hx, tx.up c.kp⟩, ⟨o', _, n', (rt.mono up).put keyKi m (up _ _ ⟨b, rfl, fd, ne⟩)⟩⟩
variable {CN fI : Addr}
def spRulInit (P : Program) (w : World) (K : PySem.W.Frag) (C : Addr) : Sp := fun vs H Q _ => ∃ (a dx : Addr) (rk vp : V) (ls : List Str) (rows : List Row) (pts : List Rat) (most : Nat), vs = [.ref a, rk, vp, .int most] ∧ H a = some (.ins C dx []) ∧ TD K H rk (eRk ls rows) ∧ TD K H vp (.tuple (pts.map eF)) ∧ RulesOk rows pts most ∧
  ∀ H' cl d vr, Ch (· = a) H H' → RU P w K C H' a dx cl d vr vp (rulesF rows pts most) → Q .non H'
theorem sc_Rules_init : FnScope ["self", "reckoning", "point", "most", "i", "k"] ["self", "reckoning", "point", "most"] (defScope s_Rules_init) := ⟨rfl, rfl, rfl, by decide +kernel, rfl, by decide +kernel, by decide +kernel⟩
theorem mk_Rules (T : Txt K mg) (TN : NoOv K mg CN fI) (TR : RulT K mg C) : C8.Mak P w K mg base 8 "Rules" C (spRulInit P w K C) [] := by
  obtain ⟨f, fd, M, F⟩ := TR.made
  refine ⟨f, fd, ["self", "reckoning", "point", "most"], [], M, F.ok sc_Rules_init (fun vs H Q E h => ?_) fun cdv A outer s H vs Q E hr h => ?_, TR.gC, F.bindsN (fun _ _ _ _ _ _ us hl => match us, hl with | [_, _, _, _], _ => rfl), .nil⟩
  · obtain ⟨_, _, _, _, _, _, _, _, rfl, _⟩ := h
    rfl
  · obtain ⟨a, dx, rk, vp, ls, rows, pts, most, rfl, ha, hk, hp, ok, q⟩ := h
    refine ⟨_, PSs.nox (pss_cons (ps_fld (pv 0) (pe_ix ix_tup (pv 1) pe_int (fun _ _ => rfl)) rfl)
(pss_cons (ps_fld (pv 0) (pv 2) rfl)
(pss_cons (ps_fld (pv 0) (pv 3) rfl)
(pss_cons (ps_fld (pv 0) (pe_c (x_run T TN).noX hr (by decide) (by rfl) (pa_cons (pv 1) (pa_cons (pv 2) pa_nil))) rfl)
(pss_cons (ps_fld (pv 0) pe_nnew rfl)
(pss_one (ps_for PassesOwn.never rfl (pi_range1 (by rfl) T.b_range (pa_cons (pe_callB call_len_seq (by rfl) T.b_len PySem.boot_len (pa_cons (pe_fld (pv 0) rfl) pa_nil)) pa_nil)) (pg_name (i := 4) sc_Rules_init.nd rfl (Or.inl rfl))
(pss_one (ps_for PassesOwn.never rfl (pi_range2 (by rfl) T.b_range (pa_cons pe_int (pa_cons (pe_op op_add (pv 3) pe_int) pa_nil))) (pg_name (i := 5) sc_Rules_init.nd rfl (Or.inl rfl))
(pss_one (ps_nput (rhu hr) (pe_fld (pv 0) rfl) (pe_tup (pa_cons (pv 4) (pa_cons (pv 5) pa_nil))) (C8.pe_mt (r_rule T TR) hr (by decide) (pv 0) (pa_cons (pe_ix ix_tup (pe_fld (pv 0) rfl) (pv 4) (fun _ _ => rfl)) (pa_cons (pv 4) (pa_cons (pv 5) pa_nil)))) rfl))))))))))), ?_⟩
    obtain ⟨ak, vl, vr, rfl, tk, tl, tr⟩ := hk.rk
    obtain ⟨ar, xr, rfl, tqr, tdr⟩ := tr.tup_inv
    -- the fields
    refine ⟨_, rfl, _, _, _, _, rfl, rfl, tk.sq, a1, _, rfl, a, C, dx, [], rfl, ha, TR.cls, TR.n_rows, by decide, ?_⟩
    have c1 : Ch (· = a) H (upd H a (.ins C dx (putF "rows" (.ref ar) []))) := Ch.put rfl ha (fun _ z => by cases z)
    have h1a : upd H a (.ins C dx (putF "rows" (.ref ar) [])) a = some (.ins C dx [("rows", .ref ar)]) := upd_same
    generalize upd H a (.ins C dx (putF "rows" (.ref ar) [])) = H1 at c1 h1a ⊢
    refine ⟨_, rfl, _, rfl, a, C, dx, _, rfl, h1a, TR.cls, TR.n_point, by show 1 < 1000; decide, ?_⟩
    have c2 : Ch (· = a) H1 (upd H1 a (.ins C dx (putF "point" vp [("rows", .ref ar)]))) := Ch.put rfl h1a (fun _ z => by cases z)
    have h2a : upd H1 a (.ins C dx (putF "point" vp [("rows", .ref ar)])) a = some (.ins C dx [("rows", .ref ar), ("point", vp)]) := upd_same
    generalize upd H1 a (.ins C dx (putF "point" vp [("rows", .ref ar)])) = H2 at c2 h2a ⊢
    refine ⟨_, rfl, _, rfl, a, C, dx, _, rfl, h2a, TR.cls, TR.n_most, by show 2 < 1000; decide, ?_⟩
    have c3 : Ch (· = a) H2 (upd H2 a (.ins C dx (putF "most" (.int most) [("rows", .ref ar), ("point", vp)]))) := Ch.put rfl h2a (fun _ z => by cases z)
    have h3a : upd H2 a (.ins C dx (putF "most" (.int most) [("rows", .ref ar), ("point", vp)])) a = some (.ins C dx [("rows", .ref ar), ("point", vp), ("most", .int most)]) := upd_same
    generalize upd H2 a (.ins C dx (putF "most" (.int most) [("rows", .ref ar), ("point", vp)])) = H3 at c3 h3a ⊢
    have c03 := (c1.trans c2).trans c3
    refine ⟨_, rfl, _, rfl, _, _, ls, rows, pts, rfl, hk.up c03.kp, hp.up c03.kp, ok.run, fun _ H4 cl xs s4 hcl hx4 tx4 => ?_, fun z => absurd ok.good z⟩
    have h4a := s4 _ _ h3a
    refine ⟨_, rfl, a, C, dx, _, rfl, h4a, TR.cls, TR.n_came, by show 3 < 1000; decide, ?_⟩
    have acl : a ≠ cl := fun z => by rw [z] at h3a; rw [hcl] at h3a; cases h3a
    have c5 : Ch (· = a) H4 (upd H4 a (.ins C dx (putF "came" (.ref cl) [("rows", .ref ar), ("point", vp), ("most", .int most)]))) := Ch.put rfl h4a (fun _ z => by cases z)
    have h5a : upd H4 a (.ins C dx (putF "came" (.ref cl) [("rows", .ref ar), ("point", vp), ("most", .int most)])) a = some (.ins C dx [("rows", .ref ar), ("point", vp), ("most", .int most), ("came", .ref cl)]) := upd_same
    have h5c : upd H4 a (.ins C dx (putF "came" (.ref cl) [("rows", .ref ar), ("point", vp), ("most", .int most)])) cl = some (.lst xs) := by rw [upd_ne (Ne.symm acl)]; exact hx4
    have tx5 := tx4.up c5.kp
    generalize upd H4 a (.ins C dx (putF "came" (.ref cl) [("rows", .ref ar), ("point", vp), ("most", .int most)])) = H5 at c5 h5a h5c tx5 ⊢
    refine fun d hd nd => ⟨_, rfl, a, C, dx, [("rows", .ref ar), ("point", vp), ("most", .int most), ("came", .ref cl)], rfl, ?_, TR.cls, TR.n_rules, by show 4 < 1000; decide, ?_⟩
    · rw [upd_ne (ne_of_none h5a hd)]; exact h5a
    have had : a ≠ d := ne_of_none h5a hd
    have hcd : cl ≠ d := ne_of_none h5c hd
    have c6 : Ch (· = a) H5 (upd (upd H5 d (pinO d emptyD)) a (.ins C dx (putF "rules" (.ref d) [("rows", .ref ar), ("point", vp), ("most", .int most), ("came", .ref cl)]))) := (Ch.new hd).trans (Ch.put rfl (by rw [upd_ne had]; exact h5a) (fun _ z => by cases z))
    have c06 := (c03.same s4).trans (c5.trans c6)
    have n6 : NDo P w K (upd (upd H5 d (pinO d emptyD)) a (.ins C dx (putF "rules" (.ref d) [("rows", .ref ar), ("point", vp), ("most", .int most), ("came", .ref cl)]))) d emptyD [] := nd.up (Kp.put (by rw [upd_ne had]; exact h5a) (fun _ z => by cases z)) (by rw [upd_ne (Ne.symm had), upd_same])
    have ru6 : RU P w K C (upd (upd H5 d (pinO d emptyD)) a (.ins C dx (putF "rules" (.ref d) [("rows", .ref ar), ("point", vp), ("most", .int most), ("came", .ref cl)]))) a dx cl d (.ref ar) vp (rul0 rows pts most) :=
      ⟨upd_same, tr.up c06.kp, hp.up c06.kp, ⟨xs, by rw [upd_ne (Ne.symm acl), upd_ne hcd]; exact h5c, tx5.up c6.kp⟩, ⟨emptyD, [], n6, .nil⟩⟩
    have hd0 : H d = none := by
      cases z : H d with
      | none => rfl
      | some u => rw [((c03.same s4).trans c5).keep d u (Ne.symm had) z] at hd; cases hd
    generalize upd (upd H5 d (pinO d emptyD)) a (.ins C dx (putF "rules" (.ref d) [("rows", .ref ar), ("point", vp), ("most", .int most), ("came", .ref cl)])) = H6 at c06 ru6 ⊢
    -- the loops
    have lr : xr.length = rows.length := by rw [tdr.len, List.length_map]
    have orl := ok.few
    have oml := ok.low
    refine ⟨_, rfl, a, C, dx, _, .ref ar, rfl, ru6.ins, TR.cls, TR.n_rows, rfl, ar, xr, rfl, .inr (tqr.up c06.kp).sq, (xr.length : Nat), rfl, by omega, by omega, ?_⟩
    have en : (((xr.length : Nat) : Int)).toNat = rows.length := by omega
    rw [en]
    refine for_it (walk_range (lo := 0) (n := rows.length)) (fun i σ H7 => i ≤ rows.length ∧ Ch (fun b => b = a ∨ b = d) H6 H7 ∧ RU P w K C H7 a dx cl d (.ref ar) vp (stageI rows pts most i) ∧ ∃ x4 x5, σ = [some (.ref a), some (.ref ak), some vp, some (.int most), x4, x5]) ?_ ?_ ?_ ?_
    · exact ⟨Nat.zero_le _, Ch.refl _ _, ru6, _, _, rfl⟩
    · intro _ _ _ _ _; trivial
    · rintro i x σ H7 H8 hi ⟨hle, c7, ru7, x4, x5, rfl⟩ ⟨rfl, hx⟩
      have hx : x = .int (i : Nat) := by rw [hx]; show V.int (0 + (i : Int)) = _; rw [Int.zero_add]
      subst hx
      refine ⟨_, rfl, _, _, rfl, rfl, 1, _, rfl, ⟨by omega, by omega, by omega, by omega⟩, ?_⟩
      have em : ((most : Int) + 1 - 1).toNat = most := by omega
      rw [em]
      refine for_it (walk_range (lo := 1) (n := most)) (fun k σ H9 => k ≤ most ∧ Ch (fun b => b = a ∨ b = d) H6 H9 ∧ RU P w K C H9 a dx cl d (.ref ar) vp (stage rows pts most i k) ∧ ∃ x5, σ = [some (.ref a), some (.ref ak), some vp, some (.int most), some (.int i), x5]) ?_ ?_ ?_ ?_
      · exact ⟨Nat.zero_le _, c7, ru7, _, rfl⟩
      · intro _ _ _ _ _; trivial
      · rintro k x σ H9 H10 hk' ⟨hle', c9, ru9, y5, rfl⟩ ⟨rfl, hx⟩
        have hx : x = .int ((k + 1 : Nat) : Int) := by rw [hx]; show V.int (1 + (k : Int)) = _; rw [show (1 + (k : Int)) = ((k + 1 : Nat) : Int) by omega]
        subst hx
        have rkk := rk_stage rows pts most i k
        have hi2 : i < (stage rows pts most i k).rows.length := by rw [rkk.rows]; exact hi
        obtain ⟨ar2, xr2, v0, e2, tr2, ev0, tv0, _⟩ := ru9.row hi2
        cases e2
        have rowe : rowAt (stage rows pts most i k) i = rows.getD i (.num 0) := by unfold rowAt; rw [rkk.rows]; rfl
        rw [rowe] at tv0
        refine ⟨_, rfl, a, dx, _, rfl, ru9.ins, rfl, _, rfl, a, C, dx, _, .ref ar, rfl, ru9.ins, TR.cls, TR.n_rows, rfl, _, rfl, ar, xr2, _, v0, rfl, rfl, tr2.sq, atI_nat ev0, _, rfl, _, rfl, ?_⟩
        refine ⟨a, dx, cl, d, .ref ar, vp, v0, stage rows pts most i k, rows.getD i (.num 0), i, k + 1, rfl, ru9, tv0, ok.rule i k hi hk', fun H11 b s11 hb fd => ?_⟩
        have ru11 := ru9.same s11
        refine ⟨_, rfl, a, C, dx, _, .ref d, rfl, ru11.ins, TR.cls, TR.n_rules, rfl, _, rfl, _, rfl, two_le, fun t ht => ?_⟩
        have s12 : Same H11 (upd H11 t (.tup [.int i, .int ((k + 1 : Nat) : Int)])) := Same.new ht
        have ru12 := ru11.same s12
        obtain ⟨o, F, nd, rt⟩ := ru12.rules
        have bd : b ≠ d := fun z => by
          obtain ⟨o9, F9, nd9, _⟩ := ru9.rules
          have := nd9.at_
          rw [← z, hb] at this
          cases this
        refine ⟨d, o, F, keyK (mkI i (k + 1)), t, rfl, rfl, nd, kyK_of (TD.mark (m := mkI i (k + 1)) (.inl upd_same)), by rw [rt.len]; exact ok.cnt i k hi hk', fun o' n' => ?_⟩
        have ru13 := ru12.put nd rt (fd.same s12) bd n'
        have es : stage rows pts most i (k + 1) = { stage rows pts most i k with rules := tput (stage rows pts most i k).rules (mkI i (k + 1)) (ruleF (stage rows pts most i k) (rows.getD i (.num 0)) i (k + 1)) } := by
          show (List.range (k + 1)).foldl (kstep i) _ = _
          rw [range_fold]
          show kstep i (stage rows pts most i k) k = _
          unfold kstep
          rw [rowe]
        refine ⟨by omega, ((c9.same s11).same s12).trans (Ch.put (.inr rfl) nd.at_ pinO_tup), by rw [es]; exact ru13, _, rfl⟩
      · rintro σ H9 ⟨_, c9, ru9, y5, rfl⟩
        rw [stage_most] at ru9
        exact ⟨by omega, c9, ru9, _, _, rfl⟩
    · rintro σ H7 ⟨_, c7, ru7, x4, x5, rfl⟩
      refine q H7 cl d (.ref ar) ⟨fun b u nb hb => ?_, c06.kp.trans c7.kp⟩ ru7
      exact c7.keep b u (fun z => by
        rcases z with z | z
        · exact nb z
        · rw [z, hd0] at hb; cases hb) (c06.keep b u nb hb)
end
end U
set_option Elab.async false
set_option linter.all false
set_option maxRecDepth 100000
set_option maxHeartbeats 4000000
/-! needed_rows. -/
namespace U
open PySem PySem.Spec PyProof.Rows L2
def insN (f : List Nat) (a : Nat) : List Nat := if a ∈ f then f else f ++ [a]
def nstep (rows : List Row) (f : List Nat) (i : Nat) : List Nat := if i ∈ f then (match rows.getD i (.num 0) with
  | .op _ a b => insN (insN f a) b
  | _ => f) else f
def needTo (rows : List Row) (t : Nat) : List Nat := (List.range t).foldl (fun f t => nstep rows f (rows.length - 1 - t)) [rows.length - 1]
def needF (rows : List Row) : List Nat := (needTo rows rows.length).mergeSort
theorem insN_mem {f : List Nat} {a b : Nat} : b ∈ insN f a ↔ b ∈ f ∨ b = a := by
  unfold insN
  split
  · rename_i h
    constructor
    · exact .inl
    · rintro (h1 | rfl)
      · exact h1
      · exact h
  · simp
theorem insN_nd {f : List Nat} (h : f.Nodup) (a : Nat) : (insN f a).Nodup := by
  unfold insN
  split
  · exact h
  · rename_i q
    refine List.nodup_append.mpr ⟨h, by simp, ?_⟩
    intro x hx y hy e
    rw [List.mem_singleton] at hy
    subst hy
    subst e
    exact q hx
theorem insN_lt {f : List Nat} {n a : Nat} (h : ∀ x ∈ f, x < n) (ha : a < n) : ∀ x ∈ insN f a, x < n := fun x hx => by
  rcases insN_mem.mp hx with q | q
  · exact h x q
  · rw [q]; exact ha
def PartsOk (rows : List Row) : Prop := ∀ i w a b, rows[i]? = some (Row.op w a b) → a < i ∧ b < i
structure NeedOk (rows : List Row) (f : List Nat) : Prop where
  nd : f.Nodup
  lt : ∀ x ∈ f, x < rows.length
theorem nstep_ok {rows : List Row} (wf : PartsOk rows) {f : List Nat} (h : NeedOk rows f) {i : Nat} (hi : i < rows.length) : NeedOk rows (nstep rows f i) := by
  unfold nstep
  split
  · cases e : rows.getD i (.num 0) with
    | op w a b =>
      have er : rows[i]? = some (.op w a b) := by
        rw [List.getD_eq_getElem?_getD] at e
        rw [List.getElem?_eq_getElem hi] at e ⊢
        exact congrArg some e
      obtain ⟨h1, h2⟩ := wf i w a b er
      exact ⟨insN_nd (insN_nd h.nd a) b, insN_lt (insN_lt h.lt (by omega)) (by omega)⟩
    | num q => exact h
    | let_ k => exact h
  · exact h
theorem needTo_ok {rows : List Row} (wf : PartsOk rows) (h0 : 0 < rows.length) : ∀ t, NeedOk rows (needTo rows t)
  | 0 => ⟨by simp [needTo], fun x hx => by simp [needTo] at hx; omega⟩
  | t + 1 => by
    have e : needTo rows (t + 1) = nstep rows (needTo rows t) (rows.length - 1 - t) := range_fold _ _ _
    rw [e]
    exact nstep_ok wf (needTo_ok wf h0 t) (by omega)
theorem nd_len : ∀ {n : Nat} {f : List Nat}, f.Nodup → (∀ x ∈ f, x < n) → f.length ≤ n
  | 0, f, _, hl => by
    cases f with
    | nil => exact Nat.le_refl _
    | cons x f => exact absurd (hl x (List.mem_cons_self ..)) (by omega)
  | n + 1, f, h, hl => by
    by_cases hn : n ∈ f
    · have h1 := nd_len (n := n) (h.erase n) fun x hx => by
        have := (h.mem_erase_iff).mp hx
        have := hl x this.2
        omega
      rw [List.length_erase_of_mem hn] at h1
      omega
    · have h1 := nd_len (n := n) h fun x hx => by
        have := hl x hx
        have : x ≠ n := fun z => hn (z ▸ hx)
        omega
      omega
def dkN (ks : List Nat) : List (Key × V) := ks.map fun (n : Nat) => (Sum.inl (n : Int), V.bl true)
theorem dk_val (ks : List Nat) (a : Nat) : (valV (dkN ks) (Sum.inl (a : Int))).isSome = decide (a ∈ ks) := by
  induction ks with
  | nil => rfl
  | cons k ks ih =>
    by_cases h : k = a
    · subst h
      rw [show dkN (k :: ks) = (Sum.inl (k : Int), V.bl true) :: dkN ks from rfl, valV_pos rfl]
      simp
    · rw [show dkN (k :: ks) = (Sum.inl (k : Int), V.bl true) :: dkN ks from rfl, valV_neg (by intro z; have := Sum.inl.inj z; omega), ih]
      have : ¬ a = k := fun z => h z.symm
      simp [this]
theorem dk_put (ks : List Nat) (a : Nat) : putK (dkN ks) (Sum.inl (a : Int)) (V.bl true) = dkN (insN ks a) := by
  unfold putK insN
  rw [valV_any, dk_val]
  by_cases h : a ∈ ks
  · rw [if_pos (decide_eq_true h), if_pos h]
    unfold dkN
    rw [List.map_map]
    refine List.map_congr_left fun n _ => ?_
    show (if (Sum.inl (n : Int) : Key) = Sum.inl (a : Int) then ((Sum.inl (n : Int) : Key), V.bl true) else (Sum.inl (n : Int), V.bl true)) = _
    split <;> rfl
  · rw [if_neg (by simpa using h), if_neg h]
    unfold dkN
    rw [List.map_append]
    rfl
theorem rhu1 {k : Nat} {A : Around} (h : Room k A) : A.units + 1 < cLine := by have := h.un; omega
section
variable {P : Program} {w : World} {K : PySem.W.Frag} {mg : Str → Option Value} {base : Heap}
def spNeed (K : PySem.W.Frag) : Sp := fun vs H Q _ => ∃ (v : V) (rows : List Row), vs = [v] ∧ TD K H v (.tuple (rows.map eRow)) ∧ 0 < rows.length ∧ rows.length < 64 ∧ PartsOk rows ∧
  ∀ H' l, Same H H' → H l = none → H' l = some (.lst ((needF rows).map fun n => V.int (n : Nat))) → Q (.ref l) H'
theorem sc_needed_rows : FnScope ["rows", "found", "at"] ["rows"] (defScope s_needed_rows) := ⟨rfl, rfl, rfl, by decide +kernel, rfl, by decide +kernel, by decide +kernel⟩
theorem f_needed_rows (T : Txt K mg) : Cal P w K mg base 1 "needed_rows" (spNeed K) := by
  refine cal_of T.a_needed_rows sc_needed_rows (fun _ _ _ _ _ _ us hl => match us, hl with | [_], _ => rfl) (fun vs H Q E h => ?_) (fun fa cdv A outer s H vs Q E hr h => ?_)
  · obtain ⟨_, _, rfl, _⟩ := h
    rfl
  · obtain ⟨v, rows, rfl, hv, h0, h64, wf, q⟩ := h
    refine ⟨_, (pss_cons (ps_set (i := 1) sc_needed_rows.nd rfl (Or.inl rfl) (pe_disp (pps_cons (pe_op op_sub (pe_callB call_len_seq (by rfl) T.b_len PySem.boot_len (pa_cons (pv 0) pa_nil)) pe_int) pe_bl pps_nil) rfl rfl (by simp) (by decide)))
(pss_cons (ps_for PassesOwn.never rfl (pi_range3 (by rfl) T.b_range (pa_cons (pe_op op_sub (pe_callB call_len_seq (by rfl) T.b_len PySem.boot_len (pa_cons (pv 0) pa_nil)) pe_int) (pa_cons (pe_un un_neg pe_int) (pa_cons (pe_un un_neg pe_int) pa_nil)))) (pg_name (i := 2) sc_needed_rows.nd rfl (Or.inl rfl))
(pss_one (ps_if (PW.pt (pw_and (pt_cmp (pc_din (rhu1 hr) (pv 2) (pv 1))) (pw_and1 (pt_cmpR op_notIn_seq (pe_ix ix_tup (pe_ix ix_tup (pv 0) (pv 2) (fun _ _ => rfl)) pe_int (fun _ _ => rfl)) (pe_tup (pa_cons pe_str (pa_cons pe_str pa_nil))) rfl))))
(pss_cons (ps_dput (rhu1 hr) (pv 1) (pe_ix ix_tup (pe_ix ix_tup (pv 0) (pv 2) (fun _ _ => rfl)) pe_int (fun _ _ => rfl)) pe_bl rfl)
(pss_one (ps_dput (rhu1 hr) (pv 1) (pe_ix ix_tup (pe_ix ix_tup (pv 0) (pv 2) (fun _ _ => rfl)) pe_int (fun _ _ => rfl)) pe_bl rfl)))
pss_nil)))
(pss_one (ps_ret (pe_callB (call_sortedDI rfl) (by rfl) T.b_sorted (by decide +kernel) (pa_cons (pv 1) pa_nil)))))), ?_⟩
    obtain ⟨ar, xr, rfl, tr, ts⟩ := hv.tup_inv
    have lr : xr.length = rows.length := by rw [ts.len, List.length_map]
    intro d hd
    have s0 : Same H (upd H d (.dK [])) := Same.new hd
    have e1 : (((xr.length : Nat) : Int) - 1) = ((rows.length - 1 : Nat) : Int) := by omega
    refine ⟨_, rfl, ar, xr, rfl, .inr (tr.up (.of s0)).sq, _, _, rfl, rfl, upd_same, [(Sum.inl (((rows.length - 1 : Nat) : Int)), V.bl true)], ?_, (by show 1 ≤ 15; decide), ?_⟩
    · show [(V.int (((xr.length : Nat) : Int) - 1), V.bl true)] = [(V.int ((rows.length - 1 : Nat) : Int), V.bl true)]
      rw [e1]
    have eD : mergeK [] [(Sum.inl (((rows.length - 1 : Nat) : Int)), V.bl true)] = dkN (needTo rows 0) := rfl
    have c1 : Ch (· = d) (upd H d (.dK [])) (upd (upd H d (.dK [])) d (.dK (dkN (needTo rows 0)))) := Ch.put rfl upd_same (fun _ z => by cases z)
    have h1d : upd (upd H d (.dK [])) d (.dK (dkN (needTo rows 0))) d = some (.dK (dkN (needTo rows 0))) := upd_same
    rw [eD]
    generalize upd (upd H d (.dK [])) d (.dK (dkN (needTo rows 0))) = H1 at c1 h1d ⊢
    have s1 : Same H H1 := sameNew hd c1
    refine ⟨_, rfl, ar, xr, rfl, .inr (tr.up (.of s1)).sq, _, _, rfl, rfl, _, rfl, _, rfl, ((rows.length - 1 : Nat) : Int), -1, -1, rows.length, ?_, ?_, ?_⟩
    · show [V.int (((xr.length : Nat) : Int) - 1), V.int (-1), V.int (-1)] = _
      rw [e1]
    · have := RgC.neg (i := ((rows.length - 1 : Nat) : Int)) (j := -1) (by omega) (by omega) (by omega) (by omega)
      rwa [show ((((rows.length - 1 : Nat) : Int)) - -1).toNat = rows.length by omega] at this
    refine for_it (walk_rangeC (lo := ((rows.length - 1 : Nat) : Int)) (c := -1) (n := rows.length)) (fun t σ H2 => t ≤ rows.length ∧ Ch (· = d) (upd H d (.dK [])) H2 ∧ H2 d = some (.dK (dkN (needTo rows t))) ∧ ∃ x2, σ = [some (.ref ar), some (.ref d), x2]) ?_ ?_ ?_ ?_
    · exact ⟨Nat.zero_le _, c1, h1d, _, rfl⟩
    · intro _ _ _ _ _; trivial
    · rintro t x σ H2 H3 ht ⟨hle, c2, hd2, x2, rfl⟩ ⟨rfl, hx⟩
      have hx : x = .int ((rows.length - 1 - t : Nat) : Int) := by
        rw [hx]
        show V.int (((rows.length - 1 : Nat) : Int) + (t : Int) * -1) = _
        rw [show (((rows.length - 1 : Nat) : Int) + (t : Int) * -1) = ((rows.length - 1 - t : Nat) : Int) by omega]
      subst hx
      have es : needTo rows (t + 1) = nstep rows (needTo rows t) (rows.length - 1 - t) := range_fold _ _ _
      have hi : rows.length - 1 - t < rows.length := by omega
      generalize hii : rows.length - 1 - t = i at *
      have er : (rows.map eRow)[i]? = some (eRow (rows.getD i (.num 0))) := by
        rw [List.getElem?_map, List.getD_eq_getElem?_getD, List.getElem?_eq_getElem hi]; rfl
      have s2 : Same H H3 := sameNew hd c2
      obtain ⟨vr, evr, tvr0⟩ := ts.get er
      have tvr := tvr0.up (.of s2)
      obtain ⟨br, yr, rfl, tqr⟩ := tvr.row_head
      refine ⟨_, rfl, _, rfl, d, _, rfl, DGet.k (k := Sum.inl (i : Int)) hd2, _, rfl, ?_⟩
      rw [dk_val]
      by_cases hin : i ∈ needTo rows t
      · refine iteY (decide_eq_true hin) ?_
        refine ⟨_, rfl, _, rfl, ar, xr, _, _, rfl, rfl, (tr.up (.of s2)).sq, atI_nat evr, _, _, _, _, rfl, rfl, tqr.sq, a0, two_le, fun tt htt => ?_⟩
        have s4 : Same H3 (upd H3 tt (.tup [.str "number", .str "letter"])) := Same.new htt
        refine ⟨tt, _, rfl, .inr (.inl (.inl upd_same)), rfl, rfl, _, rfl, ?_⟩
        rw [if_pos rfl, bare_in]
        have hd4 := s4 _ _ hd2
        have c4 : Ch (· = d) (upd H d (.dK [])) (upd H3 tt (.tup [.str "number", .str "letter"])) := c2.same s4
        generalize upd H3 tt (.tup [.str "number", .str "letter"]) = H4 at s4 hd4 c4 ⊢
        cases e : rows.getD i (.num 0) with
        | num qn =>
          refine iteN rfl ⟨by omega, c4, ?_, _, rfl⟩
          rw [es, show nstep rows (needTo rows t) i = needTo rows t by unfold nstep; rw [if_pos hin, e]]
          exact hd4
        | let_ c =>
          refine iteN rfl ⟨by omega, c4, ?_, _, rfl⟩
          rw [es, show nstep rows (needTo rows t) i = needTo rows t by unfold nstep; rw [if_pos hin, e]]
          exact hd4
        | op wd a b =>
          rw [e] at tvr
          obtain ⟨br', ebr, tqo⟩ := tvr.row_op
          cases ebr
          have s24 := L2.Same.trans s2 s4
          have tr4 := tr.up (.of s24)
          have tq4 := tqo.up (.of s4)
          refine iteY rfl ?_
          have okn := needTo_ok wf h0 t
          have l1 := nd_len okn.nd okn.lt
          have big : (100 : Nat) < sizeLine := by decide
          have ld : ∀ ks : List Nat, (dkN ks).length = ks.length := fun ks => List.length_map ..
          refine ⟨_, rfl, _, rfl, _, rfl, ar, xr, _, _, rfl, rfl, tr4.sq, atI_nat evr, _, _, _, _, rfl, rfl, tq4.sq, a1, d, _, rfl, DPut.k (k := Sum.inl (a : Int)) hd4 (by rw [ld]; omega), ?_⟩
          rw [dk_put]
          have c5 : Ch (· = d) H4 (upd H4 d (.dK (dkN (insN (needTo rows t) a)))) := Ch.put rfl hd4 (fun _ z => by cases z)
          have hd5 : upd H4 d (.dK (dkN (insN (needTo rows t) a))) d = some (.dK (dkN (insN (needTo rows t) a))) := upd_same
          generalize upd H4 d (.dK (dkN (insN (needTo rows t) a))) = H5 at c5 hd5 ⊢
          have l2 : (insN (needTo rows t) a).length ≤ (needTo rows t).length + 1 := by
            unfold insN; split
            · omega
            · rw [List.length_append]; exact Nat.le_refl _
          refine ⟨_, rfl, _, rfl, _, rfl, ar, xr, _, _, rfl, rfl, (tr4.up c5.kp).sq, atI_nat evr, _, _, _, _, rfl, rfl, (tq4.up c5.kp).sq, a2, d, _, rfl, DPut.k (k := Sum.inl (b : Int)) hd5 (by rw [ld]; omega), ?_⟩
          rw [dk_put]
          refine ⟨by omega, (c4.trans c5).trans (Ch.put rfl hd5 (fun _ z => by cases z)), ?_, _, rfl⟩
          rw [es, show nstep rows (needTo rows t) i = insN (insN (needTo rows t) a) b by unfold nstep; rw [if_pos hin, e]]
          exact upd_same
      · refine iteN (decide_eq_false hin) (iteN rfl ⟨by omega, c2, ?_, _, rfl⟩)
        rw [es, show nstep rows (needTo rows t) i = needTo rows t by unfold nstep; rw [if_neg hin]]
        exact hd2
    · rintro σ H2 ⟨_, c2, hd2, x2, rfl⟩
      have okn := needTo_ok wf h0 rows.length
      have l1 := nd_len okn.nd okn.lt
      refine ⟨_, rfl, d, dkN (needTo rows rows.length), (needTo rows rows.length).map fun (n : Nat) => (n : Int), rfl, .inl hd2, ?_, by rw [List.length_map]; omega, fun ys p hp hs hpn => ?_⟩
      · unfold dkN
        rw [List.map_map, List.map_map]
        rfl
      · have ey : ys = (needF rows).map fun (n : Nat) => (n : Int) := by
          refine List.Perm.eq_of_pairwise (le := (· ≤ ·)) (fun a b _ _ h1 h2 => Int.le_antisymm h1 h2) hs ?_ ?_
          · unfold needF
            have := List.pairwise_mergeSort (le := fun a b : Nat => decide (a ≤ b)) (by simp; intro a b c; omega) (by simp; omega) (needTo rows rows.length)
            refine List.pairwise_map.mpr (this.imp fun {a b} h => ?_)
            have : a ≤ b := by simpa using h
            omega
          · exact hp.trans ((List.mergeSort_perm _ _).symm.map _)
        have s2 : Same H H2 := sameNew hd c2
        refine q _ p (L2.Same.trans s2 (Same.new hpn)) (none_of_same s2 hpn) ?_
        rw [upd_same, ey, List.map_map]
        rfl
end
end U
set_option Elab.async false
set_option linter.all false
set_option maxRecDepth 100000
set_option maxHeartbeats 4000000
/-! undivided. -/
namespace U
open PySem PySem.Spec PyProof.Rows L2
def uStep (R : Rul) (i : Nat) (M : Mkr) (k : Nat) : Mkr := if canTold R i (k + 1) = true then mmark M (mkI i (k + 1)) (rget R i (k + 1)) else M
def uRow (R : Rul) (most : Nat) (M : Mkr) (i : Nat) : Mkr := (List.range most).foldl (uStep R i) M
/-- the maker behind j needed rows -/
def uTo (R : Rul) (rows : List Row) (most j : Nat) : Mkr := ((needF rows).take j).foldl (uRow R most) mEmp
def uIn (R : Rul) (rows : List Row) (most j i k : Nat) : Mkr := (List.range k).foldl (uStep R i) (uTo R rows most j)
def undF (rows : List Row) (pts : List Rat) (most : Nat) : Mkr := (mlast (uTo (rulesF rows pts most) rows most (needF rows).length) (lastF (rulesF rows pts most)) none).1
structure UndOk (rows : List Row) (pts : List Rat) (most : Nat) : Prop where
  rules : RulesOk rows pts most
  ne : 0 < rows.length
  few : rows.length < 64
  parts : PartsOk rows
  lf : LastFOk (rulesF rows pts most)
  each : ∀ j i k, (needF rows)[j]? = some i → k < most → canTold (rulesF rows pts most) i (k + 1) = true → LastOk (uIn (rulesF rows pts most) rows most j i k) (rget (rulesF rows pts most) i (k + 1)) ∧ (uIn (rulesF rows pts most) rows most j i k).off < 1000
  last : LastOk (uTo (rulesF rows pts most) rows most (needF rows).length) (lastF (rulesF rows pts most))
def eUnd (ls : List Str) (M : Mkr) : PyData := .tuple [eRk ls M.rows, .tuple (M.paper.map eOM)]
theorem rk_rules (rows : List Row) (pts : List Rat) (most : Nat) : RK (rulesF rows pts most) (rul0 rows pts most) := rk_ifold _ _
theorem need_lt {rows : List Row} (wf : PartsOk rows) (h0 : 0 < rows.length) {i : Nat} (h : i ∈ needF rows) : i < rows.length := (needTo_ok wf h0 rows.length).lt i (List.mem_mergeSort.mp h)
section
variable {P : Program} {w : World} {K : PySem.W.Frag} {mg : Str → Option Value} {base : Heap} {CM CR CN fI : Addr}
def spUnd (K : PySem.W.Frag) : Sp := fun vs H Q _ => ∃ (rk vp : V) (ls : List Str) (rows : List Row) (pts : List Rat) (most : Nat), vs = [rk, vp, .int most] ∧ TD K H rk (eRk ls rows) ∧ TD K H vp (.tuple (pts.map eF)) ∧ UndOk rows pts most ∧
  ∀ H' v, Same H H' → TD K H' v (eUnd ls (undF rows pts most)) → Q v H'
theorem sc_undivided : FnScope ["reckoning", "point", "most", "rules", "maker", "i", "k"] ["reckoning", "point", "most"] (defScope s_undivided) := ⟨rfl, rfl, rfl, by decide +kernel, rfl, by decide +kernel, by decide +kernel⟩
theorem f_undivided (T : Txt K mg) (TN : NoOv K mg CN fI) (TR : RulT K mg CR) (TM : MkrT K mg CM) : Cal P w K mg base 10 "undivided" (spUnd K) := by
  refine cal_of T.a_undivided sc_undivided (fun _ _ _ _ _ _ us hl => match us, hl with | [_, _, _], _ => rfl) (fun vs H Q E h => ?_) (fun fa cdv A outer s H vs Q E hr h => ?_)
  · obtain ⟨_, _, _, _, _, _, rfl, _⟩ := h
    rfl
  · obtain ⟨rk, vp, ls, rows, pts, most, rfl, hk, hp, ok, q⟩ := h
    refine ⟨_, (pss_cons (ps_set (i := 3) sc_undivided.nd rfl (Or.inl rfl) (C8.pe_mk (mk_Rules T TN TR) hr (by decide) (by rfl) (pa_cons (pv 0) (pa_cons (pv 1) (pa_cons (pv 2) pa_nil)))))
(pss_cons (ps_set (i := 4) sc_undivided.nd rfl (Or.inl rfl) (pe_mk0 (mk_Maker T TM) hr (by decide) (by rfl)))
(pss_cons (ps_for PassesOwn.never rfl (pi_list (pe_c (f_needed_rows T) hr (by decide) (by rfl) (pa_cons (pe_ix ix_tup (pv 0) pe_int (fun _ _ => rfl)) pa_nil))) (pg_name (i := 5) sc_undivided.nd rfl (Or.inl rfl))
(pss_one (ps_for PassesOwn.never rfl (pi_range2 (by rfl) T.b_range (pa_cons pe_int (pa_cons (pe_op op_add (pv 2) pe_int) pa_nil))) (pg_name (i := 6) sc_undivided.nd rfl (Or.inl rfl))
(pss_one (ps_if (pt_val (C8.pe_mt (r_can_be_told T TR) hr (by decide) (pv 3) (pa_cons (pe_tup (pa_cons (pv 5) (pa_cons (pv 6) pa_nil))) pa_nil)))
(pss_one (ps_expr (C8.pe_mt (m_mark_row T TM) hr (by decide) (pv 4) (pa_cons (pe_tup (pa_cons (pv 5) (pa_cons (pv 6) pa_nil))) (pa_cons (pe_nget (rhu hr) (pe_fld (pv 3) rfl) (pe_tup (pa_cons (pv 5) (pa_cons (pv 6) pa_nil))) (fun _ _ => rfl)) pa_nil)))))
pss_nil)))))
(pss_cons (ps_expr (C8.pe_mt (m_last_of1 T TM) hr (by decide) (pv 4) (pa_cons (C8.pe_mt0 (r_last_form T TR) hr (by decide) (pv 3)) pa_nil)))
(pss_one (ps_ret (pe_tup (pa_cons (pe_tup (pa_cons (pe_ix ix_tup (pv 0) pe_int (fun _ _ => rfl)) (pa_cons (pe_callTy call_tuple_of (by rfl) T.b_tuple (by decide +kernel) (pa_cons (pe_fld (pv 4) rfl) pa_nil)) pa_nil))) (pa_cons (pe_callTy call_tuple_of (by rfl) T.b_tuple (by decide +kernel) (pa_cons (pe_fld (pv 4) rfl) pa_nil)) pa_nil))))))))), ?_⟩
    obtain ⟨ak, vl, vr0, rfl, tk, tl, tr⟩ := hk.rk
    have oml := ok.rules.low
    refine ⟨_, rfl, _, rfl, _, rfl, fun a dxa ha hdxa hne => ?_⟩
    have sA : Same H (upd (upd H dxa (.own a)) a (.ins CR dxa [])) := L2.Same.trans (Same.new hdxa) (Same.new (by rw [upd_ne (Ne.symm hne)]; exact ha))
    refine ⟨a, dxa, _, vp, ls, rows, pts, most, rfl, upd_same, hk.up (.of sA), hp.up (.of sA), ok.rules, fun H1 cl d vr c1 ru => ⟨rfl, ?_⟩⟩
    have s1 : Same H H1 := fun b u e => c1.keep b u (ne_of_none e ha) (sA b u e)
    generalize hR : rulesF rows pts most = R at *
    intro m dxm hm hdxm hnem
    have sM : Same H1 (upd (upd H1 dxm (.own m)) m (.ins CM dxm [])) := L2.Same.trans (Same.new hdxm) (Same.new (by rw [upd_ne (Ne.symm hnem)]; exact hm))
    refine ⟨m, dxm, rfl, upd_same, fun H2 r p dm c2 hr0 hp0 hd0 mk => ⟨rfl, ?_⟩⟩
    have s2 : Same H1 H2 := fun b u e => c2.keep b u (ne_of_none e hm) (sM b u e)
    have fresh : ∀ b, MS r p dm b → H1 b = none := fun b z => none_of_same sM (by
      rcases z with z | z | z
      · rw [z]; exact hr0
      · rw [z]; exact hp0
      · rw [z]; exact hd0)
    have s02 := L2.Same.trans s1 s2
    refine ⟨_, rfl, _, _, _, _, rfl, rfl, (tk.up (.of s02)).sq, a1, vr0, rows, rfl, tr.up (.of s02), ok.ne, ok.few, ok.parts, fun H3 nl s3 hnl hl => ?_⟩
    have s13 := L2.Same.trans s2 s3
    -- what holds through the loops
    have nlS : ¬ MS r p dm nl := fun z => by
      have : H2 nl ≠ none := by
        rcases z with z | z | z
        · obtain ⟨xs, h, _⟩ := mk.rows; rw [z, h]; simp
        · obtain ⟨xs, h, _⟩ := mk.paper; rw [z, h]; simp
        · obtain ⟨o, F, h, _⟩ := mk.known; rw [z, h.at_]; simp
      exact this hnl
    refine ⟨_, rfl, ⟨_, .of hl⟩, ?_⟩
    have ll : ((needF rows).map fun (n : Nat) => V.int (n : Int)).length = (needF rows).length := List.length_map ..
    refine for_it (walk_list (xs := (needF rows).map fun (n : Nat) => V.int (n : Int))) (fun j σ H4 => j ≤ (needF rows).length ∧ Ch (MS r p dm) H3 H4 ∧ MK P w K CM H4 m dxm r p dm (uTo R rows most j) ∧ ∃ x5 x6, σ = [some (.ref ak), some vp, some (.int most), some (.ref a), some (.ref m), x5, x6]) ?_ ?_ ?_ ?_
    · exact ⟨Nat.zero_le _, Ch.refl _ _, mk.same s3, _, _, rfl⟩
    · rintro j σ H4 _ ⟨_, c4, _⟩
      exact .of (c4.keep _ _ nlS hl)
    · rintro j x σ H4 H5 hj ⟨hle, c4, mk4, x5, x6, rfl⟩ ⟨rfl, ex⟩
      rw [List.getElem?_map] at ex
      obtain ⟨i, ei, rfl⟩ := Option.map_eq_some_iff.mp ex
      have hi : i < rows.length := need_lt ok.parts ok.ne (List.mem_of_getElem? ei)
      refine ⟨_, rfl, _, _, rfl, rfl, 1, _, rfl, ⟨by omega, by omega, by omega, by omega⟩, ?_⟩
      have em : ((most : Int) + 1 - 1).toNat = most := by omega
      rw [em]
      refine for_it (walk_range (lo := 1) (n := most)) (fun k σ H6 => k ≤ most ∧ Ch (MS r p dm) H3 H6 ∧ MK P w K CM H6 m dxm r p dm (uIn R rows most j i k) ∧ ∃ x6, σ = [some (.ref ak), some vp, some (.int most), some (.ref a), some (.ref m), some (.int (i : Nat)), x6]) ?_ ?_ ?_ ?_
      · exact ⟨Nat.zero_le _, c4, mk4, _, rfl⟩
      · intro _ _ _ _ _; trivial
      · rintro k x σ H6 H7 hk' ⟨hle', c6, mk6, y6, rfl⟩ ⟨rfl, hx⟩
        have hx : x = .int ((k + 1 : Nat) : Int) := by rw [hx]; show V.int (1 + (k : Int)) = _; rw [show (1 + (k : Int)) = ((k + 1 : Nat) : Int) by omega]
        subst hx
        have s16 : Same H1 H7 := fun b u e => c6.keep b u (fun z => by rw [fresh b z] at e; cases e) (s13 b u e)
        have ru6 := ru.same s16
        have rkR : RK R (rul0 rows pts most) := by rw [← hR]; exact rk_rules rows pts most
        have hiR : i < R.rows.length := by rw [rkR.rows]; exact hi
        refine ⟨_, rfl, a, dxa, _, rfl, ru6.ins, rfl, _, rfl, _, rfl, two_le, fun t ht => ?_⟩
        have s7 : Same H7 (upd H7 t (.tup [.int i, .int ((k + 1 : Nat) : Int)])) := Same.new ht
        have tdm : TD K (upd H7 t (.tup [.int i, .int ((k + 1 : Nat) : Int)])) (.ref t) (eK (mkI i (k + 1))) := TD.mark (m := mkI i (k + 1)) (.inl upd_same)
        refine ⟨a, dxa, cl, d, vr, vp, _, R, i, k + 1, rfl, ru6.same s7, tdm, hiR, _, rfl, ?_⟩
        have eu : uIn R rows most j i (k + 1) = uStep R i (uIn R rows most j i k) k := range_fold _ _ _
        generalize upd H7 t (.tup [.int i, .int ((k + 1 : Nat) : Int)]) = H8 at s7 tdm ⊢
        have mk8 := mk6.same s7
        have ru8 := ru6.same s7
        have c8 := c6.same s7
        cases hc : canTold R i (k + 1) with
        | false =>
          refine iteN rfl ⟨by omega, c8, ?_, _, rfl⟩
          rw [eu, show uStep R i (uIn R rows most j i k) k = uIn R rows most j i k by unfold uStep; rw [hc]; rfl]
          exact mk8
        | true =>
          refine iteY rfl ?_
          obtain ⟨lok, loff⟩ := ok.each j i k ei hk' (by rw [hR]; exact hc)
          rw [hR] at lok loff
          refine ⟨_, rfl, m, dxm, _, rfl, mk8.ins, rfl, _, rfl, _, rfl, two_le, fun t2 ht2 => ?_⟩
          have s9 : Same H8 (upd H8 t2 (.tup [.int i, .int ((k + 1 : Nat) : Int)])) := Same.new ht2
          have tdm9 : TD K (upd H8 t2 (.tup [.int i, .int ((k + 1 : Nat) : Int)])) (.ref t2) (eK (mkI i (k + 1))) := TD.mark (m := mkI i (k + 1)) (.inl upd_same)
          generalize upd H8 t2 (.tup [.int i, .int ((k + 1 : Nat) : Int)]) = H9 at s9 tdm9 ⊢
          have ru9 := ru8.same s9
          refine ⟨_, rfl, a, CR, dxa, _, .ref d, rfl, ru9.ins, TR.cls, TR.n_rules, rfl, _, rfl, _, rfl, two_le, fun t3 ht3 => ?_⟩
          have s10 : Same H9 (upd H9 t3 (.tup [.int i, .int ((k + 1 : Nat) : Int)])) := Same.new ht3
          have tdm10 : TD K (upd H9 t3 (.tup [.int i, .int ((k + 1 : Nat) : Int)])) (.ref t3) (eK (mkI i (k + 1))) := TD.mark (m := mkI i (k + 1)) (.inl upd_same)
          generalize upd H9 t3 (.tup [.int i, .int ((k + 1 : Nat) : Int)]) = H10 at s10 tdm10 ⊢
          obtain ⟨o, F, nd1, rt1⟩ := ru.rules
          have s110 : Same H1 H10 := L2.Same.trans s16 (L2.Same.trans s7 (L2.Same.trans s9 s10))
          have nd := nd1.same s110
          have hsome : (tget R.rules (mkI i (k + 1))).isSome = true := by
            unfold canTold at hc
            rw [Bool.and_eq_true] at hc
            exact hc.1
          obtain ⟨g, eg⟩ := Option.isSome_iff_exists.mp hsome
          obtain ⟨vg, e1, bg, rfl, fd1, ne⟩ := rt1.val_some keyKi eg
          have fd := fd1.same s110
          have erg : rget R i (k + 1) = g := by unfold rget; rw [eg]; rfl
          have bgd : bg ≠ dm := fun z => by
            obtain ⟨og, Fg, ng, _⟩ := fd1.ex
            have := ng.at_
            rw [z, fresh dm (.inr (.inr rfl))] at this
            cases this
          refine ⟨d, o, F, keyK (mkI i (k + 1)), t3, _, rfl, rfl, nd, kyK_of tdm10, e1, ?_⟩
          rw [erg] at lok
          refine ⟨m, dxm, r, p, dm, bg, _, g, _, mkI i (k + 1), rfl, (mk8.same s9).same s10, fd, bgd, tdm9.up (.of s10), lok, loff, fun H11 c11 mk11 => ?_⟩
          refine ⟨by omega, ((c8.same s9).same s10).trans c11, ?_, _, rfl⟩
          rw [eu, show uStep R i (uIn R rows most j i k) k = mmark (uIn R rows most j i k) (mkI i (k + 1)) g by unfold uStep; rw [hc, erg]; rfl]
          exact mk11
      · rintro σ H6 ⟨_, c6, mk6, y6, rfl⟩
        refine ⟨by omega, c6, ?_, _, _, rfl⟩
        have : uTo R rows most (j + 1) = uIn R rows most j i most := by
          unfold uTo uIn
          rw [List.take_add_one, ei, List.foldl_append]
          rfl
        rw [this]
        exact mk6
    · rintro σ H4 ⟨_, c4, mk4, x5, x6, rfl⟩
      rw [ll] at mk4
      have s14 : Same H1 H4 := fun b u e => c4.keep b u (fun z => by rw [fresh b z] at e; cases e) (s13 b u e)
      have ru4 := ru.same s14
      refine ⟨_, rfl, m, dxm, _, rfl, mk4.ins, rfl, _, rfl, a, dxa, _, rfl, ru4.ins, rfl, a, dxa, cl, d, vr, vp, R, rfl, ru4, by have := ok.lf; rw [hR] at this; exact this, fun H5 b5 s5 hb5 fd5 => ?_⟩
      have lk := ok.last
      rw [hR] at lk
      have mk5 := mk4.same s5
      have b5d : b5 ≠ dm := fun z => by
        obtain ⟨o, F, nd, _⟩ := mk4.known
        have := nd.at_
        rw [← z, hb5] at this
        cases this
      refine ⟨m, dxm, r, p, dm, b5, _, _, .non, none, rfl, mk5, fd5, b5d, .non, lk, fun H6 c6 mk6 => ?_⟩
      have s16 : Same H1 H6 := fun b u e => c6.keep b u (fun z => by rw [fresh b z] at e; cases e) (s5 b u (s14 b u e))
      have s06 := L2.Same.trans s1 s16
      obtain ⟨xs, hx, tx⟩ := mk6.rows
      obtain ⟨ys, hy, ty⟩ := mk6.paper
      refine ⟨_, rfl, _, _, _, _, rfl, rfl, (tk.up (.of s06)).sq, a0, _, rfl, m, CM, dxm, _, .ref r, rfl, mk6.ins, TM.cls, TM.n_rows, rfl, r, xs, rfl, .inl ⟨.of hx, fun t1 ht1 => ⟨two_le, fun t2 ht2 => ?_⟩⟩⟩
      have s7 : Same H6 (upd H6 t1 (.tup xs)) := Same.new ht1
      have s8 : Same (upd H6 t1 (.tup xs)) (upd (upd H6 t1 (.tup xs)) t2 (.tup [vl, .ref t1])) := Same.new ht2
      have s68 := L2.Same.trans s7 s8
      have mk8 := mk6.same s68
      have td2 : TD K (upd (upd H6 t1 (.tup xs)) t2 (.tup [vl, .ref t1])) (.ref t2) (eRk ls (mlast (uTo R rows most (needF rows).length) (lastF R) none).1.rows) :=
        .tup (.inl upd_same) (.cons (tl.up (.of (L2.Same.trans s06 s68))) (.cons (.tup (.inl (s8 _ _ upd_same)) (tx.up (.of s68))) .nil))
      generalize upd (upd H6 t1 (.tup xs)) t2 (.tup [vl, .ref t1]) = H8 at s8 s68 mk8 td2 ⊢
      refine ⟨_, rfl, m, CM, dxm, _, .ref p, rfl, mk8.ins, TM.cls, TM.n_paper, rfl, p, ys, rfl, .inl ⟨.of (s68 _ _ hy), fun t3 ht3 => ⟨two_le, fun t4 ht4 => ?_⟩⟩⟩
      have s9 : Same H8 (upd H8 t3 (.tup ys)) := Same.new ht3
      have s10 : Same (upd H8 t3 (.tup ys)) (upd (upd H8 t3 (.tup ys)) t4 (.tup [.ref t2, .ref t3])) := Same.new ht4
      refine q _ _ (L2.Same.trans s06 (L2.Same.trans s68 (L2.Same.trans s9 s10))) ?_
      have eU : undF rows pts most = (mlast (uTo R rows most (needF rows).length) (lastF R) none).1 := by unfold undF; rw [hR]
      rw [eU]
      exact .tup (.inl upd_same) (.cons (td2.up (.of (L2.Same.trans s9 s10))) (.cons (.tup (.inl (s10 _ _ upd_same)) (ty.up (.of (L2.Same.trans s68 (L2.Same.trans s9 s10))))) .nil))
end
end U
set_option Elab.async false
set_option linter.all false
set_option maxRecDepth 100000
set_option maxHeartbeats 4000000
/-! Rules within a comprehension: what they hold of the text is told from without. -/
namespace U
open PySem PySem.Spec PyProof.Rows L2
section
variable {X : Cx} {K : PySem.W.Frag} {P : Program} {w : World}
theorem ix_tupB (hK : X.K = K) : IxR X (rIxT K) := by subst hK; exact ix_tup
theorem ix_listB (hK : X.K = K) : IxR X (rIxL K) := by subst hK; exact ix_list
theorem pg_tupB {es : List Expr} {k : Nat} {t : TGs} {n : Nat} {pos : Pos} (hK : X.K = K) (hc : X.calm = true) (h : PGs X es t)
    (hn : (assignEach es X.env).length = n := by rfl) (hst : (assignEach es X.env).findIdx? (·.1) = none := by rfl) : PG X (.Tuple es k pos) (gTup K n t) := by subst hK; exact pg_tup hc h hn hst
theorem op_neDB (hK : X.K = K) (hu : X.A.units + 64 < cLine) : OpR X (compareOp .NotEq) (rNeD K) := by subst hK; exact op_neD hu
theorem op_eqDB (hK : X.K = K) (hu : X.A.units + 64 < cLine) : OpR X (compareOp .Eq) (rEqD K) := by subst hK; exact op_eqD hu
theorem op_catDB (hK : X.K = K) : OpR X (binaryOp .Add) (rCatD K) := by subst hK; exact op_catD
theorem pe_conB {x : Str} {i j : Int} {pos : Pos} (hK : X.K = K) (h : ConAt X.K X.mg x i j) (hg : Gl X x) (hd : (x == ("__debug__" : Str)) = false := by decide) : PE X (.Name x pos) (tCon K i j) := by subst hK; exact pe_con h hg hd
theorem pe_ngetP {o i : Expr} {pos : Pos} {td ty : TE} (hP : X.prog = P) (hw : X.w = w) (hK : X.K = K) (hu : X.A.units + 64 < cLine) (ho : PE X o td) (hi : PE X i ty) (hs : NoSl i) : PE X (.Subscript o i pos) (tNGet P w K td ty) := pe_ngetB hP hw hK hu ho hi hs
/-- a list (b) or a tuple -/
def SqB (K : PySem.W.Frag) (H : Hp) (a : Addr) (b : Bool) (xs : List V) : Prop := match b with
  | true => SqL K H a xs
  | false => SqT K H a xs
def ItA (K : PySem.W.Frag) (b : Bool) (a : Addr) : It := match b with
  | true => Itl K a
  | false => Itt K a
theorem walk_any {K : PySem.W.Frag} {a : Addr} {b : Bool} {xs : List V} : Walk (ItA K b a) xs.length (fun H => SqB K H a b xs) (YAt xs) := by
  cases b with
  | true => exact walk_list
  | false => exact walk_tup
def iAny (K : PySem.W.Frag) (tl : TE) : TI := fun σ H R => tl σ H fun x H1 => ∃ a b, x = .ref a ∧ (∃ xs, SqB K H1 a b xs) ∧ R (ItA K b a) H1
theorem pi_any {tg l : Expr} {tl : TE} (hl : PE X l tl) : PI X tg l (iAny X.K tl) := by
  refine ⟨fun pins s σ H R I h => ?_⟩
  refine thn (hl.run pins s σ H _ I h) fun v s1 ⟨x, H1, I1, r1, q1⟩ => ?_
  obtain ⟨a, b, e, ⟨xs, hq⟩, q⟩ := q1
  subst e
  cases r1
  cases b with
  | true =>
    obtain ⟨its, rv, p, hz⟩ := I1.list hq
    refine wpAny_pyIter_list p.isList ?_
    refine ⟨s1.heap.objs.size, [s1.heap.objs.size], _, _, H1, rfl, I1.kept (t' := s1.toks) fun b o e => Heap.get?_push_of_some _ e, turn_list a _, ⟨_, Heap.get?_push_size _ rfl, rfl, rfl⟩, fun b hb => ?_, q⟩
    have e : b = s1.heap.objs.size := by simpa using hb
    subst e
    exact I1.fpOk (Nat.le_refl _) (I1.hok.fresh (Nat.le_refl _))
  | false =>
    obtain ⟨its, rv, p, hz⟩ := I1.tuple hq
    refine wpAny_pyIter_tuple (show s1.heap.IsTuple a its.toArray from p) ?_
    refine ⟨s1.heap.objs.size, [s1.heap.objs.size], _, _, H1, rfl, I1.kept (t' := s1.toks) fun b o e => Heap.get?_push_of_some _ e, turn_tuple a _, ⟨_, Heap.get?_push_size _ rfl, rfl, rfl⟩, fun b hb => ?_, q⟩
    have e : b = s1.heap.objs.size := by simpa using hb
    subst e
    exact I1.fpOk (Nat.le_refl _) (I1.hok.fresh (Nat.le_refl _))
end
end U
set_option Elab.async false
set_option linter.all false
set_option maxRecDepth 100000
set_option maxHeartbeats 4000000
/-! Polynomials: the plain functions, poly, turned. -/
namespace U
open PySem PySem.Spec PyProof.Rows L2
open PySem.W (EachIs AllAlike dataLe dataKind SortsAt)
abbrev Pw := List Nat
abbrev Poly := List (Pw × Rat)
def kPw (p : Pw) : NestedKey := .tup (p.map fun (n : Nat) => .num (n : Int))
def ePw (p : Pw) : PyData := .tuple (p.map fun (n : Nat) => .int (n : Int))
def eTm (t : Pw × Rat) : PyData := .tuple [ePw t.1, eF t.2]
def ePoly (p : Poly) : PyData := .tuple (p.map eTm)
theorem datas_num : ∀ p : Pw, NestedKey.datas (p.map fun (n : Nat) => .num (n : Int)) = p.map fun (n : Nat) => .int (n : Int)
  | [] => by simp [NestedKey.datas]
  | n :: p => by rw [List.map_cons, List.map_cons, NestedKey.datas, datas_num p]; simp [NestedKey.data]
theorem kPw_data (p : Pw) : (kPw p).data = ePw p := by rw [kPw, NestedKey.data, datas_num, ePw]
theorem kPw_depth (p : Pw) : (kPw p).depth ≤ 8 := by
  have key : ∀ p : Pw, NestedKey.depthAll (p.map fun (n : Nat) => .num (n : Int)) ≤ 1 := fun p => by
    induction p with
    | nil => simp [NestedKey.depthAll]
    | cons n p ih =>
      rw [List.map_cons, NestedKey.depthAll]
      have : (NestedKey.num (n : Int)).depth ≤ 1 := by simp [NestedKey.depth]
      omega
  rw [kPw, NestedKey.depth]
  have := key p
  omega
theorem nums_inj : ∀ {p q : Pw}, (p.map fun (n : Nat) => NestedKey.num (n : Int)) = q.map (fun (n : Nat) => NestedKey.num (n : Int)) → p = q
  | [], [], _ => rfl
  | [], _ :: _, h => by cases h
  | _ :: _, [], h => by cases h
  | a :: p, b :: q, h => by
    rw [List.map_cons, List.map_cons] at h
    injection h with h1 h2
    injection h1 with h1
    rw [nums_inj h2, show a = b by omega]
theorem kPw_inj : ∀ a b : Pw, kPw a = kPw b → a = b := fun a b h => by
  unfold kPw at h
  injection h with h
  exact nums_inj h
def accStep (G : Poly) (t : Pw × Rat) : Poly := tput G t.1 ((tget G t.1).getD 0 + t.2)
def accF (ts : Poly) : Poly := ts.foldl accStep []
def pkeys (G : Poly) : List Pw := (G.map (·.1)).mergeSort (dataLe false ePw)
def outF (G : Poly) (ks : List Pw) : Poly := (ks.filter fun k => decide (¬ (tget G k).getD 0 = 0)).map fun k => (k, (tget G k).getD 0)
def polyF (ts : Poly) : Poly := outF (accF ts) (pkeys (accF ts))
def turnF (p : Poly) : Poly := p.map fun t => (t.1, 0 - t.2)
def addP (a b : Pw) : Pw := a.zipWith (· + ·) b
def mulTs (a b : Poly) : Poly := a.flatMap fun t => b.map fun u => (addP t.1 u.1, t.2 * u.2)
structure PolyOk (ts : Poly) : Prop where
  len : ts.length < sizeLine
  sz : ∀ t ∈ ts, Sz 4400 t.2
  acc : ∀ i, i ≤ ts.length → ∀ t ∈ accF (ts.take i), Sz 4400 t.2
theorem acc_len : ∀ (ts : Poly) (G : Poly), (ts.foldl accStep G).length ≤ G.length + ts.length
  | [], G => by simp
  | t :: ts, G => by
    rw [List.foldl_cons, List.length_cons]
    have h1 := acc_len ts (accStep G t)
    have h2 : (accStep G t).length ≤ G.length + 1 := len_put _ _ _
    omega
theorem accF_take {ts : Poly} {i : Nat} {t : Pw × Rat} (h : ts[i]? = some t) : accF (ts.take (i + 1)) = accStep (accF (ts.take i)) t := by
  unfold accF
  rw [List.take_add_one, h, List.foldl_append]
  rfl
section
variable {K : PySem.W.Frag} {H : Hp}
theorem TD.tm {v : V} {t : Pw × Rat} (h : TD K H v (eTm t)) : ∃ a vk vf, v = .ref a ∧ Tq K H a [vk, vf] ∧ TD K H vk (ePw t.1) ∧ TD K H vf (eF t.2) := by
  obtain ⟨a, xs, rfl, ht, hs⟩ := h.tup_inv
  cases hs with
  | cons h1 hs => cases hs with
    | cons h2 hs => cases hs with
      | nil => exact ⟨a, _, _, rfl, ht, h1, h2⟩
theorem TD.of_tm {a : Addr} {vk vf : V} {t : Pw × Rat} (h : Tq K H a [vk, vf]) (h1 : TD K H vk (ePw t.1)) (h2 : TD K H vf (eF t.2)) : TD K H (.ref a) (eTm t) := .tup h (.cons h1 (.cons h2 .nil))
theorem TD.pw {v : V} {p : Pw} (h : TD K H v (ePw p)) : ∃ a xs, v = .ref a ∧ Tq K H a xs ∧ TDs K H xs (p.map fun (n : Nat) => .int (n : Int)) := h.tup_inv
theorem kyP_of {b : Addr} {p : Pw} (h : TD K H (.ref b) (ePw p)) : KyAt K H b (kPw p) := ⟨by rw [kPw_data]; exact h, kPw_depth p⟩
theorem alike_nums : ∀ (a b : Pw), PySem.W.alikeAll (a.map fun (n : Nat) => .int (n : Int)) (b.map fun (n : Nat) => .int (n : Int)) = true
  | [], _ => rfl
  | _ :: _, [] => rfl
  | x :: a, y :: b => by
    show (PySem.W.alike (.int (x : Int)) (.int (y : Int)) && PySem.W.alikeAll (a.map fun (n : Nat) => .int (n : Int)) (b.map fun (n : Nat) => .int (n : Int))) = true
    rw [alike_nums a b]; rfl
theorem alike_ePw (a b : Pw) : PySem.W.alike (ePw a) (ePw b) = true := alike_nums a b
theorem depth_ePw (m : Pw) : (ePw m).depth ≤ 8 := by
  have key : ∀ m : Pw, PyData.depthAll (m.map fun (n : Nat) => .int (n : Int)) ≤ 1 := fun m => by
    induction m with
    | nil => simp [PyData.depthAll]
    | cons p m ih =>
      rw [List.map_cons]
      have : (PyData.int (p : Int)).depth ≤ 1 := by simp [PyData.depth]
      simp only [PyData.depthAll]
      omega
  have := key m
  simp only [ePw, PyData.depth]
  omega
theorem sorted_pkeys {F : List (NestedKey × V)} {G : Poly} (h : RT kPw (RQ K H) F G) : (F.map (·.1)).mergeSort (dataLe false NestedKey.data) = (pkeys G).map kPw := by
  have e : F.map (·.1) = (G.map (·.1)).map kPw := by rw [h.keys, List.map_map]; rfl
  unfold pkeys
  rw [e, ← List.map_mergeSort]
  intro a _ b _
  unfold dataLe PySem.W.sortLe
  simp only [kPw_data]
theorem RQ.upP {H' : Hp} {F : List (NestedKey × V)} {G : Poly} (k : Kp H H') (h : RT kPw (RQ K H) F G) : RT kPw (RQ K H') F G := h.mono fun _ _ t => TD.up k t
end
/-- a list (b) or a tuple -/
def SeqB (K : PySem.W.Frag) (H : Hp) (v : V) (b : Bool) (xs : List V) : Prop := ∃ a, v = .ref a ∧ match b with
  | true => H a = some (.lst xs)
  | false => Tq K H a xs
theorem SeqB.same {K : PySem.W.Frag} {H H' : Hp} {v : V} {b : Bool} {xs : List V} (h : SeqB K H v b xs) (s : Same H H') : SeqB K H' v b xs := by
  obtain ⟨a, e, h⟩ := h
  refine ⟨a, e, ?_⟩
  cases b with
  | true => exact s _ _ h
  | false => exact h.up (.of s)
theorem SeqB.sq {K : PySem.W.Frag} {H : Hp} {a : Addr} {b : Bool} {xs : List V} (h : SeqB K H (.ref a) b xs) : SqB K H a b xs := by
  obtain ⟨a', e, h⟩ := h
  cases e
  cases b with
  | true => exact .of h
  | false => exact h.sq
section
variable {P : Program} {w : World} {K : PySem.W.Frag} {mg : Str → Option Value} {base : Heap}
def spPoly (K : PySem.W.Frag) : Sp := fun vs H Q _ => ∃ (v : V) (b : Bool) (xs : List V) (ts : Poly), vs = [v] ∧ SeqB K H v b xs ∧ TDs K H xs (ts.map eTm) ∧ PolyOk ts ∧ ∀ H' v, Same H H' → TD K H' v (ePoly (polyF ts)) → Q v H'
def N_poly : List Str := ["terms", "found", "powers", "f"]
theorem sc_poly : FnScope ["terms", "found", "powers", "f"] ["terms"] (defScope s_poly) := ⟨rfl, rfl, rfl, by decide +kernel, rfl, by decide +kernel, by decide +kernel⟩
theorem f_poly (T : Txt K mg) : Cal P w K mg base 4 "poly" (spPoly K) := by
  refine cal_of T.a_poly sc_poly (fun _ _ _ _ _ _ us hl => match us, hl with | [_], _ => rfl) (fun vs H Q E h => ?_) (fun fa cdv A outer s H vs Q E hr h => ?_)
  · obtain ⟨_, _, _, _, rfl, _⟩ := h
    rfl
  · obtain ⟨v, sb, xs, ts, rfl, hs, tx, ok, q⟩ := h
    refine ⟨_, (pss_cons (ps_set (i := 1) sc_poly.nd rfl (Or.inr rfl) pe_nnew)
(pss_cons (ps_for PassesOwn.never rfl (pi_any (pv 0)) (pg_tup (by rfl) (pgs_cons (pg_name (i := 2) sc_poly.nd rfl (Or.inl rfl)) (pgs_cons (pg_name (i := 3) sc_poly.nd rfl (Or.inl rfl)) pgs_nil)))
(pss_one (ps_nput (rhu hr) (pv 1) (pv 2) (pe_c (f_plus T) hr (by decide) (by rfl) (pa_cons (pe_nget2 (rhu hr) (pv 1) (pv 2) (pe_con T.k_nought (by rfl)) ⟨rfl, rfl, rfl, rfl⟩) (pa_cons (pv 3) pa_nil))) rfl)))
(pss_one (ps_ret (pe_callTy call_tuple_of (by rfl) T.b_tuple (by decide +kernel) (pa_cons (pe_lc (own := [("powers", 2)]) (g := gName 2) (by rfl) sc_poly.nd (pi_list (pe_callB (cr_sortedN rfl (rhu100 hr)) (by rfl) T.b_sorted (by decide +kernel) (pa_cons (pv 1) pa_nil))) (blkOk_by (N := N_poly) (sc := defScope s_poly) (by decide +kernel)) (fun _ _ _ _ _ => (pg_name (i := 2) sc_poly.nd rfl (Or.inl rfl))) (fun _ _ _ _ _ => pts_one (pt_cmpR (op_neDB (K := K) rfl (rhu hr)) (pe_ngetP rfl rfl rfl (rhu hr) (pv 1) (pv 2) (fun _ _ => rfl) (P := P) (w := w) (K := K)) (pe_conB (K := K) rfl T.k_nought (by rfl)) (nomark _))) (fun _ _ _ _ _ => (pe_tup (pa_cons (pv 2) (pa_cons (pe_ngetP rfl rfl rfl (rhu hr) (pv 1) (pv 2) (fun _ _ => rfl) (P := P) (w := w) (K := K)) pa_nil))))) pa_nil)))))), ?_⟩
    obtain ⟨va, rfl⟩ : ∃ va, v = .ref va := by obtain ⟨a, e, _⟩ := hs; exact ⟨a, e⟩
    have lx : xs.length = ts.length := by rw [tx.len, List.length_map]
    intro d hd n0
    have s0 : Same H (upd H d (pinO d emptyD)) := Same.new hd
    refine ⟨_, rfl, va, sb, rfl, ⟨xs, (hs.same s0).sq⟩, ?_⟩
    refine for_it (walk_any (xs := xs)) (fun i σ H1 => i ≤ ts.length ∧ Ch (· = d) (upd H d (pinO d emptyD)) H1 ∧ (∃ o F, NDo P w K H1 d o F ∧ RT kPw (RQ K H1) F (accF (ts.take i))) ∧ ∃ x2 x3, σ = [some (.ref va), some (.ref d), x2, x3]) ?_ ?_ ?_ ?_
    · exact ⟨Nat.zero_le _, Ch.refl _ _, ⟨emptyD, [], n0, .nil⟩, _, _, rfl⟩
    · rintro i σ H1 _ ⟨_, c, _⟩
      exact (hs.same (sameNew hd c)).sq
    · rintro i x σ H1 H2 hi ⟨hle, c, ⟨o, F, nd, rt⟩, x2, x3, rfl⟩ ⟨rfl, ex⟩
      have s2 : Same H H2 := sameNew hd c
      obtain ⟨dd, ed, tdd⟩ := (tx.up (.of s2)).get' ex
      rw [List.getElem?_map] at ed
      obtain ⟨t, et, rfl⟩ := Option.map_eq_some_iff.mp ed
      obtain ⟨ap, vk, vf, rfl, tq, tk, tf⟩ := tdd.tm
      obtain ⟨bk, xk, rfl, _, _⟩ := tk.pw
      have hit : i < ts.length := by omega
      have eacc := accF_take et
      have zacc := ok.acc i (by omega)
      refine ⟨ap, _, rfl, tq.sq, rfl, _, _, rfl, _, _, rfl, rfl, ?_⟩
      refine ⟨_, rfl, d, rfl, ⟨o, F, nd⟩, _, rfl, fun an tn => ⟨o, F, kPw t.1, bk, rfl, nd, kyP_of tk, _, rfl, ?_⟩⟩
      have ta : TD K H2 ((valV F (kPw t.1)).getD (.ref an)) (eF ((tget (accF (ts.take i)) t.1).getD 0)) := by
        rcases rt.val kPw_inj t.1 with ⟨h1, h2⟩ | ⟨v', b', h1, h2, h3⟩
        · rw [h1, h2]; exact td01 (tn _)
        · rw [h1, h2]; exact h3
      have za : Sz 4400 ((tget (accF (ts.take i)) t.1).getD 0) := by
        cases z : tget (accF (ts.take i)) t.1 with
        | none => exact sz0
        | some b => exact zacc _ (tget_mem z)
      refine ⟨_, _, _, _, rfl, ta, tf, ⟨za, ok.sz t (List.mem_of_getElem? et)⟩, fun H3 v3 s3 t3 => ?_⟩
      have la : (accF (ts.take i)).length < sizeLine := by
        have h1 := acc_len (ts.take i) []
        rw [List.length_nil, List.length_take] at h1
        have := ok.len
        show (List.foldl accStep [] (ts.take i)).length < sizeLine
        omega
      refine ⟨_, rfl, _, rfl, d, o, F, kPw t.1, bk, rfl, rfl, nd.same s3, (kyP_of tk).up (.of s3), by rw [rt.len]; exact la, fun o' n' => ?_⟩
      have c3 : Ch (· = d) H3 (upd H3 d (pinO d o')) := Ch.put rfl (nd.same s3).at_ pinO_tup
      refine ⟨by omega, (c.same s3).trans c3, ⟨o', _, n', ?_⟩, _, _, rfl⟩
      rw [eacc]
      exact (RQ.upP c3.kp (RQ.upP (.of s3) rt)).put kPw_inj t.1 (t3.up c3.kp)
    · rintro σ H1 ⟨_, c, ⟨o, F, nd, rt⟩, x2, x3, rfl⟩
      rw [lx, List.take_length] at rt
      have s1 : Same H H1 := sameNew hd c
      refine ⟨_, rfl, d, o, F, rfl, nd, ?_, ?_, ?_, fun pl out hpl eo => ?_⟩
      · intro d1 h1 d2 h2
        rw [rt.keys, List.map_map] at h1 h2
        obtain ⟨q1, _, rfl⟩ := List.mem_map.mp h1
        obtain ⟨q2, _, rfl⟩ := List.mem_map.mp h2
        show PySem.W.alike (kPw q1.1).data (kPw q2.1).data = true
        rw [kPw_data, kPw_data]
        exact alike_ePw _ _
      · intro k hk
        rw [rt.keys] at hk
        obtain ⟨q1, _, rfl⟩ := List.mem_map.mp hk
        exact ⟨_, rfl⟩
      · intro k hk
        rw [rt.keys] at hk
        obtain ⟨q1, _, rfl⟩ := List.mem_map.mp hk
        rw [kPw_data]
        exact depth_ePw _
      rw [sorted_pkeys rt] at eo
      have lo : out.length = (pkeys (accF ts)).length := by rw [eo.length, List.length_map]
      have lk : (pkeys (accF ts)).length < sizeLine := by
        unfold pkeys
        rw [List.length_mergeSort, List.length_map]
        have h1 := acc_len ts []
        rw [List.length_nil] at h1
        have := ok.len
        show (List.foldl accStep [] ts).length < sizeLine
        omega
      have s2 : Same H1 (upd H1 pl (.lst out)) := Same.new hpl
      refine ⟨_, rfl, ⟨_, .of upd_same⟩, fun D hD => ?_⟩
      have hplD : pl ≠ D := fun z => by rw [← z, upd_same] at hD; cases hD
      have s3 : Same (upd H1 pl (.lst out)) (upd (upd H1 pl (.lst out)) D (.lst [])) := Same.new hD
      refine lc_it (walk_list (xs := out)) (fun i H4 => i ≤ (pkeys (accF ts)).length ∧ Ch (· = D) (upd (upd H1 pl (.lst out)) D (.lst [])) H4 ∧ ∃ ys, H4 D = some (.lst ys) ∧ ys.length ≤ i ∧ TDs K H4 ys ((outF (accF ts) ((pkeys (accF ts)).take i)).map eTm)) ?_ ?_ ?_ ?_
      · exact ⟨Nat.zero_le _, Ch.refl _ _, [], upd_same, Nat.le_refl _, .nil⟩
      · rintro i H4 _ ⟨_, c4, _⟩
        exact .of (c4.keep _ _ hplD (by rw [upd_ne hplD]; exact upd_same))
      · rintro i x H4 H5 hi ⟨hle, c4, ys, hys, lys, tys⟩ ⟨rfl, ex⟩
        obtain ⟨kk, ekk, tkk⟩ := each_at eo ex
        rw [List.getElem?_map] at ekk
        obtain ⟨k, ek, rfl⟩ := Option.map_eq_some_iff.mp ekk
        have s25 : Same (upd H1 pl (.lst out)) H5 := sameNew hD c4
        have s15 : Same H1 H5 := L2.Same.trans s2 s25
        have tk5 : TD K H5 x (ePw k) := by rw [← kPw_data]; exact tkk.up (.of s15)
        obtain ⟨bk, xk, rfl, _, _⟩ := tk5.pw
        have nd5 := nd.same s15
        have hkm : k ∈ (accF ts).map (·.1) := List.mem_mergeSort.mp (List.mem_of_getElem? ek)
        obtain ⟨gq, egq⟩ := Option.isSome_iff_exists.mp (tget_isSome.mpr hkm)
        obtain ⟨vq, evq, tvq⟩ := (RQ.upP (.of s15) rt).val_some kPw_inj egq
        have eo1 : outF (accF ts) ((pkeys (accF ts)).take (i + 1)) = outF (accF ts) ((pkeys (accF ts)).take i) ++ if gq = 0 then [] else [(k, gq)] := by
          unfold outF
          rw [List.take_add_one, ek, Option.toList_some, List.filter_append, List.map_append]
          congr 1
          rw [List.filter_cons, egq]
          by_cases z : gq = 0
          · simp [z]
          · simp [z, egq]
        refine ⟨rfl, _, rfl, _, rfl, d, o, F, kPw k, bk, vq, rfl, rfl, nd5, kyP_of tk5, evq, fun an tn => ⟨eF gq, eF 0, tvq.dp, (td01 (tn _)).dp, shaped_eF _, shaped_eF _, _, rfl, ?_⟩⟩
        rw [eqv_eF]
        by_cases z : gq = 0
        · refine iteN (by rw [decide_eq_true z]; rfl) ⟨by omega, c4, ys, hys, by omega, ?_⟩
          rw [eo1, if_pos z, List.append_nil]
          exact tys
        · refine iteY (by rw [decide_eq_false z]; rfl) ?_
          refine ⟨_, rfl, _, rfl, _, rfl, d, o, F, kPw k, bk, vq, rfl, rfl, nd5, kyP_of tk5, evq, two_le, fun t ht => ?_⟩
          have s6 : Same H5 (upd H5 t (.tup [.ref bk, vq])) := Same.new ht
          have c7 : Ch (· = D) (upd H5 t (.tup [.ref bk, vq])) (upd (upd H5 t (.tup [.ref bk, vq])) D (.lst (ys ++ [.ref t]))) := Ch.put rfl (s6 _ _ hys) (fun _ z => by cases z)
          refine ⟨ys, s6 _ _ hys, by omega, by omega, (c4.same s6).trans c7, _, upd_same, by rw [List.length_append]; show ys.length + 1 ≤ i + 1; omega, ?_⟩
          rw [eo1, if_neg z, List.map_append]
          have tt : TD K (upd H5 t (.tup [.ref bk, vq])) (.ref t) (eTm (k, gq)) := TD.of_tm (.inl upd_same) (tk5.up (.of s6)) (TD.up (.of s6) tvq)
          exact ((tys.up (.of s6)).snoc tt).up c7.kp
      · rintro H4 ⟨_, c4, ys, hys, lys, tys⟩
        rw [lo, List.take_length] at tys
        have s14 : Same H H4 := L2.Same.trans s1 (L2.Same.trans s2 (sameNew hD c4))
        refine ⟨D, ys, rfl, .inl ⟨.of hys, fun l hl => q _ _ (L2.Same.trans s14 (Same.new hl)) ?_⟩⟩
        exact .tup (.inl upd_same) (tys.up (.of (Same.new hl)))
end
end U
set_option Elab.async false
set_option linter.all false
set_option maxRecDepth 100000
set_option maxHeartbeats 4000000
/-! Polynomials: turned, poly_plus, poly_less, powers_added. -/
namespace U
open PySem PySem.Spec PyProof.Rows L2
theorem walk_zipT {K : PySem.W.Frag} {a b : Addr} {xs ys : List V} {n : Nat} (hn : n = min xs.length ys.length) : Walk (RZ.ItzT K a b) n (fun H => SqT K H a xs ∧ SqT K H b ys) (YPair (fun i => xs[i]?) (fun i => ys[i]?)) := by
  subst hn
  refine ⟨fun i _ hi q => ?_, fun _ q => ⟨xs, ys, q.1, q.2, by omega⟩, fun i H v H' _ q y => ?_⟩
  · have h1 : i < xs.length := by omega
    have h2 : i < ys.length := by omega
    exact ⟨xs, ys, xs[i], ys[i], q.1, q.2, by simp [h1], by simp [h2]⟩
  · obtain ⟨T, x, z, h1, h2, h3, h4, h5⟩ := y
    exact ⟨T, x, z, h1, h2, h3, h4 xs q.1, h5 ys q.2⟩
theorem zipW_take {a b : Pw} {i x y : Nat} (h1 : a[i]? = some x) (h2 : b[i]? = some y) : (addP a b).take (i + 1) = (addP a b).take i ++ [x + y] := by
  rw [List.take_add_one]
  have : (addP a b)[i]? = some (x + y) := by
    unfold addP
    rw [List.getElem?_zipWith, h1, h2]
  rw [this]
  rfl
section
variable {P : Program} {w : World} {K : PySem.W.Frag} {mg : Str → Option Value} {base : Heap}
def spTurned (K : PySem.W.Frag) : Sp := fun vs H Q _ => ∃ (v : V) (p : Poly), vs = [v] ∧ TD K H v (ePoly p) ∧ (∀ t ∈ p, Sz 4400 t.2) ∧ p.length < sizeLine ∧ ∀ H' v, Same H H' → TD K H' v (ePoly (turnF p)) → Q v H'
def N_turned : List Str := ["one", "powers", "f"]
theorem sc_turned : FnScope ["one", "powers", "f"] ["one"] (defScope s_turned) := ⟨rfl, rfl, rfl, by decide +kernel, rfl, by decide +kernel, by decide +kernel⟩
theorem f_turned (T : Txt K mg) : Cal P w K mg base 4 "turned" (spTurned K) := by
  refine cal_of T.a_turned sc_turned (fun _ _ _ _ _ _ us hl => match us, hl with | [_], _ => rfl) (fun vs H Q E h => ?_) (fun fa cdv A outer s H vs Q E hr h => ?_)
  · obtain ⟨_, _, rfl, _⟩ := h
    rfl
  · obtain ⟨v, ts, rfl, hv, zs, hz, q⟩ := h
    refine ⟨_, (pss_one (ps_ret (pe_callTy call_tuple_of (by rfl) T.b_tuple (by decide +kernel) (pa_cons (pe_lc (own := [("powers", 1), ("f", 2)]) (by rfl) sc_turned.nd (pi_tup (pv 0)) (blkOk_by (N := N_turned) (sc := defScope s_turned) (by decide +kernel)) (fun _ _ _ _ _ => (pg_tupB (K := K) (n := 2) rfl (by rfl) (pgs_cons (pg_name (i := 1) sc_turned.nd rfl (Or.inl rfl)) (pgs_cons (pg_name (i := 2) sc_turned.nd rfl (Or.inl rfl)) pgs_nil)))) (fun _ _ _ _ _ => pts_nil) (fun _ _ _ _ _ => (pe_tup (pa_cons (pv 1) (pa_cons (pe_c (f_less T) hr (by decide) (by rfl) (pa_cons (pe_conB (K := K) rfl T.k_nought (by rfl)) (pa_cons (pv 2) pa_nil))) pa_nil))))) pa_nil)))), ?_⟩
    obtain ⟨a, xs, rfl, ta, tx⟩ := hv.tup_inv
    have lx : xs.length = ts.length := by rw [tx.len, List.length_map]
    refine ⟨_, rfl, a, rfl, ⟨xs, ta.sq⟩, fun D hD => ?_⟩
    have s0 : Same H (upd H D (.lst [])) := Same.new hD
    refine lc_it (walk_tup (xs := xs)) (fun i H4 => i ≤ ts.length ∧ Ch (· = D) (upd H D (.lst [])) H4 ∧ ∃ ys, H4 D = some (.lst ys) ∧ TDs K H4 ys ((turnF (ts.take i)).map eTm)) ?_ ?_ ?_ ?_
    · exact ⟨Nat.zero_le _, Ch.refl _ _, [], upd_same, .nil⟩
    · rintro i H4 _ ⟨_, c4, _⟩
      exact (ta.up (.of (sameNew hD c4))).sq
    · rintro i x H4 H5 hi ⟨hle, c4, ys, hys, tys⟩ ⟨rfl, ex⟩
      have s5 : Same H H5 := sameNew hD c4
      obtain ⟨dd, ed, tdd⟩ := (tx.up (.of s5)).get' ex
      rw [List.getElem?_map] at ed
      obtain ⟨t, et, rfl⟩ := Option.map_eq_some_iff.mp ed
      obtain ⟨ap, vk, vf, rfl, tq, tk, tf⟩ := tdd.tm
      refine ⟨ap, _, rfl, tq.sq, rfl, _, _, rfl, _, _, rfl, rfl, rfl, ?_⟩
      refine ⟨_, rfl, fun an tn => ⟨_, rfl, ?_⟩⟩
      refine ⟨_, _, _, _, rfl, td01 (tn _), tf, ⟨sz0, zs t (List.mem_of_getElem? et)⟩, fun H6 v6 s6 t6 => ⟨two_le, fun tt htt => ?_⟩⟩
      have s7 : Same H6 (upd H6 tt (.tup [vk, v6])) := Same.new htt
      have hy7 := s7 _ _ (s6 _ _ hys)
      have ly : ys.length ≤ i := by rw [tys.len, List.length_map]; unfold turnF; rw [List.length_map, List.length_take]; omega
      have c8 : Ch (· = D) (upd H6 tt (.tup [vk, v6])) (upd (upd H6 tt (.tup [vk, v6])) D (.lst (ys ++ [.ref tt]))) := Ch.put rfl hy7 (fun _ z => by cases z)
      refine ⟨ys, hy7, by omega, by omega, ((c4.same s6).same s7).trans c8, _, upd_same, ?_⟩
      have e : turnF (ts.take (i + 1)) = turnF (ts.take i) ++ [(t.1, 0 - t.2)] := by
        unfold turnF
        rw [List.take_add_one, et, List.map_append]; rfl
      rw [e, List.map_append]
      have tt' : TD K (upd H6 tt (.tup [vk, v6])) (.ref tt) (eTm (t.1, 0 - t.2)) := TD.of_tm (.inl upd_same) (tk.up (.of (L2.Same.trans s6 s7))) (t6.up (.of s7))
      exact ((tys.up (.of (L2.Same.trans s6 s7))).snoc tt').up c8.kp
    · rintro H4 ⟨_, c4, ys, hys, tys⟩
      rw [lx, List.take_length] at tys
      refine ⟨D, ys, rfl, .inl ⟨.of hys, fun l hl => q _ _ (L2.Same.trans (sameNew hD c4) (Same.new hl)) ?_⟩⟩
      exact .tup (.inl upd_same) (tys.up (.of (Same.new hl)))
def spPlus (K : PySem.W.Frag) : Sp := fun vs H Q _ => ∃ (v u : V) (a b : Poly), vs = [v, u] ∧ TD K H v (ePoly a) ∧ TD K H u (ePoly b) ∧ PolyOk (a ++ b) ∧ ∀ H' v, Same H H' → TD K H' v (ePoly (polyF (a ++ b))) → Q v H'
def spLessP (K : PySem.W.Frag) : Sp := fun vs H Q _ => ∃ (v u : V) (a b : Poly), vs = [v, u] ∧ TD K H v (ePoly a) ∧ TD K H u (ePoly b) ∧ (∀ t ∈ b, Sz 4400 t.2) ∧ PolyOk (a ++ turnF b) ∧ ∀ H' v, Same H H' → TD K H' v (ePoly (polyF (a ++ turnF b))) → Q v H'
theorem sc_poly_plus : FnScope ["one", "other"] ["one", "other"] (defScope s_poly_plus) := ⟨rfl, rfl, rfl, by decide +kernel, rfl, by decide +kernel, by decide +kernel⟩
theorem f_poly_plus (T : Txt K mg) : Cal P w K mg base 5 "poly_plus" (spPlus K) := by
  refine cal_of T.a_poly_plus sc_poly_plus (fun _ _ _ _ _ _ us hl => match us, hl with | [_, _], _ => rfl) (fun vs H Q E h => ?_) (fun fa cdv A outer s H vs Q E hr h => ?_)
  · obtain ⟨_, _, _, _, rfl, _⟩ := h
    rfl
  · obtain ⟨v, u, a, b, rfl, hv, hu, ok, q⟩ := h
    refine ⟨_, (pss_one (ps_ret (pe_c (f_poly T) hr (by decide) (by rfl) (pa_cons (pe_op op_catD (pv 0) (pv 1)) pa_nil)))), ?_⟩
    obtain ⟨x, xs, rfl, tq1, ts1⟩ := hv.tup_inv
    obtain ⟨y, ys, rfl, tq2, ts2⟩ := hu.tup_inv
    have l1 : xs.length = a.length := by rw [ts1.len, List.length_map]
    have l2 : ys.length = b.length := by rw [ts2.len, List.length_map]
    have l3 := ok.len
    rw [List.length_append] at l3
    refine ⟨_, rfl, _, rfl, x, y, xs, ys, rfl, rfl, tq1, tq2, by omega, fun H1 p s1 tp => ?_⟩
    refine ⟨.ref p, false, xs ++ ys, a ++ b, rfl, ⟨p, rfl, tp⟩, by rw [List.map_append]; exact (ts1.up (.of s1)).app (ts2.up (.of s1)), ok, fun H2 v2 s2 t2 => q _ _ (L2.Same.trans s1 s2) t2⟩
theorem sc_poly_less : FnScope ["one", "other"] ["one", "other"] (defScope s_poly_less) := ⟨rfl, rfl, rfl, by decide +kernel, rfl, by decide +kernel, by decide +kernel⟩
theorem f_poly_less (T : Txt K mg) : Cal P w K mg base 5 "poly_less" (spLessP K) := by
  refine cal_of T.a_poly_less sc_poly_less (fun _ _ _ _ _ _ us hl => match us, hl with | [_, _], _ => rfl) (fun vs H Q E h => ?_) (fun fa cdv A outer s H vs Q E hr h => ?_)
  · obtain ⟨_, _, _, _, rfl, _⟩ := h
    rfl
  · obtain ⟨v, u, a, b, rfl, hv, hu, zb, ok, q⟩ := h
    refine ⟨_, (pss_one (ps_ret (pe_c (f_poly T) hr (by decide) (by rfl) (pa_cons (pe_op op_catD (pv 0) (pe_c (f_turned T) hr (by decide) (by rfl) (pa_cons (pv 1) pa_nil))) pa_nil)))), ?_⟩
    have l3 := ok.len
    have lt : (turnF b).length = b.length := List.length_map ..
    rw [List.length_append, lt] at l3
    refine ⟨_, rfl, _, rfl, u, b, rfl, hu, zb, by omega, fun H0 v0 s0 t0 => ?_⟩
    obtain ⟨x, xs, rfl, tq1, ts1⟩ := (hv.up (.of s0)).tup_inv
    obtain ⟨y, ys, rfl, tq2, ts2⟩ := t0.tup_inv
    have l1 : xs.length = a.length := by rw [ts1.len, List.length_map]
    have l2 : ys.length = b.length := by rw [ts2.len, List.length_map, lt]
    refine ⟨x, y, xs, ys, rfl, rfl, tq1, tq2, by omega, fun H1 p s1 tp => ?_⟩
    refine ⟨.ref p, false, xs ++ ys, a ++ turnF b, rfl, ⟨p, rfl, tp⟩, by rw [List.map_append]; exact (ts1.up (.of s1)).app (ts2.up (.of s1)), ok, fun H2 v2 s2 t2 => q _ _ (L2.Same.trans s0 (L2.Same.trans s1 s2)) t2⟩
def spAddP (K : PySem.W.Frag) : Sp := fun vs H Q _ => ∃ (v u : V) (a b : Pw), vs = [v, u] ∧ TD K H v (ePw a) ∧ TD K H u (ePw b) ∧ a.length < sizeLine ∧ ∀ H' v, Same H H' → TD K H' v (ePw (addP a b)) → Q v H'
def N_powers_added : List Str := ["one", "other", "here", "there"]
theorem sc_powers_added : FnScope ["one", "other", "here", "there"] ["one", "other"] (defScope s_powers_added) := ⟨rfl, rfl, rfl, by decide +kernel, rfl, by decide +kernel, by decide +kernel⟩
theorem f_powers_added (T : Txt K mg) : Cal P w K mg base 1 "powers_added" (spAddP K) := by
  refine cal_of T.a_powers_added sc_powers_added (fun _ _ _ _ _ _ us hl => match us, hl with | [_, _], _ => rfl) (fun vs H Q E h => ?_) (fun fa cdv A outer s H vs Q E hr h => ?_)
  · obtain ⟨_, _, _, _, rfl, _⟩ := h
    rfl
  · obtain ⟨v, u, a, b, rfl, hv, hu, hz, q⟩ := h
    refine ⟨_, (pss_one (ps_ret (pe_callTy call_tuple_of (by rfl) T.b_tuple (by decide +kernel) (pa_cons (pe_lc (own := [("here", 2), ("there", 3)]) (by rfl) sc_powers_added.nd (RZ.pi_zipA (by rfl) T.b_zip (pa_cons (pv 0) (pa_cons (pv 1) pa_nil))) (blkOk_by (N := N_powers_added) (sc := defScope s_powers_added) (by decide +kernel)) (fun _ _ _ _ _ => (pg_tupB (K := K) (n := 2) rfl (by rfl) (pgs_cons (pg_name (i := 2) sc_powers_added.nd rfl (Or.inl rfl)) (pgs_cons (pg_name (i := 3) sc_powers_added.nd rfl (Or.inl rfl)) pgs_nil)))) (fun _ _ _ _ _ => pts_nil) (fun _ _ _ _ _ => (pe_op op_add (pv 2) (pv 3)))) pa_nil)))), ?_⟩
    obtain ⟨x, xs, rfl, tq1, ts1⟩ := hv.pw
    obtain ⟨y, ys, rfl, tq2, ts2⟩ := hu.pw
    have l1 : xs.length = a.length := by rw [ts1.len, List.length_map]
    have l2 : ys.length = b.length := by rw [ts2.len, List.length_map]
    refine ⟨_, rfl, _, rfl, x, y, xs, ys, rfl, .inr ⟨tq1.sq, tq2.sq, fun D hD => ?_⟩⟩
    have lm : (addP a b).length = min xs.length ys.length := by unfold addP; rw [List.length_zipWith, l1, l2]
    refine lc_it (walk_zipT (xs := xs) (ys := ys) (n := (addP a b).length) lm) (fun i H4 => i ≤ (addP a b).length ∧ Ch (· = D) (upd H D (.lst [])) H4 ∧ ∃ zs, H4 D = some (.lst zs) ∧ TDs K H4 zs (((addP a b).take i).map fun (n : Nat) => .int (n : Int))) ?_ ?_ ?_ ?_
    · exact ⟨Nat.zero_le _, Ch.refl _ _, [], upd_same, .nil⟩
    · rintro i H4 _ ⟨_, c4, _⟩
      exact ⟨(tq1.up (.of (sameNew hD c4))).sq, (tq2.up (.of (sameNew hD c4))).sq⟩
    · rintro i x' H4 H5 hi ⟨hle, c4, zs, hzs, tzs⟩ ⟨tp, u1, u2, rfl, htp, rfl, e1, e2⟩
      have s5 : Same H4 (upd H4 tp (.tup [u1, u2])) := Same.new htp
      obtain ⟨d1, ed1, td1⟩ := ts1.get' e1
      rw [List.getElem?_map] at ed1
      obtain ⟨n1, en1, rfl⟩ := Option.map_eq_some_iff.mp ed1
      obtain ⟨d2, ed2, td2⟩ := ts2.get' e2
      rw [List.getElem?_map] at ed2
      obtain ⟨n2, en2, rfl⟩ := Option.map_eq_some_iff.mp ed2
      cases td1
      cases td2
      have hz5 := s5 _ _ hzs
      have lz : zs.length ≤ i := by rw [tzs.len, List.length_map, List.length_take]; omega
      refine ⟨tp, _, rfl, .inl (.inl upd_same), rfl, _, _, rfl, _, _, rfl, rfl, rfl, ?_⟩
      refine ⟨_, rfl, _, rfl, _, _, rfl, rfl, zs, hz5, by omega, by omega, ?_⟩
      have c6 : Ch (· = D) (upd H4 tp (.tup [V.int n1, V.int n2])) (upd (upd H4 tp (.tup [V.int n1, V.int n2])) D (.lst (zs ++ [.int ((n1 : Int) + (n2 : Int))]))) := Ch.put rfl hz5 (fun _ z => by cases z)
      refine ⟨(c4.same s5).trans c6, _, upd_same, ?_⟩
      rw [zipW_take en1 en2, List.map_append]
      refine ((tzs.up (.of s5)).snoc ?_).up c6.kp
      have : ((n1 : Int) + (n2 : Int)) = ((n1 + n2 : Nat) : Int) := by omega
      show TD K _ (.int ((n1 : Int) + (n2 : Int))) (.int ((n1 + n2 : Nat) : Int))
      rw [this]
      exact .int _
    · rintro H4 ⟨_, c4, zs, hzs, tzs⟩
      rw [List.take_length] at tzs
      refine ⟨D, zs, rfl, .inl ⟨.of hzs, fun l hl => q _ _ (L2.Same.trans (sameNew hD c4) (Same.new hl)) ?_⟩⟩
      exact .tup (.inl upd_same) (tzs.up (.of (Same.new hl)))
end
end U
set_option Elab.async false
set_option linter.all false
set_option maxRecDepth 100000
set_option maxHeartbeats 4000000
/-! Polynomials: poly_times. -/
namespace U
open PySem PySem.Spec PyProof.Rows L2
structure TimesOk (a b : Poly) : Prop where
  za : ∀ t ∈ a, Sz 4400 t.2
  zb : ∀ t ∈ b, Sz 4400 t.2
  la : ∀ t ∈ a, t.1.length < sizeLine
  ok : PolyOk (mulTs a b)
  lb : b.length < sizeLine
def mulTo (t : Pw × Rat) (b : Poly) : Poly := b.map fun u => (addP t.1 u.1, t.2 * u.2)
theorem mulTs_take {a : Poly} {i : Nat} {t : Pw × Rat} (b : Poly) (h : a[i]? = some t) : mulTs (a.take (i + 1)) b = mulTs (a.take i) b ++ mulTo t b := by
  unfold mulTs
  rw [List.take_add_one, h, List.flatMap_append]
  simp [mulTo]
theorem mulTs_len (a b : Poly) : (mulTs a b).length = a.length * b.length := by
  unfold mulTs
  induction a with
  | nil => simp
  | cons t a ih => rw [List.flatMap_cons, List.length_append, ih, List.length_map, List.length_cons, Nat.add_mul]; omega
section
variable {P : Program} {w : World} {K : PySem.W.Frag} {mg : Str → Option Value} {base : Heap}
def spTimesP (K : PySem.W.Frag) : Sp := fun vs H Q _ => ∃ (v u : V) (a b : Poly), vs = [v, u] ∧ TD K H v (ePoly a) ∧ TD K H u (ePoly b) ∧ TimesOk a b ∧ ∀ H' v, Same H H' → TD K H' v (ePoly (polyF (mulTs a b))) → Q v H'
def N_poly_times : List Str := ["one", "other", "terms", "powers", "f", "more", "g"]
theorem sc_poly_times : FnScope ["one", "other", "terms", "powers", "f", "more", "g"] ["one", "other"] (defScope s_poly_times) := ⟨rfl, rfl, rfl, by decide +kernel, rfl, by decide +kernel, by decide +kernel⟩
theorem f_poly_times (T : Txt K mg) : Cal P w K mg base 5 "poly_times" (spTimesP K) := by
  refine cal_of T.a_poly_times sc_poly_times (fun _ _ _ _ _ _ us hl => match us, hl with | [_, _], _ => rfl) (fun vs H Q E h => ?_) (fun fa cdv A outer s H vs Q E hr h => ?_)
  · obtain ⟨_, _, _, _, rfl, _⟩ := h
    rfl
  · obtain ⟨v, u, a, b, rfl, hv, hu, ok, q⟩ := h
    refine ⟨_, (pss_cons (ps_set (i := 2) sc_poly_times.nd rfl (Or.inl rfl) (pe_lst pa_nil))
(pss_cons (ps_for PassesOwn.never rfl (pi_tup (pv 0)) (pg_tup (by rfl) (pgs_cons (pg_name (i := 3) sc_poly_times.nd rfl (Or.inr rfl)) (pgs_cons (pg_name (i := 4) sc_poly_times.nd rfl (Or.inr rfl)) pgs_nil)))
(pss_one (ps_expr (pe_bm PySem.F.plainAttrs_list PySem.F.slot_list_extend PySem.F.type_list_extend mt_extend (pv 2) (pa_cons (pe_lc (own := [("more", 5), ("g", 6)]) (by rfl) sc_poly_times.nd (pi_tup (pv 1)) (blkOk_by (N := N_poly_times) (sc := defScope s_poly_times) (by decide +kernel)) (fun _ _ _ _ _ => (pg_tupB (K := K) (n := 2) rfl (by rfl) (pgs_cons (pg_name (i := 5) sc_poly_times.nd rfl (Or.inl rfl)) (pgs_cons (pg_name (i := 6) sc_poly_times.nd rfl (Or.inl rfl)) pgs_nil)))) (fun _ _ _ _ _ => pts_nil) (fun _ _ _ _ _ => (pe_tup (pa_cons (pe_c (f_powers_added T) hr (by decide) (by rfl) (pa_cons (pv 3) (pa_cons (pv 5) pa_nil))) (pa_cons (pe_c (f_times T) hr (by decide) (by rfl) (pa_cons (pv 4) (pa_cons (pv 6) pa_nil))) pa_nil))))) pa_nil)))))
(pss_one (ps_ret (pe_c (f_poly T) hr (by decide) (by rfl) (pa_cons (pv 2) pa_nil)))))), ?_⟩
    obtain ⟨x, xs, rfl, tq1, ts1⟩ := hv.tup_inv
    obtain ⟨y, ys, rfl, tq2, ts2⟩ := hu.tup_inv
    have l1 : xs.length = a.length := by rw [ts1.len, List.length_map]
    have l2 : ys.length = b.length := by rw [ts2.len, List.length_map]
    have lm := ok.ok.len
    rw [mulTs_len] at lm
    refine ⟨Nat.zero_le _, fun l hl => ?_⟩
    have s0 : Same H (upd H l (.lst [])) := Same.new hl
    refine ⟨_, rfl, x, rfl, ⟨xs, (tq1.up (.of s0)).sq⟩, ?_⟩
    refine for_it (walk_tup (xs := xs)) (fun i σ H1 => i ≤ a.length ∧ Ch (· = l) (upd H l (.lst [])) H1 ∧ (∃ zs, H1 l = some (.lst zs) ∧ TDs K H1 zs ((mulTs (a.take i) b).map eTm)) ∧ ∃ x3 x4 x5 x6, σ = [some (.ref x), some (.ref y), some (.ref l), x3, x4, x5, x6]) ?_ ?_ ?_ ?_
    · exact ⟨Nat.zero_le _, Ch.refl _ _, ⟨[], upd_same, .nil⟩, _, _, _, _, rfl⟩
    · rintro i σ H1 _ ⟨_, c, _⟩
      exact (tq1.up (.of (sameNew hl c))).sq
    · rintro i xv σ H1 H2 hi ⟨hle, c, ⟨zs, hzs, tzs⟩, x3, x4, x5, x6, rfl⟩ ⟨rfl, ex⟩
      have s2 : Same H H2 := sameNew hl c
      obtain ⟨dd, ed, tdd⟩ := (ts1.up (.of s2)).get' ex
      rw [List.getElem?_map] at ed
      obtain ⟨t, et, rfl⟩ := Option.map_eq_some_iff.mp ed
      have htm : t ∈ a := List.mem_of_getElem? et
      obtain ⟨ap, vk, vf, rfl, tq, tk, tf⟩ := tdd.tm
      refine ⟨ap, _, rfl, tq.sq, rfl, _, _, rfl, _, _, rfl, rfl, ?_⟩
      refine ⟨_, rfl, .inl ⟨rfl, zs, .of hzs⟩, _, rfl, y, rfl, ⟨ys, (tq2.up (.of s2)).sq⟩, fun D hD => ?_⟩
      have hlD : l ≠ D := ne_of_none hzs hD
      have sD : Same H2 (upd H2 D (.lst [])) := Same.new hD
      refine lc_it (walk_tup (xs := ys)) (fun j H4 => j ≤ b.length ∧ Ch (· = D) (upd H2 D (.lst [])) H4 ∧ ∃ ws, H4 D = some (.lst ws) ∧ TDs K H4 ws ((mulTo t (b.take j)).map eTm)) ?_ ?_ ?_ ?_
      · exact ⟨Nat.zero_le _, Ch.refl _ _, [], upd_same, .nil⟩
      · rintro j H4 _ ⟨_, c4, _⟩
        exact (tq2.up (.of (L2.Same.trans s2 (sameNew hD c4)))).sq
      · rintro j xu H4 H5 hj ⟨hjle, c4, ws, hws, tws⟩ ⟨rfl, eu⟩
        have s25 : Same H2 H5 := sameNew hD c4
        obtain ⟨dd2, ed2, tdd2⟩ := (ts2.up (.of (L2.Same.trans s2 s25))).get' eu
        rw [List.getElem?_map] at ed2
        obtain ⟨u, etu, rfl⟩ := Option.map_eq_some_iff.mp ed2
        have hum : u ∈ b := List.mem_of_getElem? etu
        obtain ⟨ap2, vk2, vf2, rfl, tqu, tku, tfu⟩ := tdd2.tm
        refine ⟨ap2, _, rfl, tqu.sq, rfl, _, _, rfl, _, _, rfl, rfl, rfl, ?_⟩
        refine ⟨_, rfl, _, rfl, _, _, t.1, u.1, rfl, tk.up (.of s25), tku, ok.la t htm, fun H6 v6 s6 t6 => ⟨_, rfl, _, rfl, ?_⟩⟩
        refine ⟨_, _, _, _, rfl, tf.up (.of (L2.Same.trans s25 s6)), tfu.up (.of s6), ⟨ok.za t htm, ok.zb u hum⟩, fun H7 v7 s7 t7 => ⟨two_le, fun tt htt => ?_⟩⟩
        have s8 : Same H7 (upd H7 tt (.tup [v6, v7])) := Same.new htt
        have s58 := L2.Same.trans s6 (L2.Same.trans s7 s8)
        have hw8 := s58 _ _ hws
        have lw : ws.length ≤ j := by rw [tws.len, List.length_map]; unfold mulTo; rw [List.length_map, List.length_take]; omega
        have lbz := ok.lb
        have c9 : Ch (· = D) (upd H7 tt (.tup [v6, v7])) (upd (upd H7 tt (.tup [v6, v7])) D (.lst (ws ++ [.ref tt]))) := Ch.put rfl hw8 (fun _ z => by cases z)
        refine ⟨ws, hw8, by omega, by omega, (c4.same s58).trans c9, _, upd_same, ?_⟩
        have e : mulTo t (b.take (j + 1)) = mulTo t (b.take j) ++ [(addP t.1 u.1, t.2 * u.2)] := by
          unfold mulTo
          rw [List.take_add_one, etu, List.map_append]; rfl
        rw [e, List.map_append]
        have tt' : TD K (upd H7 tt (.tup [v6, v7])) (.ref tt) (eTm (addP t.1 u.1, t.2 * u.2)) := TD.of_tm (.inl upd_same) (t6.up (.of (L2.Same.trans s7 s8))) (t7.up (.of s8))
        exact ((tws.up (.of s58)).snoc tt').up c9.kp
      · rintro H4 ⟨_, c4, ws, hws, tws⟩
        rw [l2, List.take_length] at tws
        have hzs4 : H4 l = some (.lst zs) := c4.keep _ _ hlD (by rw [upd_ne hlD]; exact hzs)
        have s24 : Same H2 H4 := sameNew hD c4
        have lz : zs.length = (mulTs (a.take i) b).length := by rw [tzs.len, List.length_map]
        have lw : ws.length = b.length := by rw [tws.len, List.length_map]; unfold mulTo; rw [List.length_map]
        have hia : i < a.length := by omega
        have lt1 : zs.length + ws.length ≤ sizeLine := by
          rw [lz, lw, mulTs_len, List.length_take, Nat.min_eq_left (by omega)]
          have : (i + 1) * b.length ≤ a.length * b.length := Nat.mul_le_mul_right _ (by omega)
          rw [Nat.add_mul] at this
          omega
        refine ⟨l, D, zs, ws, rfl, rfl, hzs4, hws, lt1, ?_⟩
        have c5 : Ch (· = l) H4 (upd H4 l (.lst (zs ++ ws))) := Ch.put rfl hzs4 (fun _ z => by cases z)
        refine ⟨by omega, (c.same s24).trans c5, ⟨_, upd_same, ?_⟩, _, _, _, _, rfl⟩
        rw [mulTs_take b et, List.map_append]
        exact ((tzs.up (.of s24)).app tws).up c5.kp
    · rintro σ H1 ⟨_, c, ⟨zs, hzs, tzs⟩, x3, x4, x5, x6, rfl⟩
      rw [l1, List.take_length] at tzs
      exact ⟨_, rfl, .ref l, true, zs, mulTs a b, rfl, ⟨l, rfl, hzs⟩, tzs, ok.ok, fun H2 v2 s2 t2 => q _ _ (L2.Same.trans (sameNew hl c) s2) t2⟩
end
end U
set_option Elab.async false
set_option linter.all false
set_option maxRecDepth 100000
set_option maxHeartbeats 4000000
/-! t * k, k 1 or more. -/
namespace U
open PySem PySem.Spec PyProof.Rows L2
open AutoSeq1 (wpAny_loadPart')
theorem tuple_mulW1 (l : Addr) (items : Array Value) (n : Nat) (dd : Option Addr) (sl : Array (Option Value)) (u : Tok) :
    Meets (Builtin.«tuple.__mul__» ⟨[.ref l, .int 1 u], []⟩) (fun _ R s => s.heap.get? l = some { cls := .type "tuple", dict := dd, data := .seq items n, slots := sl } ∧ R (.ok (.ret (Value.ref l))) s) :=
  .of_wp fun prog w A R s h => by
    obtain ⟨hp, g, d, tk, os⟩ := s
    obtain ⟨hl, h⟩ := h
    have f1 := AutoSeq1.idx_int
    have c1 : (items.isEmpty || ((1 : Int) == 1)) = true := by simp
    wp_walk using wpAny_loadPart' hl
    repeat (first
      | (refine wpAny_ite_false (by decide) ?_; wp_walk using wpAny_loadPart' hl)
      | (refine wpAny_ite_true (by rw [c1]) ?_; wp_walk using wpAny_loadPart' hl)
      | (refine wpAny_ite_true (by simp) ?_; wp_walk using wpAny_loadPart' hl))
    exact ⟨_, rfl, h⟩
/-- t * k -/
def rRepA (K : PySem.W.Frag) : R2 := fun x y H Q => ∃ l k xs, x = .ref l ∧ y = .int k ∧ Tq K H l xs ∧ xs ≠ [] ∧ 1 ≤ k ∧ k ≤ 1000 ∧ xs.length ≤ 1000 ∧ ∀ H' p, Same H H' → Tq K H' p (List.replicate k.toNat xs).flatten → Q (.ref p) H'
theorem op_repA {X : Cx} : OpR X (binaryOp .Mult) (rRepA X.K) := by
  intro pins s σ H x y v u Q I rx ry h
  obtain ⟨l, k, xs, rfl, rfl, hT, hne, h1, h2, hz, q⟩ := h
  by_cases hk : k = 1
  · subst hk
    cases rx
    obtain ⟨t, rfl⟩ := ry
    obtain ⟨its, r, ⟨⟨cls, dd, data, sl⟩, ho, hc, n, hd⟩, hs⟩ := I.tuple hT.sq
    simp only at hc hd
    subst hc hd
    refine wpAny_binaryOp_repeat_ref (T := "tuple") (U := "int") (by decide) ⟨_, ho, rfl⟩ (fun s' => typeIs_int s' 1 t) noFill_tuple_mul F.fills_int_mul F.slot_int_rmul repeat_tuple F.slot_int_index.lookup
      (call_meets F.slot_int_rmul (typeIs_int s 1 t) F.entry_int_rmul (F.args_int_rmul_2 _ _) (int_rmul_tuple 1 t l its.toArray n dd sl)
        ⟨ho, rfl, ⟨_, ho, rfl⟩, call_meets F.slot_tuple_mul ⟨_, ho, rfl⟩ F.entry_tuple_mul (F.args_tuple_mul_2 _ _) (tuple_mulW1 l its.toArray n dd sl t) ⟨ho, ?_⟩⟩)
    refine ⟨.ref l, H, I, rfl, q _ _ (same_rfl _) ?_⟩
    have : (List.replicate (1 : Int).toNat xs).flatten = xs := by simp
    rw [this]
    exact hT
  · exact op_repT pins s σ H _ _ v u Q I rx ry ⟨l, k, xs, rfl, rfl, hT.sq, hne, by omega, h2, hz, fun p hp => q _ _ (Same.new hp) (.inl upd_same)⟩
end U
set_option Elab.async false
set_option linter.all false
set_option maxRecDepth 100000
set_option maxHeartbeats 4000000
/-! plain_poly, row_quotient, quotients. -/
namespace U
open PySem PySem.Spec PyProof.Rows L2
def zeros (n : Nat) : Pw := List.replicate n 0
def unitP (n k : Nat) : Pw := (List.range n).map fun j => if j = k then 1 else 0
def plainTs (n : Nat) : Row → Poly
  | .num q => [(zeros n, q)]
  | .let_ k => [(unitP n k, 1)]
  | .op _ _ _ => []
def oneTs (n : Nat) : Poly := [(zeros n, 1)]
abbrev PQ := Poly × Poly
def pqAt (acc : List PQ) (i : Nat) : PQ := acc.getD i ([], [])
def quotOf (n : Nat) (acc : List PQ) : Row → PQ
  | .op .times i j => (polyF (mulTs (pqAt acc i).1 (pqAt acc j).1), polyF (mulTs (pqAt acc i).2 (pqAt acc j).2))
  | .op .over i j => (polyF (mulTs (pqAt acc i).1 (pqAt acc j).2), polyF (mulTs (pqAt acc i).2 (pqAt acc j).1))
  | .op .plus i j => (polyF (polyF (mulTs (pqAt acc i).1 (pqAt acc j).2) ++ polyF (mulTs (pqAt acc j).1 (pqAt acc i).2)), polyF (mulTs (pqAt acc i).2 (pqAt acc j).2))
  | .op .less i j => (polyF (polyF (mulTs (pqAt acc i).1 (pqAt acc j).2) ++ turnF (polyF (mulTs (pqAt acc j).1 (pqAt acc i).2))), polyF (mulTs (pqAt acc i).2 (pqAt acc j).2))
  | r => (polyF (plainTs n r), polyF (oneTs n))
def quotF (n : Nat) (rows : List Row) : List PQ := rows.foldl (fun acc r => acc ++ [quotOf n acc r]) []
theorem quotF_take {n : Nat} {rows : List Row} {i : Nat} {r : Row} (h : rows[i]? = some r) : quotF n (rows.take (i + 1)) = quotF n (rows.take i) ++ [quotOf n (quotF n (rows.take i)) r] := by
  unfold quotF
  rw [List.take_add_one, h, List.foldl_append]
  rfl
theorem quotFold_len (n : Nat) : ∀ (rows : List Row) (acc : List PQ), (rows.foldl (fun acc r => acc ++ [quotOf n acc r]) acc).length = acc.length + rows.length
  | [], _ => rfl
  | r :: rows, acc => by rw [List.foldl_cons, quotFold_len n rows, List.length_append, List.length_cons]; simp; omega
theorem quotF_len (n : Nat) (rows : List Row) : (quotF n rows).length = rows.length := by
  unfold quotF
  rw [quotFold_len]
  simp
/-- what a row wants -/
def QOk (n : Nat) (acc : List PQ) : Row → Prop
  | .num q => PolyOk (plainTs n (.num q))
  | .let_ k => PolyOk (plainTs n (.let_ k))
  | .op .times i j => TimesOk (pqAt acc i).1 (pqAt acc j).1 ∧ TimesOk (pqAt acc i).2 (pqAt acc j).2
  | .op .over i j => (pqAt acc j).1 ≠ [] ∧ TimesOk (pqAt acc i).1 (pqAt acc j).2 ∧ TimesOk (pqAt acc i).2 (pqAt acc j).1
  | .op .plus i j => TimesOk (pqAt acc i).1 (pqAt acc j).2 ∧ TimesOk (pqAt acc j).1 (pqAt acc i).2 ∧ PolyOk (polyF (mulTs (pqAt acc i).1 (pqAt acc j).2) ++ polyF (mulTs (pqAt acc j).1 (pqAt acc i).2)) ∧ TimesOk (pqAt acc i).2 (pqAt acc j).2
  | .op .less i j => TimesOk (pqAt acc i).1 (pqAt acc j).2 ∧ TimesOk (pqAt acc j).1 (pqAt acc i).2 ∧ (∀ t ∈ polyF (mulTs (pqAt acc j).1 (pqAt acc i).2), Sz 4400 t.2) ∧ PolyOk (polyF (mulTs (pqAt acc i).1 (pqAt acc j).2) ++ turnF (polyF (mulTs (pqAt acc j).1 (pqAt acc i).2))) ∧ TimesOk (pqAt acc i).2 (pqAt acc j).2
def eQ (p : PQ) : PyData := .tuple [ePoly p.1, ePoly p.2]
section
variable {K : PySem.W.Frag} {H : Hp}
theorem TD.pq {v : V} {p : PQ} (h : TD K H v (eQ p)) : ∃ a v1 v2, v = .ref a ∧ Tq K H a [v1, v2] ∧ TD K H v1 (ePoly p.1) ∧ TD K H v2 (ePoly p.2) := by
  obtain ⟨a, xs, rfl, ht, hs⟩ := h.tup_inv
  cases hs with
  | cons h1 hs => cases hs with
    | cons h2 hs => cases hs with
      | nil => exact ⟨a, _, _, rfl, ht, h1, h2⟩
theorem TD.of_pq {a : Addr} {v1 v2 : V} {p : PQ} (h : Tq K H a [v1, v2]) (h1 : TD K H v1 (ePoly p.1)) (h2 : TD K H v2 (ePoly p.2)) : TD K H (.ref a) (eQ p) := .tup h (.cons h1 (.cons h2 .nil))
theorem TDs.pq {vs : List V} {acc : List PQ} {i : Nat} (h : TDs K H vs (acc.map eQ)) (hi : i < acc.length) : ∃ v, vs[i]? = some v ∧ TD K H v (eQ (pqAt acc i)) := by
  have e : (acc.map eQ)[i]? = some (eQ (pqAt acc i)) := by
    unfold pqAt
    rw [List.getElem?_map, List.getD_eq_getElem?_getD, List.getElem?_eq_getElem hi]
    rfl
  exact h.get e
theorem td_zeros {a : Addr} {n : Nat} (h : Tq K H a (List.replicate n [V.int 0]).flatten) : TD K H (.ref a) (ePw (zeros n)) := by
  refine .tup h ?_
  unfold zeros
  clear h
  induction n with
  | zero => exact .nil
  | succ n ih =>
    rw [List.replicate_succ, List.replicate_succ, List.flatten_cons, List.map_cons]
    exact .cons (.int 0) ih
end
section
variable {P : Program} {w : World} {K : PySem.W.Frag} {mg : Str → Option Value} {base : Heap}
def spPlain (K : PySem.W.Frag) : Sp := fun vs H Q _ => ∃ (v : V) (r : Row) (n : Nat), vs = [v, .int n] ∧ TD K H v (eRow r) ∧ 1 ≤ n ∧ n ≤ 3 ∧ (∀ w i j, r ≠ .op w i j) ∧ PolyOk (plainTs n r) ∧ ∀ H' v, Same H H' → TD K H' v (ePoly (polyF (plainTs n r))) → Q v H'
def N_plain_poly : List Str := ["row", "many", "k"]
theorem sc_plain_poly : FnScope ["row", "many", "k"] ["row", "many"] (defScope s_plain_poly) := ⟨rfl, rfl, rfl, by decide +kernel, rfl, by decide +kernel, by decide +kernel⟩
theorem f_plain_poly (T : Txt K mg) : Cal P w K mg base 5 "plain_poly" (spPlain K) := by
  refine cal_of T.a_plain_poly sc_plain_poly (fun _ _ _ _ _ _ us hl => match us, hl with | [_, _], _ => rfl) (fun vs H Q E h => ?_) (fun fa cdv A outer s H vs Q E hr h => ?_)
  · obtain ⟨_, _, _, rfl, _⟩ := h
    rfl
  · obtain ⟨v, r, n, rfl, hv, h1, h3, hno, ok, q⟩ := h
    refine ⟨_, (pss_cons (ps_if (pt_cmpR op_eq (pe_ix ix_tup (pv 0) pe_int (fun _ _ => rfl)) pe_str (nomark _))
(pss_one (ps_ret (pe_c (f_poly T) hr (by decide) (by rfl) (pa_cons (pe_lst (pa_cons (pe_tup (pa_cons (pe_op op_repA (pe_tup (pa_cons pe_int pa_nil)) (pv 1)) (pa_cons (pe_ix ix_tup (pv 0) pe_int (fun _ _ => rfl)) pa_nil))) pa_nil)) pa_nil))))
pss_nil)
(pss_one (ps_ret (pe_c (f_poly T) hr (by decide) (by rfl) (pa_cons (pe_lst (pa_cons (pe_tup (pa_cons (pe_callTy call_tuple_of (by rfl) T.b_tuple (by decide +kernel) (pa_cons (pe_lc (own := [("k", 2)]) (g := gName 2) (by rfl) sc_plain_poly.nd (pi_range1 (by rfl) T.b_range (pa_cons (pv 1) pa_nil)) (blkOk_by (N := N_plain_poly) (sc := defScope s_plain_poly) (by decide +kernel)) (fun _ _ _ _ _ => (pg_name (i := 2) sc_plain_poly.nd rfl (Or.inl rfl))) (fun _ _ _ _ _ => pts_nil) (fun _ _ _ _ _ => (pe_callTy call_int1 (by rfl) T.b_int (by decide +kernel) (pa_cons (pe_cmpR op_eq (pv 2) (pe_ix (ix_tupB (K := K) rfl) (pv 0) pe_int (fun _ _ => rfl)) (nomark _)) pa_nil)))) pa_nil)) (pa_cons (pe_con T.k_one (by rfl)) pa_nil))) pa_nil)) pa_nil))))), ?_⟩
    cases r with
    | op wd i j => exact absurd rfl (hno wd i j)
    | num qn =>
      obtain ⟨a, vf, rfl, ta, tf⟩ := hv.row_num
      refine ⟨_, rfl, _, _, _, _, rfl, rfl, ta.sq, a0, rfl, _, rfl, iteY (by decide +kernel) ?_⟩
      refine ⟨(by show 1 ≤ sizeLine; decide), fun t1 ht1 => ⟨_, rfl, t1, n, _, rfl, rfl, .inl upd_same, by simp, by omega, by omega, by show 1 ≤ 1000; decide, fun H2 p s2 tp => ?_⟩⟩
      have s1 : Same H (upd H t1 (.tup [.int 0])) := Same.new ht1
      have s02 := L2.Same.trans s1 s2
      have en : ((n : Nat) : Int).toNat = n := by omega
      rw [en] at tp
      refine ⟨_, rfl, _, _, _, _, rfl, rfl, (ta.up (.of s02)).sq, a1, two_le, fun t2 ht2 => ?_⟩
      have s3 : Same H2 (upd H2 t2 (.tup [.ref p, vf])) := Same.new ht2
      have ttm : TD K (upd H2 t2 (.tup [.ref p, vf])) (.ref t2) (eTm (zeros n, qn)) := TD.of_tm (.inl upd_same) (td_zeros (tp.up (.of s3))) (tf.up (.of (L2.Same.trans s02 s3)))
      refine ⟨(by show 1 ≤ sizeLine; decide), fun l hl => ?_⟩
      have s4 : Same (upd H2 t2 (.tup [.ref p, vf])) (upd (upd H2 t2 (.tup [.ref p, vf])) l (.lst [.ref t2])) := Same.new hl
      refine ⟨.ref l, true, [.ref t2], [(zeros n, qn)], rfl, ⟨l, rfl, upd_same⟩, .cons (ttm.up (.of s4)) .nil, ok, fun H5 v5 s5 t5 => q _ _ (L2.Same.trans s02 (L2.Same.trans s3 (L2.Same.trans s4 s5))) t5⟩
    | let_ c =>
      obtain ⟨a, rfl, ta⟩ := hv.row_let
      refine ⟨_, rfl, _, _, _, _, rfl, rfl, ta.sq, a0, rfl, _, rfl, iteN (by decide +kernel) ?_⟩
      refine ⟨_, rfl, n, rfl, by omega, by omega, fun D hD => ?_⟩
      have en : ((n : Nat) : Int).toNat = n := by omega
      rw [en]
      refine lc_it (walk_range (lo := 0) (n := n)) (fun i H4 => i ≤ n ∧ Ch (· = D) (upd H D (.lst [])) H4 ∧ ∃ zs, H4 D = some (.lst zs) ∧ TDs K H4 zs (((List.range i).map fun j => if j = c then 1 else 0).map fun (n : Nat) => .int (n : Int))) ?_ ?_ ?_ ?_
      · exact ⟨Nat.zero_le _, Ch.refl _ _, [], upd_same, .nil⟩
      · intro _ _ _ _; trivial
      · rintro i x H4 H5 hi ⟨hle, c4, zs, hzs, tzs⟩ ⟨rfl, hx⟩
        have hx : x = .int ((i : Nat) : Int) := by rw [hx]; show V.int (0 + (i : Int)) = _; rw [Int.zero_add]
        subst hx
        have ta5 := ta.up (.of (sameNew hD c4))
        refine ⟨rfl, _, rfl, _, rfl, _, _, _, _, rfl, rfl, ta5.sq, a1, rfl, .inr ⟨_, rfl, ?_⟩⟩
        have lz : zs.length = i := by rw [tzs.len, List.length_map, List.length_map, List.length_range]
        have big : (3 : Nat) < sizeLine := by decide
        have c6 : ∀ y, Ch (· = D) H5 (upd H5 D (.lst (zs ++ [y]))) := fun y => Ch.put rfl hzs (fun _ z => by cases z)
        refine ⟨zs, hzs, by omega, by omega, c4.trans (c6 _), _, upd_same, ?_⟩
        rw [List.range_succ, List.map_append, List.map_append]
        refine (tzs.snoc ?_).up (c6 _).kp
        show TD K H5 (.int (if decide (V.int ((i : Nat) : Int) = V.int ((c : Nat) : Int)) = true then 1 else 0)) (.int (((if i = c then 1 else 0 : Nat)) : Int))
        by_cases z : i = c
        · subst z; simp; exact .int 1
        · rw [if_neg z, if_neg (by simp; omega)]; exact .int 0
      · rintro H4 ⟨_, c4, zs, hzs, tzs⟩
        have s4 : Same H H4 := sameNew hD c4
        refine ⟨D, zs, rfl, .inl ⟨.of hzs, fun p hp => fun an tn => ⟨two_le, fun t2 ht2 => ?_⟩⟩⟩
        have s5 : Same H4 (upd H4 p (.tup zs)) := Same.new hp
        have s6 : Same (upd H4 p (.tup zs)) (upd (upd H4 p (.tup zs)) t2 (.tup [.ref p, .ref an])) := Same.new ht2
        have tpw : TD K (upd H4 p (.tup zs)) (.ref p) (ePw (unitP n c)) := .tup (.inl upd_same) (tzs.up (.of s5))
        have ttm : TD K (upd (upd H4 p (.tup zs)) t2 (.tup [.ref p, .ref an])) (.ref t2) (eTm (unitP n c, 1)) := TD.of_tm (.inl upd_same) (tpw.up (.of s6)) (TD.of_fr (q := 1) (tn _))
        refine ⟨(by show 1 ≤ sizeLine; decide), fun l hl => ?_⟩
        have s7 := Same.new (o := HO.lst [V.ref t2]) hl
        refine ⟨.ref l, true, [.ref t2], [(unitP n c, 1)], rfl, ⟨l, rfl, upd_same⟩, .cons (ttm.up (.of s7)) .nil, ok, fun H8 v8 s8 t8 => q _ _ (L2.Same.trans s4 (L2.Same.trans s5 (L2.Same.trans s6 (L2.Same.trans s7 s8)))) t8⟩
end
end U
set_option Elab.async false
set_option linter.all false
set_option maxRecDepth 100000
set_option maxHeartbeats 4000000
/-! row_quotient, quotients. -/
namespace U
open PySem PySem.Spec PyProof.Rows L2
section
variable {P : Program} {w : World} {K : PySem.W.Frag} {mg : Str → Option Value} {base : Heap}
def spRowQ (K : PySem.W.Frag) : Sp := fun vs H Q _ => ∃ (v : V) (fl : Addr) (xs : List V) (ai : Int) (acc : List PQ) (n : Nat) (wd : Wd) (i j : Nat), vs = [v, .ref fl, .int ai] ∧ TD K H v (eRow (.op wd i j)) ∧ H fl = some (.lst xs) ∧ TDs K H xs (acc.map eQ) ∧ i < acc.length ∧ j < acc.length ∧ QOk n acc (.op wd i j) ∧
  ∀ H' v, Same H H' → TD K H' v (eQ (quotOf n acc (.op wd i j))) → Q v H'
theorem sc_row_quotient : FnScope ["row", "found", "at", "a", "b", "c", "d", "mine", "theirs"] ["row", "found", "at"] (defScope s_row_quotient) := ⟨rfl, rfl, rfl, by decide +kernel, rfl, by decide +kernel, by decide +kernel⟩
theorem f_row_quotient (T : Txt K mg) : Cal P w K mg base 6 "row_quotient" (spRowQ K) := by
  refine cal_of T.a_row_quotient sc_row_quotient (fun _ _ _ _ _ _ us hl => match us, hl with | [_, _, _], _ => rfl) (fun vs H Q E h => ?_) (fun fa cdv A outer s H vs Q E hr h => ?_)
  · obtain ⟨_, _, _, _, _, _, _, _, _, rfl, _⟩ := h
    rfl
  · obtain ⟨v, fl, xs, ai, acc, n, wd, i, j, rfl, hv, hf, hx, hi, hj, ok, q⟩ := h
    refine ⟨_, (pss_cons (ps_asg (pe_ix ix_list (pv 1) (pe_ix ix_tup (pv 0) pe_int (fun _ _ => rfl)) (fun _ _ => rfl)) (pg_tup (by rfl) (pgs_cons (pg_name (i := 3) sc_row_quotient.nd rfl (Or.inl rfl)) (pgs_cons (pg_name (i := 4) sc_row_quotient.nd rfl (Or.inl rfl)) pgs_nil))))
(pss_cons (ps_asg (pe_ix ix_list (pv 1) (pe_ix ix_tup (pv 0) pe_int (fun _ _ => rfl)) (fun _ _ => rfl)) (pg_tup (by rfl) (pgs_cons (pg_name (i := 5) sc_row_quotient.nd rfl (Or.inl rfl)) (pgs_cons (pg_name (i := 6) sc_row_quotient.nd rfl (Or.inl rfl)) pgs_nil))))
(pss_cons (ps_if (pt_cmpR op_eq (pe_ix ix_tup (pv 0) pe_int (fun _ _ => rfl)) pe_str (nomark _))
(pss_one (ps_ret (pe_tup (pa_cons (pe_c (f_poly_times T) hr (by decide) (by rfl) (pa_cons (pv 3) (pa_cons (pv 5) pa_nil))) (pa_cons (pe_c (f_poly_times T) hr (by decide) (by rfl) (pa_cons (pv 4) (pa_cons (pv 6) pa_nil))) pa_nil)))))
pss_nil)
(pss_cons (ps_if (pt_cmpR op_eq (pe_ix ix_tup (pv 0) pe_int (fun _ _ => rfl)) pe_str (nomark _))
(pss_cons (ps_if (pt_cmpR op_eq (pe_callB call_len_seq (by rfl) T.b_len PySem.boot_len (pa_cons (pv 5) pa_nil)) pe_int (nomark _))
(pss_one ps_dead)
pss_nil)
(pss_one (ps_ret (pe_tup (pa_cons (pe_c (f_poly_times T) hr (by decide) (by rfl) (pa_cons (pv 3) (pa_cons (pv 6) pa_nil))) (pa_cons (pe_c (f_poly_times T) hr (by decide) (by rfl) (pa_cons (pv 4) (pa_cons (pv 5) pa_nil))) pa_nil))))))
pss_nil)
(pss_cons (ps_par (i := 7) (j := 8) (by rfl) sc_row_quotient.nd rfl rfl (by decide) rfl rfl (pa_cons (pe_c (f_poly_times T) hr (by decide) (by rfl) (pa_cons (pv 3) (pa_cons (pv 6) pa_nil))) (pa_cons (pe_c (f_poly_times T) hr (by decide) (by rfl) (pa_cons (pv 5) (pa_cons (pv 4) pa_nil))) pa_nil)) (by rfl))
(pss_cons (ps_if (pt_cmpR op_eq (pe_ix ix_tup (pv 0) pe_int (fun _ _ => rfl)) pe_str (nomark _))
(pss_one (ps_ret (pe_tup (pa_cons (pe_c (f_poly_plus T) hr (by decide) (by rfl) (pa_cons (pv 7) (pa_cons (pv 8) pa_nil))) (pa_cons (pe_c (f_poly_times T) hr (by decide) (by rfl) (pa_cons (pv 4) (pa_cons (pv 6) pa_nil))) pa_nil)))))
pss_nil)
(pss_one (ps_ret (pe_tup (pa_cons (pe_c (f_poly_less T) hr (by decide) (by rfl) (pa_cons (pv 7) (pa_cons (pv 8) pa_nil))) (pa_cons (pe_c (f_poly_times T) hr (by decide) (by rfl) (pa_cons (pv 4) (pa_cons (pv 6) pa_nil))) pa_nil))))))))))), ?_⟩
    obtain ⟨a, rfl, ta⟩ := hv.row_op
    obtain ⟨v1, e1, t1⟩ := hx.pq hi
    obtain ⟨v2, e2, t2⟩ := hx.pq hj
    obtain ⟨p1, va, vb, rfl, tp1, tva, tvb⟩ := t1.pq
    obtain ⟨p2, vc, vd, rfl, tp2, tvc, tvd⟩ := t2.pq
    refine ⟨_, rfl, _, rfl, _, _, _, _, rfl, rfl, ta.sq, a1, fl, xs, _, _, rfl, rfl, .of hf, atI_nat e1, p1, _, rfl, tp1.sq, rfl, _, _, rfl, _, _, rfl, rfl, ?_⟩
    refine ⟨_, rfl, _, rfl, _, _, _, _, rfl, rfl, ta.sq, a2, fl, xs, _, _, rfl, rfl, .of hf, atI_nat e2, p2, _, rfl, tp2.sq, rfl, _, _, rfl, _, _, rfl, rfl, ?_⟩
    refine ⟨_, rfl, _, _, _, _, rfl, rfl, ta.sq, a0, rfl, _, rfl, ?_⟩
    have pair : ∀ (H1 : Hp) (x y : V) (A B : Poly), Same H H1 → TD K H1 x (ePoly A) → TD K H1 y (ePoly B) → quotOf n acc (.op wd i j) = (A, B) → ∀ p, H1 p = none → Q (.ref p) (upd H1 p (.tup [x, y])) := fun H1 x y A B s1 tx ty e p hp => by
      have s2 : Same H1 (upd H1 p (.tup [x, y])) := Same.new hp
      refine q _ _ (L2.Same.trans s1 s2) ?_
      rw [e]
      exact TD.of_pq (.inl upd_same) (tx.up (.of s2)) (ty.up (.of s2))
    cases wd with
    | times =>
      refine iteY (by decide +kernel) ?_
      obtain ⟨o1, o2⟩ := ok
      refine ⟨_, rfl, _, rfl, _, _, _, _, rfl, tva, tvc, o1, fun H1 u1 s1 r1 => ?_⟩
      refine ⟨_, rfl, _, rfl, _, _, _, _, rfl, tvb.up (.of s1), tvd.up (.of s1), o2, fun H2 u2 s2 r2 => ⟨two_le, pair H2 u1 u2 _ _ (L2.Same.trans s1 s2) (r1.up (.of s2)) r2 rfl⟩⟩
    | over =>
      refine iteN (by decide +kernel) ⟨_, rfl, _, _, _, _, rfl, rfl, ta.sq, a0, rfl, _, rfl, iteY (by decide +kernel) ?_⟩
      obtain ⟨o0, o1, o2⟩ := ok
      obtain ⟨ac, xc, rfl, tac, txc⟩ := TD.tup_inv tvc
      have lc : xc.length = (pqAt acc j).1.length := by rw [txc.len, List.length_map]
      have nz : 0 < (pqAt acc j).1.length := List.length_pos_iff.mpr o0
      refine ⟨_, rfl, ac, xc, rfl, .inr tac.sq, rfl, _, rfl, iteN (by rw [decide_eq_false_iff_not]; intro z; injection z with z; omega) ?_⟩
      refine ⟨_, rfl, _, rfl, _, _, _, _, rfl, tva, tvd, o1, fun H1 u1 s1 r1 => ?_⟩
      refine ⟨_, rfl, _, rfl, _, _, _, _, rfl, tvb.up (.of s1), tvc.up (.of s1), o2, fun H2 u2 s2 r2 => ⟨two_le, pair H2 u1 u2 _ _ (L2.Same.trans s1 s2) (r1.up (.of s2)) r2 rfl⟩⟩
    | plus =>
      refine iteN (by decide +kernel) ⟨_, rfl, _, _, _, _, rfl, rfl, ta.sq, a0, rfl, _, rfl, iteN (by decide +kernel) ?_⟩
      obtain ⟨o1, o2, o3, o4⟩ := ok
      refine ⟨_, rfl, _, rfl, _, _, _, _, rfl, tva, tvd, o1, fun H1 u1 s1 r1 => ?_⟩
      refine ⟨_, rfl, _, rfl, _, _, _, _, rfl, tvc.up (.of s1), tvb.up (.of s1), o2, fun H2 u2 s2 r2 => ⟨_, _, rfl, ?_⟩⟩
      have s02 := L2.Same.trans s1 s2
      refine ⟨_, rfl, _, _, _, _, rfl, rfl, (ta.up (.of s02)).sq, a0, rfl, _, rfl, iteY (by decide +kernel) ?_⟩
      refine ⟨_, rfl, _, rfl, _, _, _, _, rfl, r1.up (.of s2), r2, o3, fun H3 u3 s3 r3 => ?_⟩
      have s03 := L2.Same.trans s02 s3
      refine ⟨_, rfl, _, rfl, _, _, _, _, rfl, tvb.up (.of s03), tvd.up (.of s03), o4, fun H4 u4 s4 r4 => ⟨two_le, pair H4 u3 u4 _ _ (L2.Same.trans s03 s4) (r3.up (.of s4)) r4 rfl⟩⟩
    | less =>
      refine iteN (by decide +kernel) ⟨_, rfl, _, _, _, _, rfl, rfl, ta.sq, a0, rfl, _, rfl, iteN (by decide +kernel) ?_⟩
      obtain ⟨o1, o2, oz, o3, o4⟩ := ok
      refine ⟨_, rfl, _, rfl, _, _, _, _, rfl, tva, tvd, o1, fun H1 u1 s1 r1 => ?_⟩
      refine ⟨_, rfl, _, rfl, _, _, _, _, rfl, tvc.up (.of s1), tvb.up (.of s1), o2, fun H2 u2 s2 r2 => ⟨_, _, rfl, ?_⟩⟩
      have s02 := L2.Same.trans s1 s2
      refine ⟨_, rfl, _, _, _, _, rfl, rfl, (ta.up (.of s02)).sq, a0, rfl, _, rfl, iteN (by decide +kernel) ?_⟩
      refine ⟨_, rfl, _, rfl, _, _, _, _, rfl, r1.up (.of s2), r2, oz, o3, fun H3 u3 s3 r3 => ?_⟩
      have s03 := L2.Same.trans s02 s3
      refine ⟨_, rfl, _, rfl, _, _, _, _, rfl, tvb.up (.of s03), tvd.up (.of s03), o4, fun H4 u4 s4 r4 => ⟨two_le, pair H4 u3 u4 _ _ (L2.Same.trans s03 s4) (r3.up (.of s4)) r4 rfl⟩⟩
/-- what all of it wants -/
structure QuotOk (n : Nat) (rows : List Row) : Prop where
  n1 : 1 ≤ n
  n3 : n ≤ 3
  wf : ∀ i r, rows[i]? = some r → RowWf n i r
  len : rows.length < sizeLine
  one : PolyOk (oneTs n)
  each : ∀ i r, rows[i]? = some r → QOk n (quotF n (rows.take i)) r
def spQuot (K : PySem.W.Frag) : Sp := fun vs H Q _ => ∃ (v : V) (ls : List Str) (rows : List Row), vs = [v] ∧ TD K H v (eRk ls rows) ∧ QuotOk ls.length rows ∧ ∀ H' u, Same H H' → Q u H'
theorem sc_quotients : FnScope ["reckoning", "letters", "rows", "one", "found", "at", "row"] ["reckoning"] (defScope s_quotients) := ⟨rfl, rfl, rfl, by decide +kernel, rfl, by decide +kernel, by decide +kernel⟩
theorem f_quotients (T : Txt K mg) : Cal P w K mg base 7 "quotients" (spQuot K) := by
  refine cal_of T.a_quotients sc_quotients (fun _ _ _ _ _ _ us hl => match us, hl with | [_], _ => rfl) (fun vs H Q E h => ?_) (fun fa cdv A outer s H vs Q E hr h => ?_)
  · obtain ⟨_, _, _, rfl, _⟩ := h
    rfl
  · obtain ⟨v, ls, rows, rfl, hv, ok, q⟩ := h
    refine ⟨_, (pss_cons (ps_asg (pv 0) (pg_tup (by rfl) (pgs_cons (pg_name (i := 1) sc_quotients.nd rfl (Or.inl rfl)) (pgs_cons (pg_name (i := 2) sc_quotients.nd rfl (Or.inl rfl)) pgs_nil))))
(pss_cons (ps_set (i := 3) sc_quotients.nd rfl (Or.inl rfl) (pe_c (f_poly T) hr (by decide) (by rfl) (pa_cons (pe_lst (pa_cons (pe_tup (pa_cons (pe_op op_repA (pe_tup (pa_cons pe_int pa_nil)) (pe_callB call_len_seq (by rfl) T.b_len PySem.boot_len (pa_cons (pv 1) pa_nil))) (pa_cons (pe_con T.k_one (by rfl)) pa_nil))) pa_nil)) pa_nil)))
(pss_cons (ps_set (i := 4) sc_quotients.nd rfl (Or.inl rfl) (pe_lst pa_nil))
(pss_cons (ps_for PassesOwn.never rfl (pi_enumT (by rfl) T.b_enumerate (pa_cons (pv 2) pa_nil)) (pg_tup (by rfl) (pgs_cons (pg_name (i := 5) sc_quotients.nd rfl (Or.inl rfl)) (pgs_cons (pg_name (i := 6) sc_quotients.nd rfl (Or.inl rfl)) pgs_nil)))
(pss_one (ps_if (pt_cmpR op_in_seq (pe_ix ix_tup (pv 6) pe_int (fun _ _ => rfl)) (pe_tup (pa_cons pe_str (pa_cons pe_str pa_nil))) rfl)
(pss_one (ps_expr (pe_bm PySem.F.plainAttrs_list PySem.F.slot_list_append PySem.F.type_list_append mt_append (pv 4) (pa_cons (pe_tup (pa_cons (pe_c (f_plain_poly T) hr (by decide) (by rfl) (pa_cons (pv 6) (pa_cons (pe_callB call_len_seq (by rfl) T.b_len PySem.boot_len (pa_cons (pv 1) pa_nil)) pa_nil))) (pa_cons (pv 3) pa_nil))) pa_nil))))
(pss_one (ps_expr (pe_bm PySem.F.plainAttrs_list PySem.F.slot_list_append PySem.F.type_list_append mt_append (pv 4) (pa_cons (pe_c (f_row_quotient T) hr (by decide) (by rfl) (pa_cons (pv 6) (pa_cons (pv 4) (pa_cons (pv 5) pa_nil)))) pa_nil)))))))
(pss_one (ps_ret (pv 4))))))), ?_⟩
    obtain ⟨ak, vl, vr, rfl, tk, tl, tr⟩ := hv.rk
    obtain ⟨al, xl, rfl, tql, tdl⟩ := tl.tup_inv
    obtain ⟨ar, xr, rfl, tqr, tdr⟩ := tr.tup_inv
    have ll : xl.length = ls.length := by rw [tdl.len, List.length_map]
    have lr : xr.length = rows.length := by rw [tdr.len, List.length_map]
    have n1 := ok.n1
    have n3 := ok.n3
    refine ⟨_, rfl, ak, _, rfl, tk.sq, rfl, _, _, rfl, _, _, rfl, rfl, ?_⟩
    refine ⟨(by show 1 ≤ sizeLine; decide), fun t1 ht1 => ?_⟩
    have s1 : Same H (upd H t1 (.tup [.int 0])) := Same.new ht1
    refine ⟨_, rfl, al, xl, rfl, .inr (tql.up (.of s1)).sq, t1, ((xl.length : Nat) : Int), _, rfl, rfl, .inl upd_same, by simp, by omega, by omega, by show 1 ≤ 1000; decide, fun H2 p s2 tp => ?_⟩
    have en : ((xl.length : Nat) : Int).toNat = ls.length := by omega
    rw [en] at tp
    have s02 := L2.Same.trans s1 s2
    refine fun an tn => ⟨two_le, fun t2 ht2 => ?_⟩
    have s3 : Same H2 (upd H2 t2 (.tup [.ref p, .ref an])) := Same.new ht2
    have ttm : TD K (upd H2 t2 (.tup [.ref p, .ref an])) (.ref t2) (eTm (zeros ls.length, 1)) := TD.of_tm (.inl upd_same) (td_zeros (tp.up (.of s3))) (TD.of_fr (q := 1) (tn _))
    refine ⟨(by show 1 ≤ sizeLine; decide), fun l hl => ?_⟩
    have s4 : Same (upd H2 t2 (.tup [.ref p, .ref an])) (upd (upd H2 t2 (.tup [.ref p, .ref an])) l (.lst [.ref t2])) := Same.new hl
    refine ⟨.ref l, true, [.ref t2], oneTs ls.length, rfl, ⟨l, rfl, upd_same⟩, .cons (ttm.up (.of s4)) .nil, ok.one, fun H5 v5 s5 t5 => ?_⟩
    have s05 := L2.Same.trans s02 (L2.Same.trans s3 (L2.Same.trans s4 s5))
    refine ⟨Nat.zero_le _, fun f hf => ?_⟩
    have s6 : Same H5 (upd H5 f (.lst [])) := Same.new hf
    have s06 := L2.Same.trans s05 s6
    refine ⟨_, rfl, ar, xr, rfl, (tqr.up (.of s06)).sq, ?_⟩
    refine for_it (walk_enumT (xs := xr)) (fun i σ H7 => i ≤ rows.length ∧ Ch (· = f) (upd H5 f (.lst [])) H7 ∧ (∃ xs, H7 f = some (.lst xs) ∧ TDs K H7 xs ((quotF ls.length (rows.take i)).map eQ)) ∧ ∃ x5 x6, σ = [some (.ref ak), some (.ref al), some (.ref ar), some v5, some (.ref f), x5, x6]) ?_ ?_ ?_ ?_
    · exact ⟨Nat.zero_le _, Ch.refl _ _, ⟨[], upd_same, .nil⟩, _, _, rfl⟩
    · rintro i σ H7 _ ⟨_, c, _⟩
      exact (tqr.up (.of (L2.Same.trans s05 (sameNew hf c)))).sq
    · rintro i x σ H7 H8 hi ⟨hle, c, ⟨xs, hxs, txs⟩, x5, x6, rfl⟩ ⟨tp8, u1, u2, rfl, htp, rfl, e1, e2⟩
      cases e1
      have s7 : Same H H7 := L2.Same.trans s05 (sameNew hf c)
      obtain ⟨d, ed, td⟩ := tdr.get' e2
      rw [List.getElem?_map] at ed
      obtain ⟨r, er, rfl⟩ := Option.map_eq_some_iff.mp ed
      have s8 : Same H7 (upd H7 tp8 (.tup [.int i, u2])) := Same.new htp
      have s08 := L2.Same.trans s7 s8
      have tr8 := td.up (.of s08)
      have hx8 := s8 _ _ hxs
      have wfr := ok.wf i r er
      have qok := ok.each i r er
      have lq : (quotF ls.length (rows.take i)).length = i := by rw [quotF_len, List.length_take]; omega
      have lxs : xs.length = i := by rw [txs.len, List.length_map, lq]
      have lrows := ok.len
      obtain ⟨br, yr, eu, tbr⟩ := tr8.row_head
      subst eu
      refine ⟨tp8, _, rfl, .inl (.inl upd_same), rfl, _, _, rfl, _, _, rfl, rfl, ?_⟩
      refine ⟨_, rfl, _, _, _, _, rfl, rfl, tbr.sq, a0, two_le, fun t9 ht9 => ?_⟩
      have s9 : Same (upd H7 tp8 (.tup [.int i, .ref br])) (upd (upd H7 tp8 (.tup [.int i, .ref br])) t9 (.tup [.str "number", .str "letter"])) := Same.new ht9
      refine ⟨t9, _, rfl, .inr (.inl (.inl upd_same)), rfl, rfl, _, rfl, ?_⟩
      rw [if_neg (by decide), bare_in]
      have hx9 := s9 _ _ hx8
      have c9 := (c.same s8).same s9
      have s09 := L2.Same.trans s08 s9
      have tr9 := tr8.up (.of s9)
      have txs9 := txs.up (.of (L2.Same.trans s8 s9))
      have t5' := t5.up (.of (L2.Same.trans (sameNew hf c) (L2.Same.trans s8 s9)))
      generalize upd (upd H7 tp8 (.tup [.int i, .ref br])) t9 (.tup [.str "number", .str "letter"]) = H9 at hx9 c9 s09 tr9 txs9 t5' ⊢
      have fin : ∀ (H10 : Hp) (y : V), Same H9 H10 → TD K H10 y (eQ (quotOf ls.length (quotF ls.length (rows.take i)) r)) → i + 1 ≤ rows.length ∧ Ch (· = f) (upd H5 f (.lst [])) (upd H10 f (.lst (xs ++ [y]))) ∧ (∃ xs_1, upd H10 f (.lst (xs ++ [y])) f = some (.lst xs_1) ∧ TDs K (upd H10 f (.lst (xs ++ [y]))) xs_1 ((quotF ls.length (rows.take (i + 1))).map eQ)) := fun H10 y s10 ty => by
        have c10 : Ch (· = f) H10 (upd H10 f (.lst (xs ++ [y]))) := Ch.put rfl (s10 _ _ hx9) (fun _ z => by cases z)
        refine ⟨by omega, (c9.same s10).trans c10, _, upd_same, ?_⟩
        rw [quotF_take er, List.map_append]
        exact ((txs9.up (.of s10)).snoc ty).up c10.kp
      have bareCase : (∀ w a b, r ≠ .op w a b) → PolyOk (plainTs ls.length r) → quotOf ls.length (quotF ls.length (rows.take i)) r = (polyF (plainTs ls.length r), polyF (oneTs ls.length)) → True := fun _ _ _ => trivial
      cases r with
      | num qn =>
        refine iteY rfl ?_
        refine ⟨_, rfl, .inl ⟨rfl, xs, .of hx9⟩, _, rfl, _, rfl, al, xl, rfl, .inr (tql.up (.of s09)).sq, _, .num qn, xl.length, rfl, tr9, by omega, by omega, (fun w a b z => by cases z), by rw [ll]; exact qok, fun H10 v10 s10 t10 => ⟨_, rfl, two_le, fun t11 ht11 => ?_⟩⟩
        have s11 : Same H10 (upd H10 t11 (.tup [v10, v5])) := Same.new ht11
        have s911 := L2.Same.trans s10 s11
        refine ⟨f, xs, _, rfl, rfl, s911 _ _ hx9, by omega, ?_⟩
        have := fin _ (.ref t11) s911 (TD.of_pq (p := (polyF (plainTs ls.length (.num qn)), polyF (oneTs ls.length))) (.inl upd_same) (by rw [← ll]; exact t10.up (.of s11)) (t5'.up (.of s911)))
        exact ⟨this.1, this.2.1, this.2.2, _, _, rfl⟩
      | let_ kn =>
        refine iteY rfl ?_
        refine ⟨_, rfl, .inl ⟨rfl, xs, .of hx9⟩, _, rfl, _, rfl, al, xl, rfl, .inr (tql.up (.of s09)).sq, _, .let_ kn, xl.length, rfl, tr9, by omega, by omega, (fun w a b z => by cases z), by rw [ll]; exact qok, fun H10 v10 s10 t10 => ⟨_, rfl, two_le, fun t11 ht11 => ?_⟩⟩
        have s11 : Same H10 (upd H10 t11 (.tup [v10, v5])) := Same.new ht11
        have s911 := L2.Same.trans s10 s11
        refine ⟨f, xs, _, rfl, rfl, s911 _ _ hx9, by omega, ?_⟩
        have := fin _ (.ref t11) s911 (TD.of_pq (p := (polyF (plainTs ls.length (.let_ kn)), polyF (oneTs ls.length))) (.inl upd_same) (by rw [← ll]; exact t10.up (.of s11)) (t5'.up (.of s911)))
        exact ⟨this.1, this.2.1, this.2.2, _, _, rfl⟩
      | op wd a b =>
        refine iteN rfl ?_
        obtain ⟨ha, hb⟩ := wfr
        refine ⟨_, rfl, .inl ⟨rfl, xs, .of hx9⟩, _, rfl, _, rfl, _, rfl, _, f, xs, i, quotF ls.length (rows.take i), ls.length, wd, a, b, rfl, tr9, hx9, txs9, by omega, by omega, qok, fun H10 v10 s10 t10 => ?_⟩
        refine ⟨f, xs, _, rfl, rfl, s10 _ _ hx9, by omega, ?_⟩
        have := fin _ v10 s10 t10
        exact ⟨this.1, this.2.1, this.2.2, _, _, rfl⟩
    · rintro σ H7 ⟨_, c, _, x5, x6, rfl⟩
      exact ⟨_, rfl, q _ _ (L2.Same.trans s05 (sameNew hf c))⟩
end
end U
set_option Elab.async false
set_option linter.all false
set_option maxRecDepth 100000
set_option maxHeartbeats 4000000
/-! points_up_to, good_point. -/
namespace U
open PySem PySem.Spec PyProof.Rows L2
def ratP (p : List Nat) : List Rat := p.map fun (n : Nat) => (((n : Int)) : Rat)
def ptStep (top : Nat) (f : List (List Nat)) : List (List Nat) := f.flatMap fun p => (List.range (top + 1)).map fun n => p ++ [n]
def ptsF : Nat → Nat → List (List Nat)
  | 0, _ => [[]]
  | m + 1, top => ptStep top (ptsF m top)
def ePt (p : List Nat) : PyData := .tuple ((ratP p).map eF)
theorem ptStep_len (top : Nat) (f : List (List Nat)) : (ptStep top f).length = f.length * (top + 1) := by
  unfold ptStep
  induction f with
  | nil => simp
  | cons p f ih => rw [List.flatMap_cons, List.length_append, ih, List.length_map, List.length_range, List.length_cons, Nat.add_mul]; omega
theorem ptsF_len : ∀ (m top : Nat), (ptsF m top).length = (top + 1) ^ m
  | 0, _ => rfl
  | m + 1, top => by rw [ptsF, ptStep_len, ptsF_len m top, Nat.pow_succ]
theorem ptsF_mem : ∀ {m top : Nat} {p : List Nat}, p ∈ ptsF m top ↔ p.length = m ∧ ∀ x ∈ p, x ≤ top
  | 0, top, p => by
    simp only [ptsF, List.mem_singleton]
    constructor
    · rintro rfl; simp
    · rintro ⟨h, _⟩; exact List.eq_nil_of_length_eq_zero h
  | m + 1, top, p => by
    simp only [ptsF, ptStep, List.mem_flatMap, List.mem_map, List.mem_range]
    constructor
    · rintro ⟨q, hq, n, hn, rfl⟩
      obtain ⟨h1, h2⟩ := ptsF_mem.mp hq
      refine ⟨by rw [List.length_append, h1]; rfl, fun x hx => ?_⟩
      rcases List.mem_append.mp hx with h | h
      · exact h2 x h
      · rw [List.mem_singleton] at h; omega
    · rintro ⟨h1, h2⟩
      have hne : p ≠ [] := fun z => by rw [z] at h1; cases h1
      refine ⟨p.dropLast, ptsF_mem.mpr ⟨by rw [List.length_dropLast, h1]; rfl, fun x hx => h2 x ((List.dropLast_sublist p).subset hx)⟩, p.getLast hne, ?_, List.dropLast_concat_getLast hne⟩
      have := h2 _ (List.getLast_mem hne)
      omega
theorem eF_int (n : Nat) : eF (((n : Int)) : Rat) = .tuple [.int n, .int 1] := by
  unfold eF
  rw [Rat.num_intCast, Rat.den_intCast]
  rfl
section
variable {P : Program} {w : World} {K : PySem.W.Frag} {mg : Str → Option Value} {base : Heap}
def spPts (K : PySem.W.Frag) : Sp := fun vs H Q _ => ∃ (m top : Nat), vs = [.int m, .int top] ∧ m ≤ 3 ∧ top < 1000 ∧ (top + 1) ^ m ≤ sizeLine ∧ ∀ H' l xs, Same H H' → H' l = some (.lst xs) → TDs K H' xs ((ptsF m top).map ePt) → Q (.ref l) H'
def N_points_up_to : List Str := ["many", "top", "found", "k", "longer", "point", "n"]
theorem sc_points_up_to : FnScope ["many", "top", "found", "k", "longer", "point", "n"] ["many", "top"] (defScope s_points_up_to) := ⟨rfl, rfl, rfl, by decide +kernel, rfl, by decide +kernel, by decide +kernel⟩
theorem ptStep_take {f : List (List Nat)} {top i : Nat} {p : List Nat} (h : f[i]? = some p) : ptStep top (f.take (i + 1)) = ptStep top (f.take i) ++ (List.range (top + 1)).map fun n => p ++ [n] := by
  unfold ptStep
  rw [List.take_add_one, h, List.flatMap_append]
  simp
theorem f_points_up_to (T : Txt K mg) : Cal P w K mg base 1 "points_up_to" (spPts K) := by
  refine cal_of T.a_points_up_to sc_points_up_to (fun _ _ _ _ _ _ us hl => match us, hl with | [_, _], _ => rfl) (fun vs H Q E h => ?_) (fun fa cdv A outer s H vs Q E hr h => ?_)
  · obtain ⟨_, _, rfl, _⟩ := h
    rfl
  · obtain ⟨m, top, rfl, m3, t1000, hz, q⟩ := h
    refine ⟨_, (pss_cons (ps_set (i := 2) sc_points_up_to.nd rfl (Or.inl rfl) (pe_lst (pa_cons (pe_tup pa_nil) pa_nil)))
(pss_cons (ps_for PassesOwn.never rfl (pi_range1 (by rfl) T.b_range (pa_cons (pv 0) pa_nil)) (pg_name (i := 3) sc_points_up_to.nd rfl (Or.inl rfl))
(pss_cons (ps_set (i := 4) sc_points_up_to.nd rfl (Or.inl rfl) (pe_lst pa_nil))
(pss_cons (ps_for PassesOwn.never rfl (pi_list (pv 2)) (pg_name (i := 5) sc_points_up_to.nd rfl (Or.inr rfl))
(pss_one (ps_expr (pe_bm PySem.F.plainAttrs_list PySem.F.slot_list_extend PySem.F.type_list_extend mt_extend (pv 4) (pa_cons (pe_lc (own := [("n", 6)]) (g := gName 6) (by rfl) sc_points_up_to.nd (pi_range1 (by rfl) T.b_range (pa_cons (pe_op op_add (pv 1) pe_int) pa_nil)) (blkOk_by (N := N_points_up_to) (sc := defScope s_points_up_to) (by decide +kernel)) (fun _ _ _ _ _ => (pg_name (i := 6) sc_points_up_to.nd rfl (Or.inl rfl))) (fun _ _ _ _ _ => pts_nil) (fun _ _ _ _ _ => (pe_op (op_catDB (K := K) rfl) (pv 5) (pe_tup (pa_cons (pe_tup (pa_cons (pv 6) (pa_cons pe_int pa_nil))) pa_nil))))) pa_nil)))))
(pss_one (ps_set (i := 2) sc_points_up_to.nd rfl (Or.inl rfl) (pv 4))))))
(pss_one (ps_ret (pv 2))))), ?_⟩
    refine ⟨Nat.zero_le _, fun e he => ⟨(by show 1 ≤ sizeLine; decide), fun f0 hf0 => ?_⟩⟩
    have s1 : Same H (upd H e (.tup [])) := Same.new he
    have s2 : Same (upd H e (.tup [])) (upd (upd H e (.tup [])) f0 (.lst [.ref e])) := Same.new hf0
    have tde : TD K (upd (upd H e (.tup [])) f0 (.lst [.ref e])) (.ref e) (ePt []) := .tup (.inl (s2 _ _ upd_same)) .nil
    refine ⟨_, rfl, (m : Int), rfl, by omega, by omega, ?_⟩
    have en : ((m : Nat) : Int).toNat = m := by omega
    rw [en]
    refine for_it (walk_range (lo := 0) (n := m)) (fun i σ H1 => i ≤ m ∧ Same H H1 ∧ ∃ f xs x3 x4 x5 x6, σ = [some (.int m), some (.int top), some (.ref f), x3, x4, x5, x6] ∧ H1 f = some (.lst xs) ∧ TDs K H1 xs ((ptsF i top).map ePt)) ?_ ?_ ?_ ?_
    · exact ⟨Nat.zero_le _, L2.Same.trans s1 s2, f0, [.ref e], _, _, _, _, rfl, upd_same, .cons tde .nil⟩
    · intro _ _ _ _ _; trivial
    · rintro i x σ H1 H2 hi ⟨hle, sH, f, xs, x3, x4, x5, x6, rfl, hf, tf⟩ ⟨rfl, rfl⟩
      refine ⟨Nat.zero_le _, fun l hl => ?_⟩
      have s3 : Same H2 (upd H2 l (.lst [])) := Same.new hl
      have hfl : f ≠ l := ne_of_none hf hl
      have lf : xs.length = (ptsF i top).length := by rw [tf.len, List.length_map]
      have lle : (ptsF i top).length * (top + 1) ≤ sizeLine := by
        rw [ptsF_len, ← Nat.pow_succ]
        exact Nat.le_trans (Nat.pow_le_pow_right (by omega) (by omega)) hz
      refine ⟨_, rfl, f, rfl, ⟨xs, .of (s3 _ _ hf)⟩, ?_⟩
      refine for_it (walk_list (xs := xs)) (fun j σ H3 => j ≤ (ptsF i top).length ∧ Ch (· = l) (upd H2 l (.lst [])) H3 ∧ ∃ ys x5 x6, σ = [some (.int m), some (.int top), some (.ref f), some (.int (0 + (i : Int))), some (.ref l), x5, x6] ∧ H3 l = some (.lst ys) ∧ TDs K H3 ys ((ptStep top ((ptsF i top).take j)).map ePt)) ?_ ?_ ?_ ?_
      · exact ⟨Nat.zero_le _, Ch.refl _ _, [], _, _, rfl, upd_same, .nil⟩
      · rintro j σ H3 _ ⟨_, c, _⟩
        exact .of (c.keep _ _ hfl (by rw [upd_ne hfl]; exact hf))
      · rintro j xp σ H3 H4 hj ⟨hjle, c, ys, y5, y6, rfl, hys, tys⟩ ⟨rfl, ep⟩
        have s24 : Same H2 H4 := sameNew hl c
        obtain ⟨dd, ed, tdd⟩ := (tf.up (.of s24)).get' ep
        rw [List.getElem?_map] at ed
        obtain ⟨p, eep, rfl⟩ := Option.map_eq_some_iff.mp ed
        obtain ⟨ap, xsp, rfl, tqp, tsp⟩ := TD.tup_inv tdd
        refine ⟨_, rfl, .inl ⟨rfl, ys, .of hys⟩, _, rfl, _, _, rfl, rfl, (top : Int) + 1, rfl, by omega, by omega, fun D hD => ?_⟩
        have en2 : ((top : Int) + 1).toNat = top + 1 := by omega
        rw [en2]
        have hlD : l ≠ D := ne_of_none hys hD
        refine lc_it (walk_range (lo := 0) (n := top + 1)) (fun n H5 => n ≤ top + 1 ∧ Ch (· = D) (upd H4 D (.lst [])) H5 ∧ ∃ zs, H5 D = some (.lst zs) ∧ TDs K H5 zs ((((List.range n).map fun n => p ++ [n])).map ePt)) ?_ ?_ ?_ ?_
        · exact ⟨Nat.zero_le _, Ch.refl _ _, [], upd_same, .nil⟩
        · intro _ _ _ _; trivial
        · rintro n xn H5 H6 hn ⟨hnle, c5, zs, hzs, tzs⟩ ⟨rfl, hx⟩
          have hx : xn = .int ((n : Nat) : Int) := by rw [hx]; show V.int (0 + (n : Int)) = _; rw [Int.zero_add]
          subst hx
          have s46 : Same H4 H6 := sameNew hD c5
          refine ⟨rfl, _, rfl, _, rfl, two_le, fun t1 ht1 => ⟨(by show 1 ≤ sizeLine; decide), fun t2 ht2 => ?_⟩⟩
          have s7 : Same H6 (upd H6 t1 (.tup [.int n, .int 1])) := Same.new ht1
          have s8 : Same (upd H6 t1 (.tup [.int n, .int 1])) (upd (upd H6 t1 (.tup [.int n, .int 1])) t2 (.tup [.ref t1])) := Same.new ht2
          have s48 := L2.Same.trans s46 (L2.Same.trans s7 s8)
          have lp : xsp.length = p.length := by rw [tsp.len, List.length_map]; unfold ratP; rw [List.length_map]
          have pm := ptsF_mem.mp (List.mem_of_getElem? eep)
          have big : (100 : Nat) < sizeLine := by decide
          refine ⟨ap, t2, xsp, [.ref t1], rfl, rfl, tqp.up (.of s48), .inl upd_same, by rw [lp, pm.1]; show i + 1 ≤ sizeLine; omega, fun H9 p9 s9 tp9 => ?_⟩
          have td1 : TD K H9 (.ref t1) (eF (((n : Int)) : Rat)) := by
            rw [eF_int]
            exact .tup (.inl (s9 _ _ (s8 _ _ upd_same))) (.cons (.int _) (.cons (.int _) .nil))
          have tdp : TD K H9 (.ref p9) (ePt (p ++ [n])) := by
            refine .tup tp9 ?_
            unfold ratP
            rw [List.map_append, List.map_append]
            exact (tsp.up (.of (L2.Same.trans s48 s9))).app (.cons td1 .nil)
          have s69 := L2.Same.trans s7 (L2.Same.trans s8 s9)
          have hz9 := s69 _ _ hzs
          have lz : zs.length = n := by rw [tzs.len, List.length_map, List.length_map, List.length_range]
          have c10 : Ch (· = D) H9 (upd H9 D (.lst (zs ++ [.ref p9]))) := Ch.put rfl hz9 (fun _ z => by cases z)
          have bigT : (2000 : Nat) < sizeLine := by decide
          refine ⟨zs, hz9, by omega, by omega, (c5.same s69).trans c10, _, upd_same, ?_⟩
          rw [List.range_succ, List.map_append, List.map_append]
          exact ((tzs.up (.of s69)).snoc tdp).up c10.kp
        · rintro H5 ⟨_, c5, zs, hzs, tzs⟩
          have s45 : Same H4 H5 := sameNew hD c5
          have hys5 : H5 l = some (.lst ys) := c5.keep _ _ hlD (by rw [upd_ne hlD]; exact hys)
          have lz : zs.length = top + 1 := by rw [tzs.len, List.length_map, List.length_map, List.length_range]
          have ly : ys.length = ((ptsF i top).take j).length * (top + 1) := by rw [tys.len, List.length_map, ptStep_len]
          have hj' : j < (ptsF i top).length := by omega
          have lyz : ys.length + zs.length ≤ sizeLine := by
            rw [ly, lz, List.length_take, Nat.min_eq_left (by omega)]
            have : (j + 1) * (top + 1) ≤ (ptsF i top).length * (top + 1) := Nat.mul_le_mul_right _ (by omega)
            rw [Nat.add_mul] at this
            omega
          have c6 : Ch (· = l) H5 (upd H5 l (.lst (ys ++ zs))) := Ch.put rfl hys5 (fun _ z => by cases z)
          refine ⟨l, D, ys, zs, rfl, rfl, hys5, hzs, lyz, by omega, (c.same s45).trans c6, _, _, _, rfl, upd_same, ?_⟩
          rw [ptStep_take eep, List.map_append]
          exact ((tys.up (.of s45)).app tzs).up c6.kp
      · rintro σ H3 ⟨_, c, ys, y5, y6, rfl, hys, tys⟩
        rw [lf, List.take_length] at tys
        refine ⟨_, rfl, by omega, L2.Same.trans sH (sameNew hl c), l, ys, _, _, _, _, rfl, hys, tys⟩
    · rintro σ H1 ⟨_, sH, f, xs, x3, x4, x5, x6, rfl, hf, tf⟩
      exact ⟨_, rfl, q _ _ _ sH hf tf⟩
end
end U
set_option Elab.async false
set_option linter.all false
set_option maxRecDepth 100000
set_option maxHeartbeats 4000000
/-! good_point. -/
namespace U
open PySem PySem.Spec PyProof.Rows L2
structure GoodOk (n : Nat) (rows : List Row) (T : Nat) : Prop where
  quot : QuotOk n rows
  few : T < 200
  sz : (T + 1) ^ 3 ≤ sizeLine
  run : ∀ p : List Nat, p.length = n → (∀ x ∈ p, x ≤ T) → RunOk (ratP p) rows
  good : ∃ p : List Nat, p.length = n ∧ (∀ x ∈ p, x ≤ T) ∧ GoodTo (ratP p) rows rows.length
section
variable {P : Program} {w : World} {K : PySem.W.Frag} {mg : Str → Option Value} {base : Heap} {CN fI : Addr}
def spGood (K : PySem.W.Frag) : Sp := fun vs H Q _ => ∃ (v : V) (ls : List Str) (rows : List Row) (T : Nat), vs = [v] ∧ TD K H v (eRk ls rows) ∧ GoodOk ls.length rows T ∧
  ∀ H' u p, Same H H' → p.length = ls.length → (∀ x ∈ p, x ≤ T) → GoodTo (ratP p) rows rows.length → TD K H' u (ePt p) → Q u H'
def N_good_point : List Str := ["reckoning", "many", "top", "point", "f"]
theorem sc_good_point : FnScope ["reckoning", "many", "top", "point", "f"] ["reckoning"] (defScope s_good_point) := ⟨rfl, rfl, rfl, by decide +kernel, rfl, by decide +kernel, by decide +kernel⟩
theorem f_good_point (T : Txt K mg) (TN : NoOv K mg CN fI) : Cal P w K mg base 8 "good_point" (spGood K) := by
  refine cal_of T.a_good_point sc_good_point (fun _ _ _ _ _ _ us hl => match us, hl with | [_], _ => rfl) (fun vs H Q E h => ?_) (fun fa cdv A outer s H vs Q E hr h => ?_)
  · obtain ⟨_, _, _, _, rfl, _⟩ := h
    rfl
  · obtain ⟨v, ls, rows, TT, rfl, hv, ok, q⟩ := h
    refine ⟨_, (pss_cons (ps_expr (pe_c (f_quotients T) hr (by decide) (by rfl) (pa_cons (pv 0) pa_nil)))
(pss_cons (ps_set (i := 1) sc_good_point.nd rfl (Or.inl rfl) (pe_callB call_len_seq (by rfl) T.b_len PySem.boot_len (pa_cons (pe_ix ix_tup (pv 0) pe_int (fun _ _ => rfl)) pa_nil)))
(pss_cons (ps_set (i := 2) sc_good_point.nd rfl (Or.inl rfl) pe_int)
(pss_one (ps_while PassesOwn.never (pt_val pe_bl)
(pss_cons (ps_for PassesOwn.never rfl (pi_list (pe_c (f_points_up_to T) hr (by decide) (by rfl) (pa_cons (pv 1) (pa_cons (pv 2) pa_nil)))) (pg_name (i := 3) sc_good_point.nd rfl (Or.inl rfl))
(pss_one (ps_if (PW.pt (pw_and (pt_cmpR op_eq (pe_callB (cr_max rfl) (by rfl) T.b_max (by decide +kernel) (pa_cons (pe_lc (own := [("f", 4)]) (g := gName 4) (by rfl) sc_good_point.nd (pi_tup (pv 3)) (blkOk_by (N := N_good_point) (sc := defScope s_good_point) (by decide +kernel)) (fun _ _ _ _ _ => (pg_name (i := 4) sc_good_point.nd rfl (Or.inl rfl))) (fun _ _ _ _ _ => pts_nil) (fun _ _ _ _ _ => (pe_ix (ix_tupB (K := K) rfl) (pv 4) pe_int (fun _ _ => rfl)))) pa_nil)) (pv 2) (nomark _)) (pw_and1 (pt_val (pe_c (f_runs_at T TN) hr (by decide) (by rfl) (pa_cons (pv 0) (pa_cons (pv 3) pa_nil)))))))
(pss_one (ps_ret (pv 3)))
pss_nil)))
(pss_one (ps_set (i := 2) sc_good_point.nd rfl (Or.inl rfl) (pe_op op_add (pv 2) pe_int))))))))), ?_⟩
    refine ⟨_, rfl, v, ls, rows, rfl, hv, ok.quot, fun H1 u1 s1 => ?_⟩
    obtain ⟨ak, vl, vr, rfl, tk, tl, tr⟩ := hv.rk
    obtain ⟨al, xl, rfl, tql, tdl⟩ := tl.tup_inv
    have ll : xl.length = ls.length := by rw [tdl.len, List.length_map]
    have n1 := ok.quot.n1
    have n3 := ok.quot.n3
    have few := ok.few
    refine ⟨_, rfl, _, _, _, _, rfl, rfl, (tk.up (.of s1)).sq, a0, al, xl, rfl, .inr (tql.up (.of s1)).sq, ?_⟩
    obtain ⟨p0, hp0, hpT, hg0⟩ := ok.good
    refine ⟨fun m σ H2 => ∃ t : Nat, m = TT + 1 - t ∧ t ≤ TT ∧ Same H H2 ∧ (∃ x3 x4, σ = [some (.ref ak), some (.int ((xl.length : Nat) : Int)), some (.int (t : Nat)), x3, x4]) ∧ ∀ p : List Nat, p.length = ls.length → (∀ x ∈ p, x < t) → ¬ GoodTo (ratP p) rows rows.length, ⟨_, 0, rfl, Nat.zero_le _, s1, ⟨_, _, rfl⟩, fun p hp hx _ => ?_⟩, ?_⟩
    · cases p with
      | nil => rw [List.length_nil] at hp; omega
      | cons a p => exact absurd (hx a (List.mem_cons_self ..)) (Nat.not_lt_zero _)
    rintro m σ H2 ⟨t, rfl, htT, s2, ⟨x3, x4, rfl⟩, hno⟩
    refine ⟨_, rfl, iteY rfl ⟨fun σ' H' => ∃ m', m' < TT + 1 - t ∧ ∃ t : Nat, m' = TT + 1 - t ∧ t ≤ TT ∧ Same H H' ∧ (∃ x3 x4, σ' = [some (.ref ak), some (.int ((xl.length : Nat) : Int)), some (.int (t : Nat)), x3, x4]) ∧ ∀ p : List Nat, p.length = ls.length → (∀ x ∈ p, x < t) → ¬ GoodTo (ratP p) rows rows.length, fun _ _ h => h, ?_⟩⟩
    have szt : (t + 1) ^ ls.length ≤ sizeLine := Nat.le_trans (Nat.pow_le_pow_right (by omega) n3) (Nat.le_trans (Nat.pow_le_pow_left (by omega) 3) ok.sz)
    refine ⟨_, rfl, _, rfl, xl.length, t, rfl, by omega, by omega, by rw [ll]; exact szt, fun H3 l xs s3 hl tl3 => ?_⟩
    rw [ll] at tl3
    have s03 := L2.Same.trans s2 s3
    have lxs : xs.length = (ptsF ls.length t).length := by rw [tl3.len, List.length_map]
    refine ⟨l, rfl, ⟨xs, .of hl⟩, ?_⟩
    refine for_it (walk_list (xs := xs)) (fun j σ H4 => j ≤ (ptsF ls.length t).length ∧ Same H3 H4 ∧ (∃ x3 x4, σ = [some (.ref ak), some (.int ((xl.length : Nat) : Int)), some (.int (t : Nat)), x3, x4]) ∧ ∀ j' p, j' < j → (ptsF ls.length t)[j']? = some p → (∃ x ∈ p, x = t) → ¬ GoodTo (ratP p) rows rows.length) ?_ ?_ ?_ ?_
    · exact ⟨Nat.zero_le _, same_rfl _, ⟨_, _, rfl⟩, fun j' p h => absurd h (Nat.not_lt_zero _)⟩
    · rintro j σ H4 _ ⟨_, s4, _⟩
      exact .of (s4 _ _ hl)
    · rintro j x σ H4 H5 hj ⟨hjle, s4, ⟨y3, y4, rfl⟩, hprev⟩ ⟨rfl, ex⟩
      obtain ⟨dd, ed, tdd⟩ := (tl3.up (.of s4)).get' ex
      rw [List.getElem?_map] at ed
      obtain ⟨p, ep, rfl⟩ := Option.map_eq_some_iff.mp ed
      have pm := ptsF_mem.mp (List.mem_of_getElem? ep)
      have hjp : j < (ptsF ls.length t).length := by omega
      have succ : ¬ ((∃ x ∈ p, x = t) ∧ GoodTo (ratP p) rows rows.length) → ∀ j' p', j' < j + 1 → (ptsF ls.length t)[j']? = some p' → (∃ x ∈ p', x = t) → ¬ GoodTo (ratP p') rows rows.length := fun hn j' p' hj' ep' hx hg => by
        by_cases z : j' = j
        · subst z
          rw [ep] at ep'
          cases ep'
          exact hn ⟨hx, hg⟩
        · exact hprev j' p' (by omega) ep' hx hg
      obtain ⟨ap, xsp, rfl, tqp, tsp⟩ := TD.tup_inv tdd
      have lp : xsp.length = p.length := by rw [tsp.len, List.length_map]; unfold ratP; rw [List.length_map]
      refine ⟨_, rfl, ap, rfl, ⟨xsp, tqp.sq⟩, fun D hD => ?_⟩
      have sD : Same H5 (upd H5 D (.lst [])) := Same.new hD
      refine lc_it (walk_tup (xs := xsp)) (fun i H6 => i ≤ p.length ∧ Ch (· = D) (upd H5 D (.lst [])) H6 ∧ H6 D = some (.lst ((p.take i).map fun (n : Nat) => .int (n : Int)))) ?_ ?_ ?_ ?_
      · exact ⟨Nat.zero_le _, Ch.refl _ _, upd_same⟩
      · rintro i H6 _ ⟨_, c6, _⟩
        exact (tqp.up (.of (sameNew hD c6))).sq
      · rintro i xi H6 H7 hi ⟨hile, c6, hD6⟩ ⟨rfl, exi⟩
        obtain ⟨d2, ed2, td2⟩ := (tsp.up (.of (sameNew hD c6))).get' exi
        unfold ratP at ed2
        rw [List.map_map, List.getElem?_map] at ed2
        obtain ⟨n, en, rfl⟩ := Option.map_eq_some_iff.mp ed2
        have td2 : TD K H7 xi (eF (((n : Int)) : Rat)) := td2
        obtain ⟨af, rfl, taf⟩ := td2.fr
        rw [Rat.num_intCast] at taf
        have big : (100 : Nat) < sizeLine := by decide
        refine ⟨rfl, _, rfl, _, _, _, _, rfl, rfl, taf.sq, a0, _, hD6, by rw [List.length_map, List.length_take]; omega, by omega, c6.trans (Ch.put rfl hD6 (fun _ z => by cases z)), ?_⟩
        rw [upd_same, List.take_add_one, en, List.map_append]
        rfl
      · rintro H6 ⟨_, c6, hD6⟩
        rw [lp, List.take_length] at hD6
        have s56 : Same H5 H6 := sameNew hD c6
        have s06 := L2.Same.trans s03 (L2.Same.trans s4 s56)
        refine ⟨D, p.map fun (n : Nat) => (n : Int), rfl, .of (by rw [hD6, List.map_map]; rfl), by rw [List.length_map, pm.1]; omega, fun M hM hmax => ?_⟩
        obtain ⟨M', hM', rfl⟩ := List.mem_map.mp hM
        have hmx : ∀ x ∈ p, x ≤ M' := fun x hx => by have := hmax _ (List.mem_map.mpr ⟨x, hx, rfl⟩); omega
        refine ⟨_, rfl, rfl, _, rfl, ?_⟩
        by_cases hMt : M' = t
        · subst hMt
          refine iteY (decide_eq_true rfl) ?_
          refine ⟨_, rfl, _, rfl, .ref ak, .ref ap, ls, rows, ratP p, rfl, hv.up (.of s06), TD.up (.of s56) tdd, ok.run p pm.1 (fun x hx => Nat.le_trans (pm.2 x hx) htT), fun H8 s8 => ⟨fun hg => ?_, fun hg => ?_⟩⟩
          · exact ⟨_, rfl, iteY rfl ⟨_, rfl, q _ _ p (L2.Same.trans s06 s8) pm.1 (fun x hx => Nat.le_trans (pm.2 x hx) htT) hg (TD.up (.of (L2.Same.trans s56 s8)) tdd)⟩⟩
          · exact ⟨_, rfl, iteN rfl ⟨by omega, L2.Same.trans s4 (L2.Same.trans s56 s8), ⟨_, _, rfl⟩, succ fun z => hg z.2⟩⟩
        · refine iteN (decide_eq_false fun z => hMt (by injection z with z; omega)) (iteN rfl ?_)
          refine ⟨by omega, L2.Same.trans s4 s56, ⟨_, _, rfl⟩, succ fun z => ?_⟩
          obtain ⟨⟨x, hx, rfl⟩, _⟩ := z
          have h1 := hmx x hx
          have h2 := pm.2 M' hM'
          omega
    · rintro σ H4 ⟨_, s4, ⟨y3, y4, rfl⟩, hall⟩
      rw [lxs] at hall
      have hno' : ∀ p : List Nat, p.length = ls.length → (∀ x ∈ p, x < t + 1) → ¬ GoodTo (ratP p) rows rows.length := fun p hp hx hg => by
        by_cases hlt : ∀ x ∈ p, x < t
        · exact hno p hp hlt hg
        · have : ∃ x ∈ p, x = t := by
            have h1 : ∃ x, ¬ (x ∈ p → x < t) := by
              refine Classical.not_forall.mp hlt
            obtain ⟨x, h2⟩ := h1
            have h3 : x ∈ p ∧ ¬ x < t := by
              refine ⟨Classical.byContradiction fun z => h2 fun y => absurd y z, fun z => h2 fun _ => z⟩
            have := hx x h3.1
            exact ⟨x, h3.1, by omega⟩
          have pm : p ∈ ptsF ls.length t := ptsF_mem.mpr ⟨hp, fun x hx' => by have := hx x hx'; omega⟩
          obtain ⟨j, hj, ej⟩ := List.mem_iff_getElem.mp pm
          exact hall j p hj (by rw [List.getElem?_eq_getElem hj, ej]) this hg
      have htlt : t < TT := by
        refine Classical.byContradiction fun z => hno' p0 hp0 (fun x hx => ?_) hg0
        have := hpT x hx
        omega
      refine ⟨_, rfl, _, _, rfl, rfl, TT + 1 - (t + 1), by omega, t + 1, rfl, by omega, L2.Same.trans s03 s4, ⟨y3, y4, ?_⟩, hno'⟩
      show [some (V.ref ak), some (V.int ((xl.length : Nat) : Int)), some (V.int ((t : Int) + 1)), y3, y4] = _
      rw [show ((t : Int) + 1) = ((t + 1 : Nat) : Int) by omega]
end
end U
set_option Elab.async false
set_option linter.all false
set_option maxRecDepth 100000
set_option maxHeartbeats 4000000
/-! Sizes: q times D is whole, and no greater than B. -/
namespace U
def Gd (D B : Nat) (q : Rat) : Prop := ∃ z : Int, q * (((D : Int)) : Rat) = ((z : Int) : Rat) ∧ z.natAbs ≤ B
theorem Gd.mono {D B B' : Nat} {q : Rat} (h : Gd D B q) (hb : B ≤ B') : Gd D B' q := by
  obtain ⟨z, h1, h2⟩ := h
  exact ⟨z, h1, Nat.le_trans h2 hb⟩
theorem Gd.wide {D B : Nat} {q : Rat} (h : Gd D B q) (m : Nat) : Gd (D * m) (B * m) q := by
  obtain ⟨z, h1, h2⟩ := h
  refine ⟨z * m, ?_, by rw [Int.natAbs_mul]; exact Nat.mul_le_mul_right _ h2⟩
  have e : (((D * m : Nat) : Int) : Rat) = ((D : Int) : Rat) * ((m : Int) : Rat) := by
    rw [Int.natCast_mul, Rat.intCast_mul]
  rw [e, Rat.intCast_mul, ← h1]
  grind
theorem Gd.add {D B B' : Nat} {p q : Rat} (h : Gd D B p) (g : Gd D B' q) : Gd D (B + B') (p + q) := by
  obtain ⟨z, h1, h2⟩ := h
  obtain ⟨y, g1, g2⟩ := g
  refine ⟨z + y, ?_, by omega⟩
  rw [Rat.intCast_add, ← h1, ← g1]
  grind
theorem Gd.neg {D B : Nat} {p : Rat} (h : Gd D B p) : Gd D B (-p) := by
  obtain ⟨z, h1, h2⟩ := h
  refine ⟨-z, ?_, by omega⟩
  rw [Rat.intCast_neg, ← h1]
  grind
theorem Gd.sub {D B B' : Nat} {p q : Rat} (h : Gd D B p) (g : Gd D B' q) : Gd D (B + B') (p - q) := by
  have := h.add g.neg
  rwa [show p + -q = p - q by grind] at this
theorem Gd.mul {D D' B B' : Nat} {p q : Rat} (h : Gd D B p) (g : Gd D' B' q) : Gd (D * D') (B * B') (p * q) := by
  obtain ⟨z, h1, h2⟩ := h
  obtain ⟨y, g1, g2⟩ := g
  refine ⟨z * y, ?_, by rw [Int.natAbs_mul]; exact Nat.mul_le_mul h2 g2⟩
  have e : (((D * D' : Nat) : Int) : Rat) = ((D : Int) : Rat) * ((D' : Int) : Rat) := by
    rw [Int.natCast_mul, Rat.intCast_mul]
  rw [e, Rat.intCast_mul, ← h1, ← g1]
  grind
theorem Gd.zero (D B : Nat) : Gd D B 0 := ⟨0, by show (0 : Rat) * _ = 0; grind, Nat.zero_le _⟩
theorem Gd.one (D : Nat) : Gd D D 1 := ⟨D, by grind, by omega⟩
/-- small enough for the divisions -/
theorem Gd.sz {D B n : Nat} {q : Rat} (h : Gd D B q) (hD0 : 0 < D) (hD : D < 2 ^ n) (hB : B < 2 ^ n) : Sz n q := by
  obtain ⟨z, h1, h2⟩ := h
  have hq : q = Rat.divInt z D := by
    have hd : ((D : Int) : Rat) ≠ 0 := by
      intro e
      have : (D : Int) = 0 := by exact_mod_cast e
      omega
    rw [Rat.divInt_eq_div]
    grind
  have hD' : (D : Int) ≠ 0 := by omega
  rw [hq]
  refine ⟨?_, ?_⟩
  · rw [Rat.num_divInt, show (D : Int).sign = 1 from Int.sign_eq_one_of_pos (by omega), Int.one_mul]
    have : (z / ((D : Int).gcd z : Int)).natAbs ≤ z.natAbs := Int.natAbs_ediv_le_natAbs _ _
    omega
  · rw [Rat.den_divInt, if_neg hD']
    have : (D : Int).natAbs / (D : Int).gcd z ≤ (D : Int).natAbs := Nat.div_le_self _ _
    omega
theorem Gd.of_frac {n : Int} {d N : Nat} (h1 : 1 ≤ d) (h4 : d ≤ 4) (hn : n.natAbs ≤ N) : Gd 12 (12 * N) (Rat.divInt n d) := by
  have hd : d = 1 ∨ d = 2 ∨ d = 3 ∨ d = 4 := by omega
  have key : ∀ m : Nat, d * m = 12 → m ≤ 12 → Gd 12 (12 * N) (Rat.divInt n d) := fun m hm hm2 => by
    refine ⟨n * m, ?_, ?_⟩
    · rw [Rat.divInt_eq_div, Rat.intCast_mul]
      have e : (((12 : Nat) : Int) : Rat) = ((d : Int) : Rat) * ((m : Int) : Rat) := by rw [← hm, Int.natCast_mul, Rat.intCast_mul]
      have hd0 : ((d : Int) : Rat) ≠ 0 := by
        intro e
        have : (d : Int) = 0 := by exact_mod_cast e
        omega
      rw [e]
      grind
    · rw [Int.natAbs_mul, Nat.mul_comm]
      exact Nat.mul_le_mul (by omega) hn
  rcases hd with rfl | rfl | rfl | rfl
  · exact key 12 rfl (by omega)
  · exact key 6 rfl (by omega)
  · exact key 4 rfl (by omega)
  · exact key 3 rfl (by omega)
end U
set_option Elab.async false
set_option linter.all false
set_option maxRecDepth 100000
set_option maxHeartbeats 4000000
/-! The law's draws: _law_box, _law_take. -/
namespace U
open PySem PySem.Spec PyProof.Rows L2
/-- a box at b -/
def BX (H : Hp) (b : Addr) : Prop := ∃ c s : Int, H b = some (.lst [.int c, .int s]) ∧ 0 ≤ s ∧ s < 4294967296
theorem BX.same {H H' : Hp} {b : Addr} (h : BX H b) (s : Same H H') : BX H' b := by
  obtain ⟨c, t, h1, h2⟩ := h
  exact ⟨c, t, s _ _ h1, h2⟩
theorem BX.some {H : Hp} {b : Addr} (h : BX H b) : H b ≠ none := by
  obtain ⟨c, t, h1, _⟩ := h
  rw [h1]; simp
theorem sqL_same {K : PySem.W.Frag} {H H' : Hp} {a : Addr} {xs : List V} (h : SqL K H a xs) (s : Same H H') : SqL K H' a xs := by
  rcases h with h | h
  · refine .inl ?_
    rcases h with h | h
    · exact .inl (s _ _ h)
    · obtain ⟨o, h⟩ := h
      exact .inr ⟨o, s _ _ h⟩
  · exact .inr h
theorem pos29 : (0 : Int) < 2147483629 := by decide
theorem pos47 : (0 : Int) < 2147483647 := by decide
theorem mulS {a b : Int} (hb : -(2 ^ 64) < b ∧ b < 2 ^ 64) : CMul a b := .inr hb
section
variable {P : Program} {w : World} {K : PySem.W.Frag} {mg : Str → Option Value} {base : Heap}
def spBox (K : PySem.W.Frag) : Sp := fun vs H Q _ => ∃ (sl : Addr) (k : Nat) (ns : List Int), vs = [.ref sl, .int k] ∧ SqL K H sl (ns.map V.int) ∧ k < 10 ∧ ns.length ≤ 63 ∧ ∀ H' b, Same H H' → H b = none → BX H' b → Q (.ref b) H'
theorem sc_l_box : FnScope ["_law_script", "_law_k", "_law_cell", "_law_seed"] ["_law_script", "_law_k"] (defScope s_l_box) := ⟨rfl, rfl, rfl, by decide +kernel, rfl, by decide +kernel, by decide +kernel⟩
abbrev XB (P : Program) (w : World) (K : PySem.W.Frag) (mg : Str → Option Value) (base : Heap) (fa : Addr) (cdv : Value) (A : Around) (outer : List Env) (s : Shared) (H : Hp) (E : XK) : Cx := (cxOf CX0 P w K mg base ["_law_script", "_law_k", "_law_cell", "_law_seed"] "_law_box" (defScope s_l_box) fa cdv A outer s H E).nox
theorem mod_lt {a : Int} {n : Nat} (h : 0 < n) : 0 ≤ a % (n : Int) ∧ a % (n : Int) < n := ⟨Int.emod_nonneg a (by omega), Int.emod_lt_of_pos a (by omega)⟩
theorem box_t (T : Txt K mg) (fa : Addr) (cdv : Value) (A : Around) (outer : List Env) (s : Shared) (H : Hp) (Q : VK) (E : XK) :
    ∃ t, PSs (XB P w K mg base fa cdv A outer s H E) ((defBody s_l_box).drop 2) t ∧ ∀ (x0 : Option V) (k : Nat) (cell : Int), k < 10 → (∀ H' b, Same H H' → H b = none → BX H' b → Q (.ref b) H') → t { nx := fun _ H' => Q .non H', rt := Q } [x0, some (.int (k : Nat)), some (.int cell), none] H := by
  refine ⟨_, (pss_cons (ps_set (i := 3) sc_l_box.nd rfl (Or.inl rfl) (pe_op op_add (pe_op op_mod (pe_op op_add (pe_op op_mul (pe_op op_mod (pv 2) pe_int) pe_int) (pe_op op_mul pe_int (pv 1))) pe_int) pe_int))
(pss_one (ps_ret (pe_lst (pa_cons (pe_op op_mul (pv 2) (pe_callTy call_int1 (by rfl) T.b_int (by decide +kernel) (pa_cons (pe_cmpR op_ge (pv 2) (pe_op op_pow pe_int pe_int) (nomark _)) pa_nil))) (pa_cons (pv 3) pa_nil)))))), fun x0 k cell hk q => ?_⟩
  refine ⟨_, rfl, cell, 2147483629, rfl, rfl, pos29, _, _, rfl, rfl, mulS ⟨by decide, by decide⟩, _, rfl, _, _, rfl, rfl, mulS ⟨by omega, by omega⟩, _, _, rfl, rfl, _, _, rfl, rfl, pos29, _, _, rfl, rfl, ?_⟩
  have hs := mod_lt (a := cell % 2147483629 * 48271 + 40692 * (k : Int)) (n := 2147483629) (by decide)
  refine ⟨_, rfl, _, rfl, _, _, rfl, rfl, ⟨by decide, by decide, by decide⟩, _, _, rfl, rfl, .inr ⟨_, rfl, _, _, rfl, rfl, ?_, _, rfl, ?_⟩⟩
  · refine mulS ?_
    split <;> constructor <;> decide
  · refine ⟨two_le, fun p hp => q _ p (Same.new hp) hp ⟨_, _, upd_same, ?_, ?_⟩⟩
    · have := hs.1; show (0 : Int) ≤ (cell % 2147483629 * 48271 + 40692 * (k : Int)) % 2147483629 + 1; omega
    · have := hs.2; show (cell % 2147483629 * 48271 + 40692 * (k : Int)) % 2147483629 + 1 < 4294967296; omega
theorem f_l_box (T : Txt K mg) : Cal P w K mg base 1 "_law_box" (spBox K) := by
  refine cal_of T.a_l_box sc_l_box (fun _ _ _ _ _ _ us hl => match us, hl with | [_, _], _ => rfl) (fun vs H Q E h => ?_) (fun fa cdv A outer s H vs Q E hr h => ?_)
  · obtain ⟨_, _, _, rfl, _⟩ := h
    rfl
  · obtain ⟨sl, k, ns, rfl, hs, hk, hn, q⟩ := h
    obtain ⟨t1, p1, r1⟩ := box_t (P := P) (w := w) (base := base) T fa cdv A outer s H Q E
    refine ⟨_, (pss_cons (ps_set (i := 2) sc_l_box.nd rfl (Or.inl rfl) (pe_op op_add (pe_op op_mul pe_int (pv 1)) pe_int))
(pss_cons (ps_if (pt_cmpR op_lt (pv 1) (pe_callB call_len_seq (by rfl) T.b_len PySem.boot_len (pa_cons (pv 0) pa_nil)) (nomark _))
(pss_one (ps_set (i := 2) sc_l_box.nd rfl (Or.inl rfl) (pe_ix ix_list (pv 0) (pv 1) (fun _ _ => rfl))))
(pss_one (ps_if (pt_cmpR op_gt (pe_callB call_len_seq (by rfl) T.b_len PySem.boot_len (pa_cons (pv 0) pa_nil)) pe_int (nomark _))
(pss_one (ps_set (i := 2) sc_l_box.nd rfl (Or.inl rfl) (pe_op op_add (pv 2) (pe_op op_mul (pe_op op_mod (pe_ix ix_list (pv 0) (pe_op op_mod (pv 1) (pe_callB call_len_seq (by rfl) T.b_len PySem.boot_len (pa_cons (pv 0) pa_nil))) (fun _ _ => rfl)) pe_int) pe_int))))
pss_nil)))
p1)), ?_⟩
    have ln : (ns.map V.int).length = ns.length := List.length_map ..
    refine ⟨_, rfl, _, _, rfl, rfl, .inl ⟨by omega, by omega⟩, _, _, rfl, rfl, ?_⟩
    refine ⟨_, rfl, _, rfl, sl, _, rfl, .inl hs, _, _, rfl, rfl, _, rfl, ?_⟩
    refine ite2 (fun z => ?_) (fun z => ?_)
    · have hk' : k < ns.length := by have := of_decide_eq_true z; omega
      have e : (ns.map V.int)[k]? = some (.int (ns[k])) := by rw [List.getElem?_map, List.getElem?_eq_getElem hk']; rfl
      exact ⟨_, rfl, _, rfl, sl, _, _, _, rfl, rfl, hs, atI_nat e, r1 _ k _ hk q⟩
    · refine ⟨_, rfl, sl, _, rfl, .inl hs, _, _, rfl, rfl, _, rfl, ?_⟩
      refine ite2 (fun z => ?_) (fun z => r1 _ k _ hk q)
      have hp : 0 < ns.length := by have := of_decide_eq_true z; omega
      have hm := mod_lt (a := (k : Int)) (n := (ns.map V.int).length) (by omega)
      have hlt : ((k : Int) % ((ns.map V.int).length : Nat)).toNat < ns.length := by omega
      have e : (ns.map V.int)[((k : Int) % ((ns.map V.int).length : Nat)).toNat]? = some (.int (ns[((k : Int) % ((ns.map V.int).length : Nat)).toNat])) := by
        rw [List.getElem?_map, List.getElem?_eq_getElem hlt]; rfl
      have ea := atI_nat e
      rw [Int.toNat_of_nonneg hm.1] at ea
      refine ⟨_, rfl, _, rfl, _, rfl, _, rfl, sl, _, rfl, .inl hs, _, _, rfl, rfl, by omega, sl, _, _, _, rfl, rfl, hs, ea, _, _, rfl, rfl, pos29, _, _, rfl, rfl, mulS ⟨by decide, by decide⟩, _, _, rfl, rfl, r1 _ k _ hk q⟩
def spTake : Sp := fun vs H Q _ => ∃ (b : Addr) (wd : Nat), vs = [.ref b, .int wd] ∧ BX H b ∧ 0 < wd ∧ wd < 1073741824 ∧ ∀ H' (d : Nat), Ch (· = b) H H' → BX H' b → d < wd → Q (.int d) H'
theorem sc_l_take : FnScope ["_law_box_here", "_law_wide", "_law_digit", "_law_one"] ["_law_box_here", "_law_wide"] (defScope s_l_take) := ⟨rfl, rfl, rfl, by decide +kernel, rfl, by decide +kernel, by decide +kernel⟩
theorem f_l_take (T : Txt K mg) : Cal P w K mg base 1 "_law_take" spTake := by
  refine cal_of T.a_l_take sc_l_take (fun _ _ _ _ _ _ us hl => match us, hl with | [_, _], _ => rfl) (fun vs H Q E h => ?_) (fun fa cdv A outer s H vs Q E hr h => ?_)
  · obtain ⟨_, _, rfl, _⟩ := h
    rfl
  · obtain ⟨b, wd, rfl, ⟨c, sd, hb, h0, h1⟩, w0, w1, q⟩ := h
    refine ⟨_, (pss_cons (ps_if (pt_cmpR op_gt (pe_ix ix_list (pv 0) pe_int (fun _ _ => rfl)) pe_int (nomark _))
(pss_cons (ps_set (i := 2) sc_l_take.nd rfl (Or.inl rfl) (pe_op op_mod (pe_ix ix_list (pv 0) pe_int (fun _ _ => rfl)) (pv 1)))
(pss_cons (ps_asg (pe_op op_fdiv (pe_ix ix_list (pv 0) pe_int (fun _ _ => rfl)) (pv 1)) (pg_sub (pv 0) pe_int set_list))
(pss_one (ps_ret (pv 2)))))
pss_nil)
(pss_cons (ps_set (i := 3) sc_l_take.nd rfl (Or.inl rfl) (pe_op op_mod (pe_op op_mul (pe_ix ix_list (pv 0) pe_int (fun _ _ => rfl)) pe_int) pe_int))
(pss_cons (ps_asg (pe_op op_add (pe_op op_mod (pe_op op_add (pe_op op_mul (pv 3) pe_int) pe_int) pe_int) pe_int) (pg_sub (pv 0) pe_int set_list))
(pss_one (ps_ret (pe_op op_mod (pe_op op_fdiv (pe_op op_add (pe_op op_mul (pv 3) pe_int) (pe_ix ix_list (pv 0) pe_int (fun _ _ => rfl))) pe_int) (pv 1))))))), ?_⟩
    have give : ∀ (H' : Hp) (x : Int), Ch (· = b) H H' → BX H' b → Q (.int (x % (wd : Nat))) H' := fun H' x c' b' => by
      have hm := mod_lt (a := x) (n := wd) w0
      have := q H' (x % (wd : Nat)).toNat c' b' (by omega)
      rw [Int.toNat_of_nonneg hm.1] at this
      exact this
    refine ⟨_, rfl, b, _, _, _, rfl, rfl, .of hb, a0, _, _, rfl, rfl, _, rfl, ?_⟩
    refine ite2 (fun z => ?_) (fun z => ?_)
    · refine ⟨_, rfl, b, _, _, _, rfl, rfl, .of hb, a0, _, rfl, _, _, rfl, rfl, by omega, ?_⟩
      refine ⟨_, rfl, b, _, _, _, rfl, rfl, .of hb, a0, _, rfl, _, _, rfl, rfl, ⟨by omega, by omega⟩, _, rfl, b, _, 0, 0, rfl, rfl, hb, rfl, ?_⟩
      have c1 : Ch (· = b) H (upd H b (.lst ([V.int c, V.int sd].set 0 (.int (c / (wd : Nat)))))) := Ch.put rfl hb (fun _ z => by cases z)
      exact ⟨_, rfl, give _ c c1 ⟨_, sd, upd_same, h0, h1⟩⟩
    · refine ⟨_, rfl, b, _, _, _, rfl, rfl, .of hb, a1, _, _, rfl, rfl, mulS ⟨by decide, by decide⟩, _, _, rfl, rfl, pos47, ?_⟩
      have hm := mod_lt (a := sd * 69623) (n := 2147483647) (by decide)
      refine ⟨_, rfl, _, _, rfl, rfl, mulS ⟨by decide, by decide⟩, _, _, rfl, rfl, _, _, rfl, rfl, pos29, _, _, rfl, rfl, _, rfl, b, _, 1, 1, rfl, rfl, hb, rfl, ?_⟩
      have hm2 := mod_lt (a := sd * 69623 % 2147483647 * 48271 + 30103) (n := 2147483629) (by decide)
      have c1 : Ch (· = b) H (upd H b (.lst ([V.int c, V.int sd].set 1 (.int ((sd * 69623 % 2147483647 * 48271 + 30103) % 2147483629 + 1))))) := Ch.put rfl hb (fun _ z => by cases z)
      refine ⟨_, rfl, _, _, rfl, rfl, mulS ⟨by decide, by decide⟩, _, rfl, b, _, _, _, rfl, rfl, .of upd_same, a1, _, _, rfl, rfl, _, _, rfl, rfl, ⟨by decide, by decide⟩, _, rfl, _, _, rfl, rfl, by omega, ?_⟩
      refine give _ _ c1 ⟨c, _, upd_same, ?_, ?_⟩
      · have := hm2.1; omega
      · have := hm2.2; omega
end
end U
set_option Elab.async false
set_option linter.all false
set_option maxRecDepth 100000
set_option maxHeartbeats 4000000
/-! The law's draws: numbers, points; weights; deeds. -/
namespace U
open PySem PySem.Spec PyProof.Rows L2
def NumOk (q : Rat) : Prop := Gd 12 (12 * 1000000) q
def SmOk (q : Rat) : Prop := Gd 12 (12 * 5) q
theorem numOk_of {n : Int} {d : Nat} (q : Rat) (hq : q = Rat.divInt n d) (h1 : 1 ≤ d) (h4 : d ≤ 4) (hn : n.natAbs ≤ 1000000) : NumOk q := by
  rw [hq]
  exact Gd.of_frac h1 h4 hn
section
variable {P : Program} {w : World} {K : PySem.W.Frag} {mg : Str → Option Value} {base : Heap}
theorem f_l_fraction (T : Txt K mg) : Cal P w K mg base 2 "_law_fraction" (spFraction K) := c_l_fraction T.a_l_fraction T.b_abs
theorem f_l_plus (T : Txt K mg) : Cal P w K mg base 3 "_law_plus" (spDeed K okS (· + ·)) := c_l_plus T.a_l_plus (f_l_fraction T)
theorem f_l_times (T : Txt K mg) : Cal P w K mg base 3 "_law_times" (spDeed K okS (· * ·)) := c_l_times T.a_l_times (f_l_fraction T)
/-- a fraction drawn -/
def spDraw (K : PySem.W.Frag) (ok : Rat → Prop) : Sp := fun vs H Q _ => ∃ b : Addr, vs = [.ref b] ∧ BX H b ∧ ∀ H' v q, Ch (· = b) H H' → BX H' b → TD K H' v (eF q) → ok q → Q v H'
theorem big64 {n : Nat} (h : n < 2 ^ 64) : n < 2 ^ 9000 := Nat.lt_of_lt_of_le h (Nat.pow_le_pow_right (by decide) (by decide))
theorem sc_l_small : FnScope ["_law_box_here"] ["_law_box_here"] (defScope s_l_small) := ⟨rfl, rfl, rfl, by decide +kernel, rfl, by decide +kernel, by decide +kernel⟩
theorem f_l_small (T : Txt K mg) : Cal P w K mg base 3 "_law_small" (spDraw K SmOk) := by
  refine cal_of T.a_l_small sc_l_small (fun _ _ _ _ _ _ us hl => match us, hl with | [_], _ => rfl) (fun vs H Q E h => ?_) (fun fa cdv A outer s H vs Q E hr h => ?_)
  · obtain ⟨_, rfl, _⟩ := h
    rfl
  · obtain ⟨b, rfl, bx, q⟩ := h
    refine ⟨_, (pss_one (ps_ret (pe_c (f_l_fraction T) hr (by decide) (by rfl) (pa_cons (pe_op op_sub (pe_c (f_l_take T) hr (by decide) (by rfl) (pa_cons (pv 0) (pa_cons pe_int pa_nil))) pe_int) (pa_cons (pe_op op_add pe_int (pe_c (f_l_take T) hr (by decide) (by rfl) (pa_cons (pv 0) (pa_cons pe_int pa_nil)))) pa_nil))))), ?_⟩
    refine ⟨_, rfl, b, 11, rfl, bx, by decide, by decide, fun H1 d1 c1 b1 l1 => ?_⟩
    refine ⟨_, _, rfl, rfl, _, rfl, b, 3, rfl, b1, by decide, by decide, fun H2 d2 c2 b2 l2 => ?_⟩
    refine ⟨_, _, rfl, rfl, _, _, rfl, by omega, ?_, fun H3 v s3 t3 => q _ _ _ ((c1.trans c2).same s3) (b2.same s3) t3 ?_⟩
    · exact big64 (by show ((1 : Int) + (d2 : Int)).natAbs < 18446744073709551616; omega)
    · have e : ((1 : Int) + (d2 : Int)) = ((1 + d2 : Nat) : Int) := by omega
      show SmOk (Rat.divInt ((d1 : Int) - 5) ((1 : Int) + (d2 : Int)))
      rw [e]
      exact Gd.of_frac (by omega) (by omega) (by omega)
abbrev XN (P : Program) (w : World) (K : PySem.W.Frag) (mg : Str → Option Value) (base : Heap) (fa : Addr) (cdv : Value) (A : Around) (outer : List Env) (s : Shared) (H : Hp) (E : XK) : Cx := (cxOf CX0 P w K mg base ["_law_box_here", "_law_kind"] "_law_number" (defScope s_l_number) fa cdv A outer s H E).nox
theorem sc_l_number : FnScope ["_law_box_here", "_law_kind"] ["_law_box_here"] (defScope s_l_number) := ⟨rfl, rfl, rfl, by decide +kernel, rfl, by decide +kernel, by decide +kernel⟩
theorem f_l_number (T : Txt K mg) : Cal P w K mg base 3 "_law_number" (spDraw K NumOk) := by
  refine cal_of T.a_l_number sc_l_number (fun _ _ _ _ _ _ us hl => match us, hl with | [_], _ => rfl) (fun vs H Q E h => ?_) (fun fa cdv A outer s H vs Q E hr h => ?_)
  · obtain ⟨_, rfl, _⟩ := h
    rfl
  · obtain ⟨b, rfl, bx, q⟩ := h
    refine ⟨_, (pss_cons (ps_set (i := 1) sc_l_number.nd rfl (Or.inl rfl) (pe_c (f_l_take T) hr (by decide) (by rfl) (pa_cons (pv 0) (pa_cons pe_int pa_nil))))
(pss_cons (ps_if (pt_cmpR op_lt (pv 1) pe_int (nomark _))
(pss_one (ps_ret (pe_ix ix_list (pe_lst (pa_cons (pe_tup (pa_cons pe_int (pa_cons pe_int pa_nil))) (pa_cons (pe_tup (pa_cons pe_int (pa_cons pe_int pa_nil))) (pa_cons (pe_tup (pa_cons pe_int (pa_cons pe_int pa_nil))) (pa_cons (pe_tup (pa_cons (pe_un un_neg pe_int) (pa_cons pe_int pa_nil))) (pa_cons (pe_tup (pa_cons pe_int (pa_cons pe_int pa_nil))) (pa_cons (pe_tup (pa_cons pe_int (pa_cons pe_int pa_nil))) (pa_cons (pe_tup (pa_cons (pe_un un_neg pe_int) (pa_cons pe_int pa_nil))) pa_nil)))))))) (pv 1) (fun _ _ => rfl))))
pss_nil)
(pss_cons (ps_if (pt_cmpR op_lt (pv 1) pe_int (nomark _))
(pss_one (ps_ret (pe_c (f_l_fraction T) hr (by decide) (by rfl) (pa_cons (pe_op op_sub (pe_c (f_l_take T) hr (by decide) (by rfl) (pa_cons (pv 0) (pa_cons pe_int pa_nil))) pe_int) (pa_cons (pe_op op_add pe_int (pe_c (f_l_take T) hr (by decide) (by rfl) (pa_cons (pv 0) (pa_cons pe_int pa_nil)))) pa_nil)))))
pss_nil)
(pss_one (ps_ret (pe_c (f_l_fraction T) hr (by decide) (by rfl) (pa_cons (pe_op op_sub (pe_c (f_l_take T) hr (by decide) (by rfl) (pa_cons (pv 0) (pa_cons pe_int pa_nil))) pe_int) (pa_cons (pe_op op_add pe_int (pe_c (f_l_take T) hr (by decide) (by rfl) (pa_cons (pv 0) (pa_cons pe_int pa_nil)))) pa_nil)))))))), ?_⟩
    refine ⟨_, rfl, b, 12, rfl, bx, by decide, by decide, fun H1 kd c1 b1 l1 => ?_⟩
    refine ⟨_, rfl, _, _, rfl, rfl, _, rfl, ?_⟩
    refine ite2 (fun z => ?_) (fun z => ?_)
    · refine ⟨two_le, fun t1 h1 => ⟨two_le, fun t2 h2 => ⟨two_le, fun t3 h3 => ⟨_, rfl, two_le, fun t4 h4 => ⟨two_le, fun t5 h5 => ⟨two_le, fun t6 h6 => ⟨_, rfl, two_le, fun t7 h7 => ?_⟩⟩⟩⟩⟩⟩⟩
      have s1 := Same.new (o := HO.tup [V.int 0, V.int 1]) h1
      have s2 := Same.new (o := HO.tup [V.int 1, V.int 1]) h2
      have s3 := Same.new (o := HO.tup [V.int 1, V.int 1]) h3
      have s4 := Same.new (o := HO.tup [V.int (-1), V.int 1]) h4
      have s5 := Same.new (o := HO.tup [V.int 2, V.int 1]) h5
      have s6 := Same.new (o := HO.tup [V.int 1, V.int 2]) h6
      have s7 := Same.new (o := HO.tup [V.int (-2), V.int 3]) h7
      have s17 := L2.Same.trans s1 (L2.Same.trans s2 (L2.Same.trans s3 (L2.Same.trans s4 (L2.Same.trans s5 (L2.Same.trans s6 s7)))))
      have s27 := L2.Same.trans s2 (L2.Same.trans s3 (L2.Same.trans s4 (L2.Same.trans s5 (L2.Same.trans s6 s7))))
      have s37 := L2.Same.trans s3 (L2.Same.trans s4 (L2.Same.trans s5 (L2.Same.trans s6 s7)))
      have s47 := L2.Same.trans s4 (L2.Same.trans s5 (L2.Same.trans s6 s7))
      have s57 := L2.Same.trans s5 (L2.Same.trans s6 s7)
      have s67 := L2.Same.trans s6 s7
      refine ⟨(by show 7 ≤ sizeLine; decide), fun l hl => ?_⟩
      have s8 := Same.new (o := HO.lst [V.ref t1, V.ref t2, V.ref t3, V.ref t4, V.ref t5, V.ref t6, V.ref t7]) hl
      have f1 := s8 t1 _ (s27 t1 _ upd_same)
      have f2 := s8 t2 _ (s37 t2 _ upd_same)
      have f3 := s8 t3 _ (s47 t3 _ upd_same)
      have f4 := s8 t4 _ (s57 t4 _ upd_same)
      have f5 := s8 t5 _ (s67 t5 _ upd_same)
      have f6 := s8 t6 _ (s7 t6 _ upd_same)
      have f7 := s8 t7 _ upd_same
      have c8 := c1.same (L2.Same.trans s17 s8)
      have b8 := b1.same (L2.Same.trans s17 s8)
      have lt7 : kd < 7 := by have := of_decide_eq_true z; omega
      have cases7 : kd = 0 ∨ kd = 1 ∨ kd = 2 ∨ kd = 3 ∨ kd = 4 ∨ kd = 5 ∨ kd = 6 := by omega
      rcases cases7 with rfl | rfl | rfl | rfl | rfl | rfl | rfl
      · exact ⟨_, rfl, l, _, _, _, rfl, rfl, .of upd_same, atI_nat (j := 0) rfl, q _ _ 0 c8 b8 (TD.of_fr (.inl f1)) (numOk_of (n := 0) (d := 1) _ (by rfl) (by omega) (by omega) (by decide))⟩
      · exact ⟨_, rfl, l, _, _, _, rfl, rfl, .of upd_same, atI_nat (j := 1) rfl, q _ _ 1 c8 b8 (TD.of_fr (.inl f2)) (numOk_of (n := 1) (d := 1) _ (by rfl) (by omega) (by omega) (by decide))⟩
      · exact ⟨_, rfl, l, _, _, _, rfl, rfl, .of upd_same, atI_nat (j := 2) rfl, q _ _ 1 c8 b8 (TD.of_fr (.inl f3)) (numOk_of (n := 1) (d := 1) _ (by rfl) (by omega) (by omega) (by decide))⟩
      · exact ⟨_, rfl, l, _, _, _, rfl, rfl, .of upd_same, atI_nat (j := 3) rfl, q _ _ (-1) c8 b8 (TD.of_fr (.inl f4)) (numOk_of (n := -1) (d := 1) _ (by rfl) (by omega) (by omega) (by decide))⟩
      · exact ⟨_, rfl, l, _, _, _, rfl, rfl, .of upd_same, atI_nat (j := 4) rfl, q _ _ 2 c8 b8 (TD.of_fr (.inl f5)) (numOk_of (n := 2) (d := 1) _ (by rfl) (by omega) (by omega) (by decide))⟩
      · exact ⟨_, rfl, l, _, _, _, rfl, rfl, .of upd_same, atI_nat (j := 5) rfl, q _ _ ⟨1, 2, by decide, by decide⟩ c8 b8 (TD.of_fr (.inl f6)) (numOk_of (n := 1) (d := 2) _ (by decide) (by omega) (by omega) (by decide))⟩
      · exact ⟨_, rfl, l, _, _, _, rfl, rfl, .of upd_same, atI_nat (j := 6) rfl, q _ _ ⟨-2, 3, by decide, by decide⟩ c8 b8 (TD.of_fr (.inl f7)) (numOk_of (n := -2) (d := 3) _ (by decide) (by omega) (by omega) (by decide))⟩
    · refine ⟨_, rfl, _, _, rfl, rfl, _, rfl, ?_⟩
      refine ite2 (fun z => ?_) (fun z => ?_)
      · refine ⟨_, rfl, b, 19, rfl, b1, by decide, by decide, fun H2 d2 c2 b2 l2 => ?_⟩
        refine ⟨_, _, rfl, rfl, _, rfl, b, 4, rfl, b2, by decide, by decide, fun H3 d3 c3 b3 l3 => ?_⟩
        refine ⟨_, _, rfl, rfl, _, _, rfl, by omega, ?_, fun H4 v s4 t4 => q _ _ _ (((c1.trans c2).trans c3).same s4) (b3.same s4) t4 ?_⟩
        · exact big64 (by show ((1 : Int) + (d3 : Int)).natAbs < 18446744073709551616; omega)
        · have e : ((1 : Int) + (d3 : Int)) = ((1 + d3 : Nat) : Int) := by omega
          show NumOk (Rat.divInt ((d2 : Int) - 9) ((1 : Int) + (d3 : Int)))
          rw [e]
          exact Gd.of_frac (by omega) (by omega) (by omega)
      · refine ⟨_, rfl, b, 1999999, rfl, b1, by decide, by decide, fun H2 d2 c2 b2 l2 => ?_⟩
        refine ⟨_, _, rfl, rfl, _, rfl, b, 4, rfl, b2, by decide, by decide, fun H3 d3 c3 b3 l3 => ?_⟩
        refine ⟨_, _, rfl, rfl, _, _, rfl, by omega, ?_, fun H4 v s4 t4 => q _ _ _ (((c1.trans c2).trans c3).same s4) (b3.same s4) t4 ?_⟩
        · exact big64 (by show ((1 : Int) + (d3 : Int)).natAbs < 18446744073709551616; omega)
        · have e : ((1 : Int) + (d3 : Int)) = ((1 + d3 : Nat) : Int) := by omega
          show NumOk (Rat.divInt ((d2 : Int) - 999999) ((1 : Int) + (d3 : Int)))
          rw [e]
          exact Gd.of_frac (by omega) (by omega) (by omega)
end
end U
set_option Elab.async false
set_option linter.all false
set_option maxRecDepth 100000
set_option maxHeartbeats 4000000
/-! The law's points, weights, deeds. -/
namespace U
open PySem PySem.Spec PyProof.Rows L2
def wtOf (ws : List (Nat × Nat)) : Row → Nat × Nat
  | .op .times i j => ((ws.getD i (0, 0)).1 + (ws.getD j (0, 0)).1, (ws.getD i (0, 0)).2 + (ws.getD j (0, 0)).2)
  | .op .over i j => ((ws.getD i (0, 0)).1 + (ws.getD j (0, 0)).2, (ws.getD i (0, 0)).2 + (ws.getD j (0, 0)).1)
  | .op _ i j => (max ((ws.getD i (0, 0)).1 + (ws.getD j (0, 0)).2) ((ws.getD j (0, 0)).1 + (ws.getD i (0, 0)).2), (ws.getD i (0, 0)).2 + (ws.getD j (0, 0)).2)
  | _ => (1, 0)
def eW (p : Nat × Nat) : PyData := .tuple [.int p.1, .int p.2]
theorem TD.wt {K : PySem.W.Frag} {H : Hp} {v : V} {p : Nat × Nat} (h : TD K H v (eW p)) : ∃ a, v = .ref a ∧ Tq K H a [.int p.1, .int p.2] := by
  obtain ⟨a, xs, rfl, ht, hs⟩ := h.tup_inv
  cases hs with
  | cons h1 hs => cases hs with
    | cons h2 hs => cases hs with
      | nil =>
        rw [h1.int_inv, h2.int_inv] at ht
        exact ⟨a, rfl, ht⟩
theorem TDs.wt {K : PySem.W.Frag} {H : Hp} {vs : List V} {ws : List (Nat × Nat)} {i : Nat} (h : TDs K H vs (ws.map eW)) (hi : i < ws.length) : ∃ v, vs[i]? = some v ∧ TD K H v (eW (ws.getD i (0, 0))) := by
  have e : (ws.map eW)[i]? = some (eW (ws.getD i (0, 0))) := by
    rw [List.getElem?_map, List.getD_eq_getElem?_getD, List.getElem?_eq_getElem hi]
    rfl
  exact h.get e
section
variable {P : Program} {w : World} {K : PySem.W.Frag} {mg : Str → Option Value} {base : Heap}
def spPoint (K : PySem.W.Frag) : Sp := fun vs H Q _ => ∃ (b : Addr) (n : Nat), vs = [.ref b, .int n] ∧ BX H b ∧ n ≤ 3 ∧ ∀ H' v (pt : List Rat), Ch (· = b) H H' → BX H' b → TD K H' v (.tuple (pt.map eF)) → pt.length = n → (∀ x ∈ pt, SmOk x) → Q v H'
def N_l_point : List Str := ["_law_box_here", "_law_many", "_law_k"]
theorem sc_l_point : FnScope ["_law_box_here", "_law_many", "_law_k"] ["_law_box_here", "_law_many"] (defScope s_l_point) := ⟨rfl, rfl, rfl, by decide +kernel, rfl, by decide +kernel, by decide +kernel⟩
theorem f_l_point (T : Txt K mg) : Cal P w K mg base 4 "_law_point" (spPoint K) := by
  refine cal_of T.a_l_point sc_l_point (fun _ _ _ _ _ _ us hl => match us, hl with | [_, _], _ => rfl) (fun vs H Q E h => ?_) (fun fa cdv A outer s H vs Q E hr h => ?_)
  · obtain ⟨_, _, rfl, _⟩ := h
    rfl
  · obtain ⟨b, n, rfl, bx, h3, q⟩ := h
    refine ⟨_, (pss_one (ps_ret (pe_callTy call_tuple_of (by rfl) T.b_tuple (by decide +kernel) (pa_cons (pe_lc (own := [("_law_k", 2)]) (g := gName 2) (by rfl) sc_l_point.nd (pi_range1 (by rfl) T.b_range (pa_cons (pv 1) pa_nil)) (blkOk_by (N := N_l_point) (sc := defScope s_l_point) (by decide +kernel)) (fun _ _ _ _ _ => (pg_name (i := 2) sc_l_point.nd rfl (Or.inl rfl))) (fun _ _ _ _ _ => pts_nil) (fun _ _ _ _ _ => (pe_c (f_l_small T) hr (by decide) (by rfl) (pa_cons (pv 0) pa_nil)))) pa_nil)))), ?_⟩
    refine ⟨_, rfl, n, rfl, by omega, by omega, fun D hD => ?_⟩
    have en : ((n : Nat) : Int).toNat = n := by omega
    rw [en]
    have hbD : b ≠ D := fun z => bx.some (z ▸ hD)
    have s0 : Same H (upd H D (.lst [])) := Same.new hD
    refine lc_it (walk_range (lo := 0) (n := n)) (fun i H4 => i ≤ n ∧ Ch (fun x => x = b ∨ x = D) (upd H D (.lst [])) H4 ∧ BX H4 b ∧ ∃ (zs : List V) (pt : List Rat), H4 D = some (.lst zs) ∧ TDs K H4 zs (pt.map eF) ∧ pt.length = i ∧ ∀ x ∈ pt, SmOk x) ?_ ?_ ?_ ?_
    · exact ⟨Nat.zero_le _, Ch.refl _ _, bx.same s0, [], [], upd_same, .nil, rfl, fun x hx => by cases hx⟩
    · intro _ _ _ _; trivial
    · rintro i x H4 H5 hi ⟨hle, c4, b4, zs, pt, hzs, tzs, lpt, spt⟩ ⟨rfl, hx⟩
      refine ⟨rfl, _, rfl, b, rfl, b4, fun H6 v6 q6 c6 b6 t6 sq6 => ?_⟩
      have hz6 : H6 D = some (.lst zs) := c6.keep D _ (Ne.symm hbD) hzs
      have lz : zs.length = i := by rw [tzs.len, List.length_map, lpt]
      have big : (100 : Nat) < sizeLine := by decide
      have c7 : Ch (fun x => x = b ∨ x = D) H6 (upd H6 D (.lst (zs ++ [v6]))) := Ch.put (.inr rfl) hz6 (fun _ z => by cases z)
      refine ⟨zs, hz6, by omega, by omega, (c4.trans (c6.mono fun c h => .inl h)).trans c7, ?_, zs ++ [v6], pt ++ [q6], upd_same, ?_, by rw [List.length_append, lpt]; rfl, fun x hx => ?_⟩
      · obtain ⟨cc, sd, hb6, r⟩ := b6
        exact ⟨cc, sd, by rw [upd_ne hbD]; exact hb6, r⟩
      · rw [List.map_append]
        exact ((tzs.up c6.kp).snoc t6).up c7.kp
      · rcases List.mem_append.mp hx with h | h
        · exact spt x h
        · rw [List.mem_singleton] at h; rw [h]; exact sq6
    · rintro H4 ⟨_, c4, b4, zs, pt, hzs, tzs, lpt, spt⟩
      have c04 : Ch (· = b) H H4 := ⟨fun x u nx hx => by
        have xD : x ≠ D := ne_of_none hx hD
        exact c4.keep x u (fun z => z.elim nx xD) (s0 x u hx), (Kp.of s0).trans c4.kp⟩
      refine ⟨D, zs, rfl, .inl ⟨.of hzs, fun l hl => ?_⟩⟩
      have s5 : Same H4 (upd H4 l (.tup zs)) := Same.new hl
      exact q _ _ pt (c04.same s5) (b4.same s5) (.tup (.inl upd_same) (tzs.up (.of s5))) lpt spt
def spWeight (K : PySem.W.Frag) : Sp := fun vs H Q _ => ∃ (v : V) (hl : Addr) (xs : List V) (ws : List (Nat × Nat)) (r : Row) (n : Nat), vs = [v, .ref hl] ∧ TD K H v (eRow r) ∧ H hl = some (.lst xs) ∧ TDs K H xs (ws.map eW) ∧ RowWf n ws.length r ∧ ∀ H' u, Same H H' → TD K H' u (eW (wtOf ws r)) → Q u H'
theorem sc_l_weight : FnScope ["_law_row", "_law_heavy", "_law_a", "_law_b", "_law_c", "_law_d"] ["_law_row", "_law_heavy"] (defScope s_l_weight) := ⟨rfl, rfl, rfl, by decide +kernel, rfl, by decide +kernel, by decide +kernel⟩
theorem f_l_weight (T : Txt K mg) : Cal P w K mg base 1 "_law_weight" (spWeight K) := by
  refine cal_of T.a_l_weight sc_l_weight (fun _ _ _ _ _ _ us hl => match us, hl with | [_, _], _ => rfl) (fun vs H Q E h => ?_) (fun fa cdv A outer s H vs Q E hr h => ?_)
  · obtain ⟨_, _, _, _, _, _, rfl, _⟩ := h
    rfl
  · obtain ⟨v, hl, xs, ws, r, n, rfl, hv, hf, tx, wf, q⟩ := h
    refine ⟨_, (pss_cons (ps_if (PW.pt (pw_or (pt_cmpR op_eq (pe_ix ix_tup (pv 0) pe_int (fun _ _ => rfl)) pe_str (nomark _)) (pw_or1 (pt_cmpR op_eq (pe_ix ix_tup (pv 0) pe_int (fun _ _ => rfl)) pe_str (nomark _)))))
(pss_one (ps_ret (pe_tup (pa_cons pe_int (pa_cons pe_int pa_nil)))))
pss_nil)
(pss_cons (ps_asg (pe_ix ix_list (pv 1) (pe_ix ix_tup (pv 0) pe_int (fun _ _ => rfl)) (fun _ _ => rfl)) (pg_tup (by rfl) (pgs_cons (pg_name (i := 2) sc_l_weight.nd rfl (Or.inl rfl)) (pgs_cons (pg_name (i := 3) sc_l_weight.nd rfl (Or.inl rfl)) pgs_nil))))
(pss_cons (ps_asg (pe_ix ix_list (pv 1) (pe_ix ix_tup (pv 0) pe_int (fun _ _ => rfl)) (fun _ _ => rfl)) (pg_tup (by rfl) (pgs_cons (pg_name (i := 4) sc_l_weight.nd rfl (Or.inl rfl)) (pgs_cons (pg_name (i := 5) sc_l_weight.nd rfl (Or.inl rfl)) pgs_nil))))
(pss_cons (ps_if (pt_cmpR op_eq (pe_ix ix_tup (pv 0) pe_int (fun _ _ => rfl)) pe_str (nomark _))
(pss_one (ps_ret (pe_tup (pa_cons (pe_op op_add (pv 2) (pv 4)) (pa_cons (pe_op op_add (pv 3) (pv 5)) pa_nil)))))
pss_nil)
(pss_cons (ps_if (pt_cmpR op_eq (pe_ix ix_tup (pv 0) pe_int (fun _ _ => rfl)) pe_str (nomark _))
(pss_one (ps_ret (pe_tup (pa_cons (pe_op op_add (pv 2) (pv 5)) (pa_cons (pe_op op_add (pv 3) (pv 4)) pa_nil)))))
pss_nil)
(pss_one (ps_ret (pe_tup (pa_cons (pe_callB (call_max2 rfl) (by rfl) T.b_max (by decide +kernel) (pa_cons (pe_op op_add (pv 2) (pv 5)) (pa_cons (pe_op op_add (pv 4) (pv 3)) pa_nil))) (pa_cons (pe_op op_add (pv 3) (pv 5)) pa_nil)))))))))), ?_⟩
    have give : ∀ (x y : Int) (p : Nat × Nat), wtOf ws r = p → x = (p.1 : Nat) → y = (p.2 : Nat) → ∀ a, H a = none → Q (.ref a) (upd H a (.tup [.int x, .int y])) := fun x y p e hx hy a ha => by
      refine q _ _ (Same.new ha) ?_
      rw [e]
      exact .tup (.inl upd_same) (.cons (by rw [hx]; exact .int _) (.cons (by rw [hy]; exact .int _) .nil))
    cases r with
    | num qn =>
      obtain ⟨a, vf, rfl, ta, _⟩ := hv.row_num
      exact ⟨_, rfl, _, _, _, _, rfl, rfl, ta.sq, a0, rfl, _, rfl, iteY (by decide +kernel) (iteY rfl ⟨two_le, give 1 0 (1, 0) rfl rfl rfl⟩)⟩
    | let_ k =>
      obtain ⟨a, rfl, ta⟩ := hv.row_let
      exact ⟨_, rfl, _, _, _, _, rfl, rfl, ta.sq, a0, rfl, _, rfl, iteN (by decide +kernel) ⟨_, rfl, _, _, _, _, rfl, rfl, ta.sq, a0, rfl, _, rfl, iteY (by decide +kernel) ⟨two_le, give 1 0 (1, 0) rfl rfl rfl⟩⟩⟩
    | op wd i j =>
      obtain ⟨a, rfl, ta⟩ := hv.row_op
      obtain ⟨hi, hj⟩ := wf
      obtain ⟨v1, e1, t1⟩ := tx.wt hi
      obtain ⟨v2, e2, t2⟩ := tx.wt hj
      obtain ⟨p1, rfl, q1⟩ := t1.wt
      obtain ⟨p2, rfl, q2⟩ := t2.wt
      have nL : decide (V.str (wdS wd) = V.str "letter") = false := by cases wd <;> decide +kernel
      have nN : decide (V.str (wdS wd) = V.str "number") = false := by cases wd <;> decide +kernel
      refine ⟨_, rfl, _, _, _, _, rfl, rfl, ta.sq, a0, rfl, _, rfl, iteN nN ⟨_, rfl, _, _, _, _, rfl, rfl, ta.sq, a0, rfl, _, rfl, iteN nL ?_⟩⟩
      refine ⟨_, rfl, _, rfl, _, _, _, _, rfl, rfl, ta.sq, a1, hl, xs, _, _, rfl, rfl, .of hf, atI_nat e1, p1, _, rfl, q1.sq, rfl, _, _, rfl, _, _, rfl, rfl, ?_⟩
      refine ⟨_, rfl, _, rfl, _, _, _, _, rfl, rfl, ta.sq, a2, hl, xs, _, _, rfl, rfl, .of hf, atI_nat e2, p2, _, rfl, q2.sq, rfl, _, _, rfl, _, _, rfl, rfl, ?_⟩
      refine ⟨_, rfl, _, _, _, _, rfl, rfl, ta.sq, a0, rfl, _, rfl, ?_⟩
      cases wd with
      | times =>
        refine iteY (by decide +kernel) ⟨_, rfl, _, rfl, _, _, rfl, rfl, _, rfl, _, rfl, _, _, rfl, rfl, two_le, ?_⟩
        exact give _ _ _ rfl (by show _ = (((ws.getD i (0, 0)).1 + (ws.getD j (0, 0)).1 : Nat) : Int); omega) (by show _ = (((ws.getD i (0, 0)).2 + (ws.getD j (0, 0)).2 : Nat) : Int); omega)
      | over =>
        refine iteN (by decide +kernel) ⟨_, rfl, _, _, _, _, rfl, rfl, ta.sq, a0, rfl, _, rfl, iteY (by decide +kernel) ⟨_, rfl, _, rfl, _, _, rfl, rfl, _, rfl, _, rfl, _, _, rfl, rfl, two_le, ?_⟩⟩
        exact give _ _ _ rfl (by show _ = (((ws.getD i (0, 0)).1 + (ws.getD j (0, 0)).2 : Nat) : Int); omega) (by show _ = (((ws.getD i (0, 0)).2 + (ws.getD j (0, 0)).1 : Nat) : Int); omega)
      | plus =>
        refine iteN (by decide +kernel) ⟨_, rfl, _, _, _, _, rfl, rfl, ta.sq, a0, rfl, _, rfl, iteN (by decide +kernel) ⟨_, rfl, _, rfl, _, _, rfl, rfl, _, rfl, _, rfl, _, _, rfl, rfl, _, _, rfl, _, rfl, _, rfl, _, _, rfl, rfl, two_le, ?_⟩⟩
        refine give _ _ _ rfl ?_ (by show _ = (((ws.getD i (0, 0)).2 + (ws.getD j (0, 0)).2 : Nat) : Int); omega)
        show _ = ((max ((ws.getD i (0, 0)).1 + (ws.getD j (0, 0)).2) ((ws.getD j (0, 0)).1 + (ws.getD i (0, 0)).2) : Nat) : Int)
        split <;> omega
      | less =>
        refine iteN (by decide +kernel) ⟨_, rfl, _, _, _, _, rfl, rfl, ta.sq, a0, rfl, _, rfl, iteN (by decide +kernel) ⟨_, rfl, _, rfl, _, _, rfl, rfl, _, rfl, _, rfl, _, _, rfl, rfl, _, _, rfl, _, rfl, _, rfl, _, _, rfl, rfl, two_le, ?_⟩⟩
        refine give _ _ _ rfl ?_ (by show _ = (((ws.getD i (0, 0)).2 + (ws.getD j (0, 0)).2 : Nat) : Int); omega)
        show _ = ((max ((ws.getD i (0, 0)).1 + (ws.getD j (0, 0)).2) ((ws.getD j (0, 0)).1 + (ws.getD i (0, 0)).2) : Nat) : Int)
        split <;> omega
def spLDeed (K : PySem.W.Frag) : Sp := fun vs H Q _ => ∃ (wd : Wd) (x y : V) (a b : Rat), vs = [.str (wdS wd), x, y] ∧ TD K H x (eF a) ∧ TD K H y (eF b) ∧ Sz 4400 a ∧ Sz 4400 b ∧ (wd = .over → b ≠ 0) ∧ ∀ H' v, Same H H' → TD K H' v (eF (deed wd a b)) → Q v H'
theorem sc_l_deed : FnScope ["_law_word", "_law_a", "_law_b"] ["_law_word", "_law_a", "_law_b"] (defScope s_l_deed) := ⟨rfl, rfl, rfl, by decide +kernel, rfl, by decide +kernel, by decide +kernel⟩
theorem f_l_deed (T : Txt K mg) : Cal P w K mg base 4 "_law_deed" (spLDeed K) := by
  refine cal_of T.a_l_deed sc_l_deed (fun _ _ _ _ _ _ us hl => match us, hl with | [_, _, _], _ => rfl) (fun vs H Q E h => ?_) (fun fa cdv A outer s H vs Q E hr h => ?_)
  · obtain ⟨_, _, _, _, _, rfl, _⟩ := h
    rfl
  · obtain ⟨wd, x, y, a, b, rfl, hx, hy, sa, sb, hb, q⟩ := h
    refine ⟨_, (pss_cons (ps_if (pt_cmpR op_eq (pv 0) pe_str (nomark _))
(pss_one (ps_ret (pe_c (f_l_plus T) hr (by decide) (by rfl) (pa_cons (pv 1) (pa_cons (pv 2) pa_nil)))))
pss_nil)
(pss_cons (ps_if (pt_cmpR op_eq (pv 0) pe_str (nomark _))
(pss_one (ps_ret (pe_c (f_l_plus T) hr (by decide) (by rfl) (pa_cons (pv 1) (pa_cons (pe_tup (pa_cons (pe_op op_sub pe_int (pe_ix ix_tup (pv 2) pe_int (fun _ _ => rfl))) (pa_cons (pe_ix ix_tup (pv 2) pe_int (fun _ _ => rfl)) pa_nil))) pa_nil)))))
pss_nil)
(pss_cons (ps_if (pt_cmpR op_eq (pv 0) pe_str (nomark _))
(pss_one (ps_ret (pe_c (f_l_times T) hr (by decide) (by rfl) (pa_cons (pv 1) (pa_cons (pv 2) pa_nil)))))
pss_nil)
(pss_one (ps_ret (pe_c (f_l_fraction T) hr (by decide) (by rfl) (pa_cons (pe_op op_mulW (pe_ix ix_tup (pv 1) pe_int (fun _ _ => rfl)) (pe_ix ix_tup (pv 2) pe_int (fun _ _ => rfl))) (pa_cons (pe_op op_mulW (pe_ix ix_tup (pv 1) pe_int (fun _ _ => rfl)) (pe_ix ix_tup (pv 2) pe_int (fun _ _ => rfl))) pa_nil)))))))), ?_⟩
    refine ⟨_, rfl, rfl, _, rfl, ?_⟩
    cases wd with
    | plus => exact iteY (by decide +kernel) ⟨_, rfl, _, rfl, _, _, _, _, rfl, hx, hy, ⟨sa, sb⟩, fun H1 v1 s1 t1 => q _ _ s1 t1⟩
    | less =>
      refine iteN (by decide +kernel) ⟨_, rfl, rfl, _, rfl, iteY (by decide +kernel) ?_⟩
      obtain ⟨p, rfl, hp⟩ := hy.fr
      refine ⟨_, rfl, _, rfl, _, _, _, _, rfl, rfl, hp.sq, a0, _, _, rfl, rfl, _, rfl, _, _, _, _, rfl, rfl, hp.sq, a1, two_le, fun t ht => ?_⟩
      have s1 := Same.new (o := HO.tup [V.int (0 - b.num), V.int b.den]) ht
      have tb : TD K (upd H t (.tup [V.int (0 - b.num), V.int b.den])) (.ref t) (eF (-b)) := TD.of_fr (q := -b) (.inl (by rw [upd_same, Rat.neg_num, Rat.neg_den, Int.zero_sub]))
      have sn : Sz 4400 (-b) := ⟨by rw [Rat.neg_num]; have := sb.1; omega, by rw [Rat.neg_den]; exact sb.2⟩
      refine ⟨_, _, _, _, rfl, hx.up (.of s1), tb, ⟨sa, sn⟩, fun H2 v2 s2 t2 => q _ _ (L2.Same.trans s1 s2) ?_⟩
      have e : a + -b = a - b := by grind
      show TD K H2 v2 (eF (a - b))
      rw [← e]
      exact t2
    | times =>
      exact iteN (by decide +kernel) ⟨_, rfl, rfl, _, rfl, iteN (by decide +kernel) ⟨_, rfl, rfl, _, rfl, iteY (by decide +kernel) ⟨_, rfl, _, rfl, _, _, _, _, rfl, hx, hy, ⟨sa, sb⟩, fun H1 v1 s1 t1 => q _ _ s1 t1⟩⟩⟩
    | over =>
      refine iteN (by decide +kernel) ⟨_, rfl, rfl, _, rfl, iteN (by decide +kernel) ⟨_, rfl, rfl, _, rfl, iteN (by decide +kernel) ?_⟩⟩
      obtain ⟨p, rfl, hp⟩ := hx.fr
      obtain ⟨r, rfl, hr'⟩ := hy.fr
      refine ⟨_, rfl, _, _, _, _, rfl, rfl, hp.sq, a0, _, rfl, _, _, _, _, rfl, rfl, hr'.sq, a1, _, _, rfl, rfl, mulW sa.1 (by rw [natAbs_den]; exact sb.2), _, rfl, _, _, _, _, rfl, rfl, hp.sq, a1, _, rfl, _, _, _, _, rfl, rfl, hr'.sq, a0, _, _, rfl, rfl, mulW (by rw [natAbs_den]; exact sa.2) sb.1, ?_⟩
      refine ⟨_, _, rfl, ?_, mul_lt9 (by rw [natAbs_den]; exact sa.2) sb.1, fun H' v sm td => ?_⟩
      · exact Int.mul_ne_zero (by have := a.den_nz; omega) (fun z => hb rfl (Rat.num_eq_zero.mp z))
      · rw [divInt_div] at td
        exact q _ _ sm td
end
end U
set_option Elab.async false
set_option linter.all false
set_option maxRecDepth 100000
set_option maxHeartbeats 4000000
/-! enumerate of a list or a tuple; _law_run. -/
namespace U
open PySem PySem.Spec PyProof.Rows L2
def ItEA (K : PySem.W.Frag) (b : Bool) (a : Addr) : It := match b with
  | true => Ite K a
  | false => ItEt K a
theorem walk_enumA {K : PySem.W.Frag} {a : Addr} {b : Bool} {xs : List V} : Walk (ItEA K b a) xs.length (fun H => SqB K H a b xs) (YPair (fun i => some (.int (i : Nat))) (fun i => xs[i]?)) := by
  cases b with
  | true => exact walk_enum
  | false => exact walk_enumT
def iEnumA (K : PySem.W.Frag) (ta : TA) : TI := fun σ H R => ta σ H fun vs H1 => ∃ a b xs, vs = [.ref a] ∧ SqB K H1 a b xs ∧ R (ItEA K b a) H1
theorem pi_enumA {X : Cx} {e : Expr} {ta : TA} {p pos tpos : Pos} {elts : List Expr} {kk : Nat} (hg : Gl X "enumerate") (hm : X.mg "enumerate" = none) (ha : PA X [e] ta) (hs : starEach [e] X.env = [(false, eval e X.env)] := by rfl) :
    PI X (.Tuple elts kk tpos) (.Call (.Name "enumerate" p) [e] [] pos) (iEnumA X.K ta) := by
  refine ⟨fun pins s σ H R I h => ?_⟩
  refine Call_ (ld_blt I hg hm boot_enumerate (PyProof.Rows.callWith_type1 (thn (ha.run pos pins s σ H _ I h) fun us s1 ⟨vs, H1, I1, r1, q1⟩ => ?_) hs rfl))
  obtain ⟨a, b, xs, ex, hq, q⟩ := q1
  subst ex
  cases r1 with
  | cons r rr =>
    cases rr
    cases r
    cases b with
    | true =>
      obtain ⟨its, rv, p', hz⟩ := I1.list hq
      refine call_enumerate_list p'.isList fun h' he hit hsz hk => wpAny_pyIter_enum he ?_
      have I2 : Inv X pins σ H1 { s1 with heap := h' } := I1.kept (t' := s1.toks) hk
      refine ⟨s1.heap.objs.size + 1, [s1.heap.objs.size + 1, s1.heap.objs.size], _, _, H1, rfl, I2, turn_enum a (s1.heap.objs.size + 1) s1.heap.objs.size, ⟨⟨.none, he⟩, hit, Nat.succ_ne_self _⟩, fun b hb => ?_, q⟩
      have e' : b = s1.heap.objs.size + 1 ∨ b = s1.heap.objs.size := by simpa using hb
      have hle : s1.heap.objs.size ≤ b := by
        rcases e' with z | z
        · rw [z]; exact Nat.le_add_right _ _
        · rw [z]; exact Nat.le_refl _
      exact I1.fpOk hle (I1.hok.fresh hle)
    | false =>
      obtain ⟨its, rv, p', hz⟩ := I1.tuple hq
      have hal : a < s1.heap.objs.size := by obtain ⟨_, q, _⟩ := p'; exact Heap.lt_size q
      refine call_enumerate_tuple p' fun h' he hit hsz hk => wpAny_pyIter_enum he ?_
      have I2 : Inv X pins σ H1 { s1 with heap := h' } := I1.kept (t' := s1.toks) hk
      refine ⟨s1.heap.objs.size + 1, [s1.heap.objs.size + 1, s1.heap.objs.size], _, _, H1, rfl, I2, turn_enumT a (s1.heap.objs.size + 1) s1.heap.objs.size, ⟨⟨.none, he⟩, hit, Nat.succ_ne_self _, Nat.ne_of_lt hal⟩, fun b hb => ?_, q⟩
      have e' : b = s1.heap.objs.size + 1 ∨ b = s1.heap.objs.size := by simpa using hb
      have hle : s1.heap.objs.size ≤ b := by
        rcases e' with z | z
        · rw [z]; exact Nat.le_add_right _ _
        · rw [z]; exact Nat.le_refl _
      exact I1.fpOk hle (I1.hok.fresh hle)
section
variable {P : Program} {w : World} {K : PySem.W.Frag} {mg : Str → Option Value} {base : Heap}
def spLRun (K : PySem.W.Frag) : Sp := fun vs H Q _ => ∃ (ak : Addr) (vl vr pv : V) (b : Bool) (xr : List V) (rows : List Row) (pts : List Rat), vs = [.ref ak, pv] ∧ Tq K H ak [vl, vr] ∧ SeqB K H vr b xr ∧ TDs K H xr (rows.map eRow) ∧ TD K H pv (.tuple (pts.map eF)) ∧ RunOk pts rows ∧
  ∀ H' p l o xs, Same H H' → H l = none → Tq K H' p [.ref l, oV o] → H' l = some (.lst xs) → (GoodTo pts rows rows.length → o = none ∧ TDs K H' xs ((valsF pts rows).map eF)) → (¬ GoodTo pts rows rows.length → o ≠ none) → Q (.ref p) H'
theorem sc_l_run : FnScope ["_law_reckoning", "_law_point_here", "_law_values", "_law_at", "_law_row"] ["_law_reckoning", "_law_point_here"] (defScope s_l_run) := ⟨rfl, rfl, rfl, by decide +kernel, rfl, by decide +kernel, by decide +kernel⟩
theorem f_l_run (T : Txt K mg) : Cal P w K mg base 5 "_law_run" (spLRun K) := by
  refine cal_of T.a_l_run sc_l_run (fun _ _ _ _ _ _ us hl => match us, hl with | [_, _], _ => rfl) (fun vs H Q E h => ?_) (fun fa cdv A outer s H vs Q E hr h => ?_)
  · obtain ⟨_, _, _, _, _, _, _, _, rfl, _⟩ := h
    rfl
  · obtain ⟨ak, vl, vr, pv_, sb, xr, rows, pts, rfl, tk, hsq, tdr, hp, ok, q⟩ := h
    refine ⟨_, (pss_cons (ps_set (i := 2) sc_l_run.nd rfl (Or.inl rfl) (pe_lst pa_nil))
(pss_cons (ps_for PassesOwn.never rfl (pi_enumA (by rfl) T.b_enumerate (pa_cons (pe_ix ix_tup (pv 0) pe_int (fun _ _ => rfl)) pa_nil)) (pg_tup (by rfl) (pgs_cons (pg_name (i := 3) sc_l_run.nd rfl (Or.inl rfl)) (pgs_cons (pg_name (i := 4) sc_l_run.nd rfl (Or.inl rfl)) pgs_nil)))
(pss_one (ps_if (pt_cmpR op_eq (pe_ix ix_tup (pv 4) pe_int (fun _ _ => rfl)) pe_str (nomark _))
(pss_one (ps_expr (pe_bm PySem.F.plainAttrs_list PySem.F.slot_list_append PySem.F.type_list_append mt_append (pv 2) (pa_cons (pe_ix ix_tup (pv 4) pe_int (fun _ _ => rfl)) pa_nil))))
(pss_one (ps_if (pt_cmpR op_eq (pe_ix ix_tup (pv 4) pe_int (fun _ _ => rfl)) pe_str (nomark _))
(pss_one (ps_expr (pe_bm PySem.F.plainAttrs_list PySem.F.slot_list_append PySem.F.type_list_append mt_append (pv 2) (pa_cons (pe_ix ix_tup (pv 1) (pe_ix ix_tup (pv 4) pe_int (fun _ _ => rfl)) (fun _ _ => rfl)) pa_nil))))
(pss_one (ps_if (PW.pt (pw_and (pt_cmpR op_eq (pe_ix ix_tup (pv 4) pe_int (fun _ _ => rfl)) pe_str (nomark _)) (pw_and1 (pt_cmpR op_eq (pe_ix ix_tup (pe_ix ix_list (pv 2) (pe_ix ix_tup (pv 4) pe_int (fun _ _ => rfl)) (fun _ _ => rfl)) pe_int (fun _ _ => rfl)) pe_int (nomark _)))))
(pss_one (ps_ret (pe_tup (pa_cons (pv 2) (pa_cons (pv 3) pa_nil)))))
(pss_one (ps_expr (pe_bm PySem.F.plainAttrs_list PySem.F.slot_list_append PySem.F.type_list_append mt_append (pv 2) (pa_cons (pe_c (f_l_deed T) hr (by decide) (by rfl) (pa_cons (pe_ix ix_tup (pv 4) pe_int (fun _ _ => rfl)) (pa_cons (pe_ix ix_list (pv 2) (pe_ix ix_tup (pv 4) pe_int (fun _ _ => rfl)) (fun _ _ => rfl)) (pa_cons (pe_ix ix_list (pv 2) (pe_ix ix_tup (pv 4) pe_int (fun _ _ => rfl)) (fun _ _ => rfl)) pa_nil)))) pa_nil)))))))))))
(pss_one (ps_ret (pe_tup (pa_cons (pv 2) (pa_cons pe_non pa_nil))))))), ?_⟩
    obtain ⟨ar, rfl⟩ : ∃ ar, vr = .ref ar := by obtain ⟨a, e, _⟩ := hsq; exact ⟨a, e⟩
    have lr : xr.length = rows.length := by rw [tdr.len, List.length_map]
    refine ⟨Nat.zero_le _, fun l hl => ?_⟩
    have s0 : Same H (upd H l (.lst [])) := Same.new hl
    refine ⟨_, rfl, _, _, _, _, rfl, rfl, (tk.up (.of s0)).sq, a1, ar, sb, xr, rfl, (hsq.same s0).sq, ?_⟩
    refine for_it (walk_enumA (xs := xr)) (fun i σ H1 => i ≤ rows.length ∧ (∃ x3 x4, σ = [some (.ref ak), some pv_, some (.ref l), x3, x4]) ∧ Ch (· = l) (upd H l (.lst [])) H1 ∧ (∃ xs, H1 l = some (.lst xs) ∧ TDs K H1 xs ((valsF pts (rows.take i)).map eF)) ∧ GoodTo pts rows i) ?_ ?_ ?_ ?_
    · exact ⟨Nat.zero_le _, ⟨_, _, rfl⟩, Ch.refl _ _, ⟨[], upd_same, .nil⟩, fun j r hj => by omega⟩
    · rintro i σ H1 _ ⟨_, _, c, _⟩
      exact (hsq.same (sameNew hl c)).sq
    · rintro i x σ H1 H2 hi ⟨hin, ⟨x3, x4, rfl⟩, c, ⟨xs, hx, tx⟩, gd⟩ ⟨tp, u1, u2, rfl, htp, rfl, e1, e2⟩
      cases e1
      obtain ⟨d, ed, td⟩ := tdr.get' e2
      rw [List.getElem?_map] at ed
      obtain ⟨r, er, rfl⟩ := Option.map_eq_some_iff.mp ed
      have s2 : Same H1 (upd H1 tp (.tup [.int i, u2])) := Same.new htp
      have tot : Same H (upd H1 tp (.tup [.int i, u2])) := L2.Same.trans (sameNew hl c) s2
      have hil : i < rows.length := by omega
      have lv : (valsF pts (rows.take i)).length = i := by rw [valsF_len, List.length_take]; omega
      have hx2 := s2 _ _ hx
      have lx : xs.length = i := by rw [tx.len, List.length_map, lv]
      have okl := ok.len
      have tr2 := td.up (.of tot)
      have hp2 := hp.up (.of tot)
      have tx2 := tx.up (.of s2)
      have wf := ok.wf i r er
      have sz := ok.sz i hin gd
      have c2 := c.same s2
      have tqp : Tq K (upd H1 tp (.tup [.int i, u2])) tp [.int i, u2] := .inl upd_same
      have good2 : ∀ H', Ch (· = l) (upd H l (.lst [])) H' → i + 1 ≤ rows.length := fun _ _ => by omega
      generalize hH2 : upd H1 tp (.tup [.int i, u2]) = H2 at *
      have fin : ∀ (H3 : Hp) (y : V), Same H2 H3 → TD K H3 y (eF (rowVal pts (valsF pts (rows.take i)) r)) → rowBad (valsF pts (rows.take i)) r = false → ∀ (σ' : L2.St) (z3 z4 : Option V), σ' = [some (.ref ak), some pv_, some (.ref l), z3, z4] →
          (i + 1 ≤ rows.length ∧ (∃ x3 x4, σ' = [some (.ref ak), some pv_, some (.ref l), x3, x4]) ∧ Ch (· = l) (upd H l (.lst [])) (upd H3 l (.lst (xs ++ [y]))) ∧ (∃ xs_1, upd H3 l (.lst (xs ++ [y])) l = some (.lst xs_1) ∧ TDs K (upd H3 l (.lst (xs ++ [y]))) xs_1 ((valsF pts (rows.take (i + 1))).map eF)) ∧ GoodTo pts rows (i + 1)) := fun H3 y s3 ty hb σ' z3 z4 eσ => by
        have c4 : Ch (· = l) H3 (upd H3 l (.lst (xs ++ [y]))) := Ch.put rfl (s3 _ _ hx2) (fun _ z => by cases z)
        refine ⟨by omega, ⟨_, _, eσ⟩, (c2.same s3).trans c4, ⟨_, upd_same, ?_⟩, goodTo_succ gd er hb⟩
        rw [valsF_take er, List.map_append]
        exact ((tx2.up (.of s3)).snoc ty).up c4.kp
      refine ⟨tp, _, rfl, tqp.sq, rfl, _, _, rfl, _, _, rfl, rfl, ?_⟩
      cases r with
      | num qn =>
        obtain ⟨a, vf, rfl, ta, tf⟩ := tr2.row_num
        refine ⟨_, rfl, _, _, _, _, rfl, rfl, ta.sq, a0, rfl, _, rfl, iteY (by decide +kernel) ?_⟩
        refine ⟨_, rfl, .inl ⟨rfl, xs, .of hx2⟩, _, rfl, _, _, _, _, rfl, rfl, ta.sq, a1, l, xs, _, rfl, rfl, hx2, by omega, ?_⟩
        exact fin H2 vf (same_rfl _) tf rfl _ _ _ rfl
      | let_ k =>
        obtain ⟨a, rfl, ta⟩ := tr2.row_let
        obtain ⟨pa, ps, rfl, tpp, hps⟩ := hp2.tup_inv
        obtain ⟨v, ev, tv⟩ := hps.getD (i := k) wf
        refine ⟨_, rfl, _, _, _, _, rfl, rfl, ta.sq, a0, rfl, _, rfl, iteN (by decide +kernel) ?_⟩
        refine ⟨_, rfl, _, _, _, _, rfl, rfl, ta.sq, a0, rfl, _, rfl, iteY (by decide +kernel) ?_⟩
        refine ⟨_, rfl, .inl ⟨rfl, xs, .of hx2⟩, _, rfl, _, rfl, _, _, _, _, rfl, rfl, ta.sq, a1, _, _, _, _, rfl, rfl, tpp.sq, atI_nat ev, l, xs, _, rfl, rfl, hx2, by omega, ?_⟩
        exact fin H2 v (same_rfl _) tv rfl _ _ _ rfl
      | op wd a b =>
        obtain ⟨ap, rfl, ta⟩ := tr2.row_op
        obtain ⟨ha, hb⟩ := wf
        obtain ⟨v1, e1, t1⟩ := tx2.getD (i := a) (by rw [lv]; exact ha)
        obtain ⟨v2, e2', t2⟩ := tx2.getD (i := b) (by rw [lv]; exact hb)
        have z1 := sz _ (mem_getD (by rw [lv]; exact ha))
        have z2 := sz _ (mem_getD (by rw [lv]; exact hb))
        have nL : decide (V.str (wdS wd) = V.str "letter") = false := by cases wd <;> decide +kernel
        have nN : decide (V.str (wdS wd) = V.str "number") = false := by cases wd <;> decide +kernel
        refine ⟨_, rfl, _, _, _, _, rfl, rfl, ta.sq, a0, rfl, _, rfl, iteN nN ⟨_, rfl, _, _, _, _, rfl, rfl, ta.sq, a0, rfl, _, rfl, iteN nL ?_⟩⟩
        have go : rowBad (valsF pts (rows.take i)) (.op wd a b) = false → ∃ x, some (V.ref l) = some x ∧ True := fun _ => ⟨_, rfl, trivial⟩
        refine ⟨_, rfl, _, _, _, _, rfl, rfl, ta.sq, a0, rfl, _, rfl, ?_⟩
        by_cases hov : wd = .over
        · subst hov
          obtain ⟨p2, rfl, tp2⟩ := t2.fr
          refine iteY (by decide +kernel) ⟨_, rfl, _, rfl, _, _, _, _, rfl, rfl, ta.sq, a2, l, xs, _, _, rfl, rfl, .of hx2, atI_nat e2', _, _, _, _, rfl, rfl, tp2.sq, a0, rfl, _, rfl, ?_⟩
          by_cases hz : (valsF pts (rows.take i)).getD b 0 = 0
          · have hbad : rowBad (valsF pts (rows.take i)) (.op .over a b) = true := decide_eq_true hz
            have ng : ¬ GoodTo pts rows rows.length := fun g => by
              have := g i _ hil er
              rw [hbad] at this
              cases this
            refine iteY (by rw [hz]; rfl) ⟨_, rfl, _, rfl, two_le, fun tt htt => ?_⟩
            have s3 := Same.new (o := HO.tup [V.ref l, V.int (i : Nat)]) htt
            exact q _ tt l (some i) xs (L2.Same.trans tot s3) hl (.inl upd_same) (s3 _ _ hx2) (fun g => absurd g ng) (fun _ z => by cases z)
          · have hnb : rowBad (valsF pts (rows.take i)) (.op .over a b) = false := decide_eq_false hz
            refine iteN (decide_eq_false fun z => hz (Rat.num_eq_zero.mp (by injection z))) ?_
            refine ⟨_, rfl, .inl ⟨rfl, xs, .of hx2⟩, _, rfl, _, _, _, _, rfl, rfl, ta.sq, a0, _, rfl, _, rfl, _, _, _, _, rfl, rfl, ta.sq, a1, l, xs, _, _, rfl, rfl, .of hx2, atI_nat e1, _, rfl, _, rfl, _, _, _, _, rfl, rfl, ta.sq, a2, l, xs, _, _, rfl, rfl, .of hx2, atI_nat e2', ?_⟩
            refine ⟨.over, _, _, _, _, rfl, t1, t2, z1, z2, fun _ => hz, fun H3 v3 s3 t3 => ⟨l, xs, _, rfl, rfl, s3 _ _ hx2, by omega, ?_⟩⟩
            exact fin H3 v3 s3 t3 hnb _ _ _ rfl
        · have hnb : rowBad (valsF pts (rows.take i)) (.op wd a b) = false := by cases wd <;> first | rfl | exact absurd rfl hov
          refine iteN (by cases wd <;> first | decide +kernel | exact absurd rfl hov) (iteN rfl ?_)
          refine ⟨_, rfl, .inl ⟨rfl, xs, .of hx2⟩, _, rfl, _, _, _, _, rfl, rfl, ta.sq, a0, _, rfl, _, rfl, _, _, _, _, rfl, rfl, ta.sq, a1, l, xs, _, _, rfl, rfl, .of hx2, atI_nat e1, _, rfl, _, rfl, _, _, _, _, rfl, rfl, ta.sq, a2, l, xs, _, _, rfl, rfl, .of hx2, atI_nat e2', ?_⟩
          refine ⟨wd, _, _, _, _, rfl, t1, t2, z1, z2, fun z => absurd z hov, fun H3 v3 s3 t3 => ⟨l, xs, _, rfl, rfl, s3 _ _ hx2, by omega, ?_⟩⟩
          exact fin H3 v3 s3 t3 hnb _ _ _ rfl
    · rintro σ H1 ⟨_, ⟨x3, x4, rfl⟩, c, ⟨xs, hx, tx⟩, gd⟩
      rw [lr] at gd tx
      rw [List.take_length] at tx
      refine ⟨_, rfl, two_le, fun tt htt => ?_⟩
      have s3 := Same.new (o := HO.tup [V.ref l, V.non]) htt
      exact q _ tt l none xs (L2.Same.trans (sameNew hl c) s3) hl (.inl upd_same) (s3 _ _ hx) (fun _ => ⟨rfl, tx.up (.of s3)⟩) (fun ng => absurd gd ng)
end
end U
set_option Elab.async false
set_option linter.all false
set_option maxRecDepth 100000
set_option maxHeartbeats 4000000
/-! The law's old rows: their shape, weights, sizes. -/
namespace U
def wtsF (rows : List Row) : List (Nat × Nat) := rows.foldl (fun ws r => ws ++ [wtOf ws r]) []
theorem wtsF_snoc (rows : List Row) (r : Row) : wtsF (rows ++ [r]) = wtsF rows ++ [wtOf (wtsF rows) r] := by
  unfold wtsF
  rw [List.foldl_append]
  rfl
theorem wtsF_take {rows : List Row} {i : Nat} {r : Row} (h : rows[i]? = some r) : wtsF (rows.take (i + 1)) = wtsF (rows.take i) ++ [wtOf (wtsF (rows.take i)) r] := by
  rw [List.take_add_one, h]
  exact wtsF_snoc _ r
theorem wfold_len : ∀ (rows : List Row) (ws : List (Nat × Nat)), (rows.foldl (fun ws r => ws ++ [wtOf ws r]) ws).length = ws.length + rows.length
  | [], _ => rfl
  | r :: rows, ws => by rw [List.foldl_cons, wfold_len rows, List.length_append, List.length_cons]; simp; omega
theorem wtsF_len (rows : List Row) : (wtsF rows).length = rows.length := by
  unfold wtsF
  rw [wfold_len]
  simp
/-- a row that may come next -/
structure RowNew (n : Nat) (rows : List Row) (r : Row) : Prop where
  wf : RowWf n rows.length r
  num : ∀ q, r = .num q → NumOk q
  ov : ∀ a b, r = .op .over a b → ∃ c d, rows[a]? = some (.op .times c d) ∧ (b = c ∨ b = d)
structure RowOk (n W : Nat) (rows : List Row) (r : Row) : Prop extends RowNew n rows r where
  w1 : (wtOf (wtsF rows) r).1 ≤ W
  w2 : (wtOf (wtsF rows) r).2 ≤ W
def Olds (n W : Nat) (rows : List Row) : Prop := ∀ i r, rows[i]? = some r → RowOk n W (rows.take i) r
theorem Olds.nil (n W : Nat) : Olds n W [] := fun i r h => by simp at h
theorem Olds.mono {n W W' : Nat} {rows : List Row} (h : Olds n W rows) (hw : W ≤ W') : Olds n W' rows := fun i r e => ⟨(h i r e).toRowNew, Nat.le_trans (h i r e).w1 hw, Nat.le_trans (h i r e).w2 hw⟩
theorem Olds.snoc {n W : Nat} {rows : List Row} {r : Row} (h : Olds n W rows) (g : RowOk n W rows r) : Olds n W (rows ++ [r]) := fun i x e => by
  by_cases hi : i < rows.length
  · rw [List.getElem?_append_left hi] at e
    rw [List.take_append_of_le_length (by omega)]
    exact h i x e
  · have hi2 : i = rows.length := by
      have := (List.getElem?_eq_some_iff.mp e).1
      rw [List.length_append] at this
      simp at this
      omega
    subst hi2
    rw [List.getElem?_append_right (Nat.le_refl _), Nat.sub_self] at e
    injection e with e
    subst e
    rw [List.take_append_of_le_length (Nat.le_refl _), List.take_length]
    exact g
theorem Olds.take {n W : Nat} {rows : List Row} (h : Olds n W rows) (m : Nat) : Olds n W (rows.take m) := fun i r e => by
  have hi : i < (rows.take m).length := (List.getElem?_eq_some_iff.mp e).1
  rw [List.length_take] at hi
  rw [List.take_take, Nat.min_eq_left (by omega)]
  refine h i r ?_
  rw [List.getElem?_take] at e
  split at e
  · exact e
  · cases e
theorem Olds.wf {n W : Nat} {rows : List Row} (h : Olds n W rows) (i : Nat) (r : Row) (e : rows[i]? = some r) : RowWf n i r := by
  have := (h i r e).wf
  have hi : i < rows.length := (List.getElem?_eq_some_iff.mp e).1
  rw [List.length_take, Nat.min_eq_left (by omega)] at this
  exact this
theorem getD_snoc_lt {α : Type} {l : List α} {x d : α} {i : Nat} (h : i < l.length) : (l ++ [x]).getD i d = l.getD i d := by
  rw [List.getD_eq_getElem?_getD, List.getD_eq_getElem?_getD, List.getElem?_append_left h]
theorem getD_snoc_eq {α : Type} {l : List α} {x d : α} : (l ++ [x]).getD l.length d = x := by
  rw [List.getD_eq_getElem?_getD, List.getElem?_append_right (Nat.le_refl _), Nat.sub_self]
  rfl
theorem getD_snoc_eq' {α : Type} {l : List α} {x d : α} {i : Nat} (h : l.length = i) : (l ++ [x]).getD i d = x := by
  subst h
  exact getD_snoc_eq
theorem fold_pre {α β : Type} (g : List α → β → α) : ∀ (xs : List β) (acc : List α), ∃ t, xs.foldl (fun ws r => ws ++ [g ws r]) acc = acc ++ t
  | [], acc => ⟨[], by simp⟩
  | x :: xs, acc => by
    obtain ⟨t, e⟩ := fold_pre g xs (acc ++ [g acc x])
    exact ⟨g acc x :: t, by rw [List.foldl_cons, e, List.append_assoc]; rfl⟩
theorem wtsF_pre (rows : List Row) (m : Nat) : ∃ t, wtsF rows = wtsF (rows.take m) ++ t := by
  obtain ⟨t, e⟩ := fold_pre wtOf (rows.drop m) (wtsF (rows.take m))
  refine ⟨t, ?_⟩
  rw [← e]
  conv => lhs; rw [← List.take_append_drop m rows]
  unfold wtsF
  rw [List.foldl_append]
theorem valsF_pre (pt : List Rat) (rows : List Row) (m : Nat) : ∃ t, valsF pt rows = valsF pt (rows.take m) ++ t := by
  obtain ⟨t, e⟩ := fold_pre (rowVal pt) (rows.drop m) (valsF pt (rows.take m))
  refine ⟨t, ?_⟩
  rw [← e]
  conv => lhs; rw [← List.take_append_drop m rows]
  unfold valsF
  rw [List.foldl_append]
/-- weights and values of what stands ahead stay -/
theorem wtsF_at {rows : List Row} {i m : Nat} (h : i < m) (hm : m ≤ rows.length) : (wtsF (rows.take m)).getD i (0, 0) = (wtsF rows).getD i (0, 0) := by
  obtain ⟨t, e⟩ := wtsF_pre rows m
  rw [e, List.getD_eq_getElem?_getD, List.getD_eq_getElem?_getD, List.getElem?_append_left]
  rw [wtsF_len, List.length_take]; omega
theorem valsF_at (pt : List Rat) {rows : List Row} {i m : Nat} (h : i < m) (hm : m ≤ rows.length) : (valsF pt (rows.take m)).getD i 0 = (valsF pt rows).getD i 0 := by
  obtain ⟨t, e⟩ := valsF_pre pt rows m
  rw [e, List.getD_eq_getElem?_getD, List.getD_eq_getElem?_getD, List.getElem?_append_left]
  rw [valsF_len, List.length_take]; omega
/-- each row's value, by the values of the rows ahead -/
theorem val_eq (pt : List Rat) {rows : List Row} {n i : Nat} {r : Row} (e : rows[i]? = some r) (wf : RowWf n i r) : (valsF pt rows).getD i 0 = rowVal pt (valsF pt rows) r := by
  have hi : i < rows.length := (List.getElem?_eq_some_iff.mp e).1
  have e1 : (valsF pt rows).getD i 0 = (valsF pt (rows.take (i + 1))).getD i 0 := (valsF_at pt (by omega) (by omega)).symm
  have lv : (valsF pt (rows.take i)).length = i := by rw [valsF_len, List.length_take]; omega
  rw [e1, valsF_take e, getD_snoc_eq' lv]
  cases r with
  | num q => rfl
  | let_ k => rfl
  | op w a b =>
    show deed w _ _ = deed w _ _
    rw [valsF_at pt wf.1 (by omega), valsF_at pt wf.2 (by omega)]
theorem wt_eq {rows : List Row} {n i : Nat} {r : Row} (e : rows[i]? = some r) (wf : RowWf n i r) : (wtsF rows).getD i (0, 0) = wtOf (wtsF rows) r := by
  have hi : i < rows.length := (List.getElem?_eq_some_iff.mp e).1
  have e1 : (wtsF rows).getD i (0, 0) = (wtsF (rows.take (i + 1))).getD i (0, 0) := (wtsF_at (by omega) (by omega)).symm
  have lv : (wtsF (rows.take i)).length = i := by rw [wtsF_len, List.length_take]; omega
  rw [e1, wtsF_take e, getD_snoc_eq' lv]
  cases r with
  | num q => rfl
  | let_ k => rfl
  | op w a b =>
    have h1 := wtsF_at wf.1 (show i ≤ rows.length by omega)
    have h2 := wtsF_at wf.2 (show i ≤ rows.length by omega)
    cases w <;> (unfold wtOf; simp only; rw [h1, h2])
theorem wt_eqT {rows : List Row} {n i : Nat} {r : Row} (e : rows[i]? = some r) (wf : RowWf n i r) : wtOf (wtsF (rows.take i)) r = wtOf (wtsF rows) r := by
  have hi : i < rows.length := (List.getElem?_eq_some_iff.mp e).1
  cases r with
  | num q => rfl
  | let_ k => rfl
  | op w a b =>
    have h1 := wtsF_at wf.1 (show i ≤ rows.length by omega)
    have h2 := wtsF_at wf.2 (show i ≤ rows.length by omega)
    cases w <;> (unfold wtOf; simp only; rw [h1, h2])
/-- where the run goes well, no divisor is nought -/
theorem good_div {pt : List Rat} {rows : List Row} {n i a b : Nat} (g : GoodTo pt rows rows.length) (e : rows[i]? = some (.op .over a b)) (wf : RowWf n i (.op .over a b)) : (valsF pt rows).getD b 0 ≠ 0 := by
  have hi : i < rows.length := (List.getElem?_eq_some_iff.mp e).1
  have h := g i _ hi e
  have h2 := of_decide_eq_false h
  rwa [valsF_at pt wf.2 (by omega)] at h2
def PtOk (q : Rat) : Prop := Gd 12 4096 q
theorem SmOk.pt {q : Rat} (h : SmOk q) : PtOk q := Gd.mono h (by decide)
/-- the bound of a value: a its weight, i its row -/
def bnd (a i : Nat) : Nat := 2 ^ (a * (28 + 20 * i))
theorem bnd_up {a i B : Nat} {q : Rat} (h : Gd (12 ^ a) (bnd a i) q) {c j : Nat} (hac : a ≤ c) (hc : c ≤ 5) (hij : i < j) (hc1 : 1 ≤ c) : Gd (12 ^ c) (2 ^ (c * (28 + 20 * j) - 1)) q := by
  have e : 12 ^ c = 12 ^ a * 12 ^ (c - a) := by rw [← Nat.pow_add]; congr 1; omega
  rw [e]
  refine (h.wide _).mono ?_
  have h1 : 12 ^ (c - a) ≤ 2 ^ (4 * (c - a)) := by
    rw [Nat.pow_mul]
    exact Nat.pow_le_pow_left (by decide) _
  have h2 : bnd a i * 12 ^ (c - a) ≤ 2 ^ (a * (28 + 20 * i)) * 2 ^ (4 * (c - a)) := Nat.mul_le_mul_left _ h1
  refine Nat.le_trans h2 ?_
  rw [← Nat.pow_add]
  refine Nat.pow_le_pow_right (by decide) ?_
  have h3 : a * (28 + 20 * i) ≤ c * (28 + 20 * i) := Nat.mul_le_mul_right _ hac
  have h4 : c * (28 + 20 * j) = c * (28 + 20 * i) + c * (20 * (j - i)) := by rw [← Nat.mul_add]; congr 1; omega
  have h5 : c * 20 ≤ c * (20 * (j - i)) := Nat.mul_le_mul_left _ (by omega)
  omega
theorem val_bound {n W : Nat} {pt : List Rat} {rows : List Row} (h : Olds n W rows) (hW : W ≤ 5) (hp : ∀ q ∈ pt, PtOk q) (hl : pt.length = n) (g : GoodTo pt rows rows.length) :
    ∀ m i, i < m → i < rows.length → 1 ≤ ((wtsF rows).getD i (0, 0)).1 ∧ Gd (12 ^ ((wtsF rows).getD i (0, 0)).1) (bnd ((wtsF rows).getD i (0, 0)).1 i) ((valsF pt rows).getD i 0) := fun m => by
  induction m with
  | zero => intro i hi; omega
  | succ m ih =>
    intro i him hi
    have e : rows[i]? = some (rows[i]) := List.getElem?_eq_getElem hi
    generalize hr : rows[i] = r at e
    have ok := h i r e
    have wf := h.wf i r e
    have hw1 : ((wtsF rows).getD i (0, 0)).1 ≤ 5 := by rw [wt_eq e wf, ← wt_eqT e wf]; exact Nat.le_trans ok.w1 hW
    rw [wt_eq e wf] at hw1 ⊢
    rw [val_eq pt e wf]
    cases r with
    | num q => exact ⟨Nat.le_refl _, Gd.mono (ok.num q rfl) (Nat.le_trans (show 12 * 1000000 ≤ 2 ^ (1 * 28) by decide) (Nat.pow_le_pow_right (by decide) (by show 1 * 28 ≤ 1 * (28 + 20 * i); omega)))⟩
    | let_ k =>
      have hk : k < pt.length := by rw [hl]; exact wf
      exact ⟨Nat.le_refl _, Gd.mono (hp _ (mem_getD hk)) (Nat.le_trans (show 4096 ≤ 2 ^ (1 * 28) by decide) (Nat.pow_le_pow_right (by decide) (by show 1 * 28 ≤ 1 * (28 + 20 * i); omega)))⟩
    | op w a b =>
      obtain ⟨ha, hb⟩ := wf
      obtain ⟨a1, ga⟩ := ih a (by omega) (by omega)
      obtain ⟨b1, gb⟩ := ih b (by omega) (by omega)
      cases w with
      | plus =>
        have hc1 : 1 ≤ (wtOf (wtsF rows) (.op .plus a b)).1 := by show 1 ≤ max _ _; omega
        have hca : ((wtsF rows).getD a (0, 0)).1 ≤ (wtOf (wtsF rows) (.op .plus a b)).1 := by show _ ≤ max _ _; omega
        have hcb : ((wtsF rows).getD b (0, 0)).1 ≤ (wtOf (wtsF rows) (.op .plus a b)).1 := by show _ ≤ max _ _; omega
        generalize (wtOf (wtsF rows) (.op .plus a b)).1 = c at *
        refine ⟨hc1, ((bnd_up (B := 0) ga hca hw1 ha hc1).add (bnd_up (B := 0) gb hcb hw1 hb hc1)).mono ?_⟩
        rw [← Nat.two_mul, ← Nat.pow_succ']
        refine Nat.pow_le_pow_right (by decide) ?_
        have : 28 ≤ c * (28 + 20 * i) := Nat.le_trans (by omega) (Nat.mul_le_mul hc1 (show 28 ≤ 28 + 20 * i by omega))
        omega
      | less =>
        have hc1 : 1 ≤ (wtOf (wtsF rows) (.op .less a b)).1 := by show 1 ≤ max _ _; omega
        have hca : ((wtsF rows).getD a (0, 0)).1 ≤ (wtOf (wtsF rows) (.op .less a b)).1 := by show _ ≤ max _ _; omega
        have hcb : ((wtsF rows).getD b (0, 0)).1 ≤ (wtOf (wtsF rows) (.op .less a b)).1 := by show _ ≤ max _ _; omega
        generalize (wtOf (wtsF rows) (.op .less a b)).1 = c at *
        refine ⟨hc1, ((bnd_up (B := 0) ga hca hw1 ha hc1).sub (bnd_up (B := 0) gb hcb hw1 hb hc1)).mono ?_⟩
        rw [← Nat.two_mul, ← Nat.pow_succ']
        refine Nat.pow_le_pow_right (by decide) ?_
        have : 28 ≤ c * (28 + 20 * i) := Nat.le_trans (by omega) (Nat.mul_le_mul hc1 (show 28 ≤ 28 + 20 * i by omega))
        omega
      | times =>
        show 1 ≤ ((wtsF rows).getD a (0, 0)).1 + ((wtsF rows).getD b (0, 0)).1 ∧ Gd (12 ^ (((wtsF rows).getD a (0, 0)).1 + ((wtsF rows).getD b (0, 0)).1)) (bnd (((wtsF rows).getD a (0, 0)).1 + ((wtsF rows).getD b (0, 0)).1) i) ((valsF pt rows).getD a 0 * (valsF pt rows).getD b 0)
        refine ⟨by omega, ?_⟩
        rw [Nat.pow_add]
        refine (ga.mul gb).mono ?_
        unfold bnd
        rw [← Nat.pow_add]
        refine Nat.pow_le_pow_right (by decide) ?_
        rw [Nat.add_mul]
        exact Nat.add_le_add (Nat.mul_le_mul_left _ (by omega)) (Nat.mul_le_mul_left _ (by omega))
      | over =>
        obtain ⟨c, d, ec, hcd⟩ := ok.ov a b rfl
        have ec' : rows[a]? = some (.op .times c d) := by
          rw [List.getElem?_take_of_lt ha] at ec
          exact ec
        have wfa := h.wf a _ ec'
        obtain ⟨hc, hd⟩ := wfa
        obtain ⟨c1, gc⟩ := ih c (by omega) (by omega)
        obtain ⟨d1, gd⟩ := ih d (by omega) (by omega)
        have nz := good_div (n := n) g e ⟨ha, hb⟩
        have va := val_eq pt ec' (n := n) ⟨hc, hd⟩
        have wa := wt_eq ec' (n := n) ⟨hc, hd⟩
        have wa1 : ((wtsF rows).getD a (0, 0)).1 = ((wtsF rows).getD c (0, 0)).1 + ((wtsF rows).getD d (0, 0)).1 := by rw [wa]; rfl
        have va1 : (valsF pt rows).getD a 0 = (valsF pt rows).getD c 0 * (valsF pt rows).getD d 0 := va
        have key : ∀ f, f < i → 1 ≤ ((wtsF rows).getD f (0, 0)).1 → Gd (12 ^ ((wtsF rows).getD f (0, 0)).1) (bnd ((wtsF rows).getD f (0, 0)).1 f) ((valsF pt rows).getD f 0) → ((wtsF rows).getD f (0, 0)).1 ≤ ((wtsF rows).getD a (0, 0)).1 → (valsF pt rows).getD a 0 / (valsF pt rows).getD b 0 = (valsF pt rows).getD f 0 →
            1 ≤ (wtOf (wtsF rows) (.op .over a b)).1 ∧ Gd (12 ^ (wtOf (wtsF rows) (.op .over a b)).1) (bnd (wtOf (wtsF rows) (.op .over a b)).1 i) ((valsF pt rows).getD a 0 / (valsF pt rows).getD b 0) := fun f hf h1 gf hwf ev => by
          have hcf : ((wtsF rows).getD f (0, 0)).1 ≤ (wtOf (wtsF rows) (.op .over a b)).1 := Nat.le_trans hwf (by show _ ≤ _ + _; omega)
          have hc1 : 1 ≤ (wtOf (wtsF rows) (.op .over a b)).1 := by omega
          rw [ev]
          exact ⟨hc1, (bnd_up (B := 0) gf hcf hw1 hf hc1).mono (Nat.pow_le_pow_right (by decide) (by omega))⟩
        rcases hcd with rfl | rfl
        · refine key d (by omega) d1 gd (by omega) ?_
          rw [va1]
          grind
        · refine key c (by omega) c1 gc (by omega) ?_
          rw [va1]
          grind
end U
set_option Elab.async false
set_option linter.all false
set_option maxRecDepth 100000
set_option maxHeartbeats 4000000
/-! Runs of the old rows are small. -/
namespace U
theorem good_take {pt : List Rat} {rows : List Row} {i : Nat} (g : GoodTo pt rows i) (hi : i ≤ rows.length) : GoodTo pt (rows.take i) (rows.take i).length := fun j r hj e => by
  rw [List.length_take] at hj
  have hji : j < i := by omega
  rw [List.getElem?_take_of_lt hji] at e
  rw [List.take_take, Nat.min_eq_left (by omega)]
  exact g j r hji e
theorem old_szs {n W : Nat} {pt : List Rat} {rows : List Row} (h : Olds n W rows) (hW : W ≤ 5) (h10 : rows.length ≤ 10) (hp : ∀ q ∈ pt, PtOk q) (hl : pt.length = n) (g : GoodTo pt rows rows.length) : ∀ v ∈ valsF pt rows, Sz 4400 v := fun v hv => by
  obtain ⟨i, hi, rfl⟩ := List.mem_iff_getElem.mp hv
  rw [valsF_len] at hi
  obtain ⟨h1, h2⟩ := val_bound h hW hp hl g (i + 1) i (by omega) hi
  have e : (valsF pt rows).getD i 0 = (valsF pt rows)[i] := by
    rw [List.getD_eq_getElem?_getD, List.getElem?_eq_getElem (by rw [valsF_len]; exact hi)]
    rfl
  rw [e] at h2
  have hr : rows[i]? = some (rows[i]) := List.getElem?_eq_getElem hi
  have h5 : ((wtsF rows).getD i (0, 0)).1 ≤ 5 := by
    rw [wt_eq hr (h.wf i _ hr), ← wt_eqT hr (h.wf i _ hr)]
    exact Nat.le_trans (h i _ hr).w1 hW
  generalize ((wtsF rows).getD i (0, 0)).1 = a at *
  refine h2.sz (Nat.pos_of_ne_zero (by have := Nat.pow_pos (n := a) (show 0 < 12 by decide); omega)) ?_ ?_
  · refine Nat.lt_of_le_of_lt (Nat.pow_le_pow_right (show 0 < 12 by decide) h5) ?_
    exact Nat.lt_of_lt_of_le (show 12 ^ 5 < 2 ^ 20 by decide) (Nat.pow_le_pow_right (by decide) (by decide))
  · unfold bnd
    refine Nat.pow_lt_pow_right (by decide) ?_
    have : a * (28 + 20 * i) ≤ 5 * (28 + 200) := Nat.mul_le_mul h5 (by omega)
    omega
theorem old_run {n W : Nat} {pt : List Rat} {rows : List Row} (h : Olds n W rows) (hW : W ≤ 5) (h10 : rows.length ≤ 10) (hp : ∀ q ∈ pt, PtOk q) (hl : pt.length = n) : RunOk pt rows where
  wf := fun i r e => by rw [hl]; exact h.wf i r e
  sz := fun i hi g => old_szs (h.take i) hW (by rw [List.length_take]; omega) hp hl (good_take g hi)
  len := Nat.lt_of_le_of_lt h10 (by decide)
end U
set_option Elab.async false
set_option linter.all false
set_option maxRecDepth 100000
set_option maxHeartbeats 4000000
/-! max of a pair; _law_drawn_row. -/
namespace U
open PySem PySem.Spec PyProof.Rows L2
section
variable {X : Cx}
def rMaxT (K : PySem.W.Frag) : List V → Hp → VK → Prop := fun vs H Q => ∃ (a : Addr) (n m : Int), vs = [V.ref a] ∧ SqT K H a [.int n, .int m] ∧ Q (.int (if n < m then m else n)) H
theorem cr_maxT (hc : X.calm = true) (hu : X.A.units + 100 < cLine) : CallR X (.builtin "max") (rMaxT X.K) := by
  intro pins s σ H vs us Q I r h
  obtain ⟨a, n, m, rfl, hs, q⟩ := h
  obtain ⟨its, rv, hl, _⟩ := I.tuple hs
  rw [Vals.ref1 r]
  have hi : IntsAre its [n, m] := Vals.ints (ns := [n, m]) rv
  refine PySem.W.max_tuple_datum (α := Int) (x := n) (xs := [m]) (I.ok.hd hc) hl (PySem.W.HoldAll.of_ints hi) (by show X.A.units + 1 + 0 < cLine; omega) fun i v h' tk _ hv hk => ?_
  obtain ⟨t, rfl⟩ := PySem.W.int_of_holds hv
  refine ⟨.int _, H, I.kept hk, ⟨_, rfl⟩, ?_⟩
  have e : PySem.W.maxOf n [m] = if n < m then m else n := by
    show (if (decide (n < m)) = true then m else n) = _
    by_cases z : n < m <;> simp [z]
  rw [e]
  exact q
end
section
variable {P : Program} {w : World} {K : PySem.W.Frag} {mg : Str → Option Value} {base : Heap}
def spDrawn (K : PySem.W.Frag) : Sp := fun vs H Q _ => ∃ (b lr : Addr) (n : Nat) (xs : List V) (rows : List Row), vs = [.ref b, .ref lr, .int n, .int 1] ∧ BX H b ∧ b ≠ lr ∧ H lr = some (.lst xs) ∧ TDs K H xs (rows.map eRow) ∧ 1 ≤ n ∧ n ≤ 3 ∧ rows.length ≤ 10 ∧
  (∀ i r, rows[i]? = some r → RowWf n i r) ∧ ∀ H' v r, Ch (· = b) H H' → BX H' b → TD K H' v (eRow r) → RowNew n rows r → Q v H'
def N_l_drawn_row : List Str := ["_law_box_here", "_law_rows", "_law_many", "_law_kind", "_law_k", "_law_word", "_law_i", "_law_j", "_law_some", "_law_n"]
theorem sc_l_drawn_row : FnScope ["_law_box_here", "_law_rows", "_law_many", "_law_kind", "_law_k", "_law_word", "_law_i", "_law_j", "_law_some", "_law_n"] ["_law_box_here", "_law_rows", "_law_many", "_law_kind"] (defScope s_l_drawn_row) := ⟨rfl, rfl, rfl, by decide +kernel, rfl, by decide +kernel, by decide +kernel⟩
def wd6 : List Wd := [.plus, .less, .times, .times, .over, .over]
theorem wdS_at {i : Nat} (h : i < 6) : ∃ wd, [V.str "plus", V.str "less", V.str "times", V.str "times", V.str "over", V.str "over"][i]? = some (.str (wdS wd)) := by
  match i, h with
  | 0, _ => exact ⟨.plus, rfl⟩
  | 1, _ => exact ⟨.less, rfl⟩
  | 2, _ => exact ⟨.times, rfl⟩
  | 3, _ => exact ⟨.times, rfl⟩
  | 4, _ => exact ⟨.over, rfl⟩
  | 5, _ => exact ⟨.over, rfl⟩
theorem f_l_drawn_row (T : Txt K mg) : Cal P w K mg base 4 "_law_drawn_row" (spDrawn K) := by
  refine cal_of T.a_l_drawn_row sc_l_drawn_row (fun _ _ _ _ _ _ us hl => match us, hl with | [_, _, _, _], _ => rfl) (fun vs H Q E h => ?_) (fun fa cdv A outer s H vs Q E hr h => ?_)
  · obtain ⟨_, _, _, _, _, rfl, _⟩ := h
    rfl
  · obtain ⟨b, lr, n, xs, rows, rfl, bx, bne, hx, tx, n1, n3, r10, wf, q⟩ := h
    refine ⟨_, (pss_cons (ps_set (i := 4) sc_l_drawn_row.nd rfl (Or.inl rfl) (pe_callB call_len_seq (by rfl) T.b_len PySem.boot_len (pa_cons (pv 1) pa_nil)))
(pss_cons (ps_set (i := 5) sc_l_drawn_row.nd rfl (Or.inl rfl) (pe_ix ix_list (pe_lst (pa_cons pe_str (pa_cons pe_str (pa_cons pe_str (pa_cons pe_str (pa_cons pe_str (pa_cons pe_str pa_nil))))))) (pe_c (f_l_take T) hr (by decide) (by rfl) (pa_cons (pv 0) (pa_cons pe_int pa_nil))) (fun _ _ => rfl)))
(pss_cons (ps_if (PW.pt (pw_or (pt_cmpR op_eq (pv 4) pe_int (nomark _)) (pw_or1 (pt_cmpR op_lt (pe_c (f_l_take T) hr (by decide) (by rfl) (pa_cons (pv 0) (pa_cons pe_int pa_nil))) pe_int (nomark _)))))
(pss_cons (ps_if (pt_cmpR op_eq (pe_c (f_l_take T) hr (by decide) (by rfl) (pa_cons (pv 0) (pa_cons pe_int pa_nil))) pe_int (nomark _))
(pss_one (ps_ret (pe_tup (pa_cons pe_str (pa_cons (pe_c (f_l_number T) hr (by decide) (by rfl) (pa_cons (pv 0) pa_nil)) pa_nil)))))
pss_nil)
(pss_one (ps_ret (pe_tup (pa_cons pe_str (pa_cons (pe_c (f_l_take T) hr (by decide) (by rfl) (pa_cons (pv 0) (pa_cons (pv 2) pa_nil))) pa_nil))))))
pss_nil)
(pss_cons (ps_set (i := 6) sc_l_drawn_row.nd rfl (Or.inl rfl) (pe_ix ix_list (pe_lst (pa_cons (pe_op op_sub (pv 4) pe_int) (pa_cons (pe_c (f_l_take T) hr (by decide) (by rfl) (pa_cons (pv 0) (pa_cons (pv 4) pa_nil))) pa_nil))) (pe_c (f_l_take T) hr (by decide) (by rfl) (pa_cons (pv 0) (pa_cons pe_int pa_nil))) (fun _ _ => rfl)))
(pss_cons (ps_set (i := 7) sc_l_drawn_row.nd rfl (Or.inl rfl) (pe_c (f_l_take T) hr (by decide) (by rfl) (pa_cons (pv 0) (pa_cons (pv 4) pa_nil))))
(pss_cons (ps_setLc (i := 8) (own := [("_law_n", 9)]) (g := gName 9) (by rfl) sc_l_drawn_row.nd rfl rfl (sw_true rfl rfl rfl (by decide +kernel)) (pi_range1 (by rfl) T.b_range (pa_cons (pv 4) pa_nil)) (blkOk_by (N := N_l_drawn_row) (sc := defScope s_l_drawn_row) (by decide +kernel)) (fun _ _ _ _ _ => (pg_name (i := 9) sc_l_drawn_row.nd rfl (Or.inl rfl))) (fun _ _ _ _ _ => pts_one (pt_cmpR op_eq (pe_ix (ix_tupB (K := K) rfl) (pe_ix (ix_listB (K := K) rfl) (pv 1) (pv 9) (fun _ _ => rfl)) pe_int (fun _ _ => rfl)) pe_str (nomark _))) (fun _ _ _ _ _ => (pv 9)))
(pss_cons (ps_if (PW.pt (pw_and (pt_cmpR op_eq (pv 5) pe_str (nomark _)) (pw_and (pt_cmpR op_eq (pv 3) pe_int (nomark _)) (pw_and1 (pt_cmpR op_gt (pe_callB call_len_seq (by rfl) T.b_len PySem.boot_len (pa_cons (pv 8) pa_nil)) pe_int (nomark _))))))
(pss_cons (ps_set (i := 9) sc_l_drawn_row.nd rfl (Or.inl rfl) (pe_ix ix_list (pv 8) (pe_c (f_l_take T) hr (by decide) (by rfl) (pa_cons (pv 0) (pa_cons (pe_callB call_len_seq (by rfl) T.b_len PySem.boot_len (pa_cons (pv 8) pa_nil)) pa_nil))) (fun _ _ => rfl)))
(pss_one (ps_ret (pe_tup (pa_cons pe_str (pa_cons (pv 9) (pa_cons (pe_ix ix_tup (pe_ix ix_list (pv 1) (pv 9) (fun _ _ => rfl)) (pe_op op_add pe_int (pe_c (f_l_take T) hr (by decide) (by rfl) (pa_cons (pv 0) (pa_cons pe_int pa_nil)))) (fun _ _ => rfl)) pa_nil)))))))
pss_nil)
(pss_cons (ps_if (PW.pt (pw_and (pt_cmpR op_eq (pv 5) pe_str (nomark _)) (pw_and1 (pt_cmpR op_lt (pv 3) pe_int (nomark _)))))
(pss_one (ps_set (i := 5) sc_l_drawn_row.nd rfl (Or.inl rfl) pe_str))
pss_nil)
(pss_one (ps_ret (pe_tup (pa_cons (pv 5) (pa_cons (pv 6) (pa_cons (pv 7) pa_nil)))))))))))))), ?_⟩
    have lx : xs.length = rows.length := by rw [tx.len, List.length_map]
    have keepL : ∀ {H'}, Ch (· = b) H H' → H' lr = some (.lst xs) := fun c => c.keep lr _ (Ne.symm bne) hx
    refine ⟨_, rfl, lr, xs, rfl, .inl (.of hx), ?_⟩
    refine ⟨(by show 6 ≤ sizeLine; decide), fun p hp => ?_⟩
    have s1 := Same.new (o := HO.lst [V.str "plus", V.str "less", V.str "times", V.str "times", V.str "over", V.str "over"]) hp
    have c0 : Ch (· = b) H (upd H p (.lst [V.str "plus", V.str "less", V.str "times", V.str "times", V.str "over", V.str "over"])) := (Ch.refl _ _).same s1
    have pb : p ≠ b := fun z => bx.some (z ▸ hp)
    refine ⟨_, rfl, b, 6, rfl, bx.same s1, by decide, by decide, fun H1 d1 c1' b1 l1 => ?_⟩
    obtain ⟨wd, ewd⟩ := wdS_at l1
    have c1 := c0.trans c1'
    refine ⟨p, _, _, _, rfl, rfl, .of (c1'.keep p _ pb upd_same), atI_nat ewd, ?_⟩
    refine ⟨_, rfl, rfl, _, rfl, ?_⟩
    by_cases hk : xs.length = 0
    · refine iteY (by rw [hk]; decide +kernel) (iteY rfl ?_)
      refine ⟨_, rfl, b, 3, rfl, b1, by decide, by decide, fun H8 d8 c8' b8 l8 => ?_⟩
      have c8 := c1.trans c8'
      refine ⟨rfl, _, rfl, ?_⟩
      refine ite2 (fun z2 => ?_) (fun z2 => ?_)
      · refine ⟨_, rfl, b, rfl, b8, fun H9 v9 q9 c9 b9 t9 ok9 => ⟨two_le, fun tp htp => ?_⟩⟩
        have s10 := Same.new (o := HO.tup [V.str "number", v9]) htp
        exact q _ _ (.num q9) ((c8.trans c9).same s10) (b9.same s10) (TD.of_num (.inl upd_same) (t9.up (.of s10))) ⟨trivial, fun _ e => by injection e with e; rw [← e]; exact ok9, (fun _ _ e => nomatch e)⟩
      · refine ⟨_, rfl, _, rfl, b, n, rfl, b8, by omega, by omega, fun H9 d9 c9 b9 l9 => ⟨two_le, fun tp htp => ?_⟩⟩
        have s10 := Same.new (o := HO.tup [V.str "letter", V.int d9]) htp
        exact q _ _ (.let_ d9) ((c8.trans c9).same s10) (b9.same s10) (TD.of_let (.inl upd_same)) ⟨l9, (fun _ e => nomatch e), (fun _ _ e => nomatch e)⟩
    · refine iteN (decide_eq_false fun z => hk (by injection z with z; omega)) ?_
      refine ⟨_, rfl, b, 9, rfl, b1, by decide, by decide, fun H2 d2 c2' b2 l2 => ?_⟩
      have c2 := c1.trans c2'
      refine ⟨_, _, rfl, rfl, _, rfl, ?_⟩
      refine ite2 (fun z => ?_) (fun z => ?_)
      · refine ⟨_, rfl, b, 3, rfl, b2, by decide, by decide, fun H8 d8 c8' b8 l8 => ?_⟩
        have c8 := c2.trans c8'
        refine ⟨rfl, _, rfl, ?_⟩
        refine ite2 (fun z2 => ?_) (fun z2 => ?_)
        · refine ⟨_, rfl, b, rfl, b8, fun H9 v9 q9 c9 b9 t9 ok9 => ⟨two_le, fun tp htp => ?_⟩⟩
          have s10 := Same.new (o := HO.tup [V.str "number", v9]) htp
          exact q _ _ (.num q9) ((c8.trans c9).same s10) (b9.same s10) (TD.of_num (.inl upd_same) (t9.up (.of s10))) ⟨trivial, fun _ e => by injection e with e; rw [← e]; exact ok9, (fun _ _ e => nomatch e)⟩
        · refine ⟨_, rfl, _, rfl, b, n, rfl, b8, by omega, by omega, fun H9 d9 c9 b9 l9 => ⟨two_le, fun tp htp => ?_⟩⟩
          have s10 := Same.new (o := HO.tup [V.str "letter", V.int d9]) htp
          exact q _ _ (.let_ d9) ((c8.trans c9).same s10) (b9.same s10) (TD.of_let (.inl upd_same)) ⟨l9, (fun _ e => nomatch e), (fun _ _ e => nomatch e)⟩
      · refine ⟨_, rfl, _, _, rfl, rfl, _, rfl, _, rfl, b, xs.length, rfl, b2, by omega, by omega, fun H3 d3 c3' b3 l3 => ⟨two_le, fun p2 hp2 => ?_⟩⟩
        have c3 := c2.trans c3'
        have s3 := Same.new (o := HO.lst [V.int ((xs.length : Int) - 1), V.int d3]) hp2
        have p2b : p2 ≠ b := fun z => b3.some (z ▸ hp2)
        refine ⟨_, rfl, b, 2, rfl, b3.same s3, by decide, by decide, fun H4 d4 c4' b4 l4 => ?_⟩
        have c4 := (c3.same s3).trans c4'
        obtain ⟨ii, hii, eii⟩ : ∃ ii : Nat, ii < rows.length ∧ [V.int ((xs.length : Int) - 1), V.int d3][d4]? = some (.int ii) := by
          match d4, l4 with
          | 0, _ => exact ⟨xs.length - 1, by omega, congrArg (fun z => some (V.int z)) (by omega)⟩
          | 1, _ => exact ⟨d3, by omega, rfl⟩
        refine ⟨p2, _, _, _, rfl, rfl, .of (c4'.keep p2 _ p2b upd_same), atI_nat eii, ?_⟩
        refine ⟨_, rfl, _, rfl, b, xs.length, rfl, b4, by omega, by omega, fun H5 jj c5' b5 l5 => ?_⟩
        have c5 := c4.trans c5'
        refine ⟨_, rfl, xs.length, rfl, by omega, by omega, fun D hD => ?_⟩
        have en : ((xs.length : Nat) : Int).toNat = xs.length := by omega
        rw [en]
        have hbD : b ≠ D := fun z => b5.some (z ▸ hD)
        have hlD : lr ≠ D := fun z => by
          have := keepL c5
          rw [z, hD] at this
          cases this
        have s5 : Same H5 (upd H5 D (.lst [])) := Same.new hD
        refine lc_it (walk_range (lo := 0) (n := xs.length)) (fun i H6 => i ≤ xs.length ∧ Ch (· = D) (upd H5 D (.lst [])) H6 ∧ ∃ ns : List Nat, H6 D = some (.lst (ns.map fun x : Nat => V.int x)) ∧ ns.length ≤ i ∧ ∀ m ∈ ns, ∃ c d, rows[m]? = some (.op .times c d)) ?_ ?_ ?_ ?_
        · exact ⟨Nat.zero_le _, Ch.refl _ _, [], upd_same, Nat.le_refl _, fun _ h => by cases h⟩
        · intro _ _ _ _; trivial
        · rintro i x H6' H6 hi ⟨hle, c6, ns, hns, lns, pns⟩ ⟨rfl, ex⟩
          obtain rfl : x = V.int i := by simpa using ex
          have hil : i < rows.length := by omega
          have er : rows[i]? = some (rows[i]) := List.getElem?_eq_getElem hil
          generalize rows[i] = r at er
          have c57 : Same H5 H6 := sameNew hD c6
          have hx6 : H6 lr = some (.lst xs) := c57 _ _ (keepL c5)
          have tx6 := tx.up (c5.kp.trans (.of c57))
          obtain ⟨v, ev, tv⟩ := tx6.get (show (rows.map eRow)[i]? = some (eRow r) by rw [List.getElem?_map, er]; rfl)
          have go : ∀ (c : Bool), (c = true → ∃ a b, rows[i]? = some (.op .times a b)) → (c = true → ∃ ys, H6 D = some (.lst ys) ∧ ys.length < sizeLine ∧ ys.length ≤ i ∧ i + 1 ≤ xs.length ∧ Ch (· = D) (upd H5 D (.lst [])) (upd H6 D (.lst (ys ++ [V.int i]))) ∧ ∃ ns : List Nat, (upd H6 D (.lst (ys ++ [V.int i]))) D = some (.lst (ns.map fun x : Nat => V.int x)) ∧ ns.length ≤ i + 1 ∧ ∀ m ∈ ns, ∃ c d, rows[m]? = some (.op .times c d)) := fun c h1 h2 => by
            have c8 : Ch (· = D) H6 (upd H6 D (.lst ((ns.map fun x : Nat => V.int x) ++ [V.int i]))) := Ch.put rfl hns (fun _ z => by cases z)
            have ls : (ns.map fun x : Nat => V.int x).length < sizeLine := by
              rw [List.length_map]
              exact Nat.lt_of_le_of_lt (show ns.length ≤ 10 by omega) (by decide)
            refine ⟨_, hns, ls, by rw [List.length_map]; exact lns, by omega, c6.trans c8, ns ++ [i], by rw [upd_same, List.map_append]; rfl, by rw [List.length_append]; show ns.length + 1 ≤ i + 1; omega, fun m hm => ?_⟩
            rcases List.mem_append.mp hm with hm | hm
            · exact pns m hm
            · rw [List.mem_singleton] at hm
              rw [hm]
              exact h1 h2
          have no : i + 1 ≤ xs.length ∧ Ch (· = D) (upd H5 D (.lst [])) H6 ∧ ∃ ns : List Nat, H6 D = some (.lst (ns.map fun x : Nat => V.int x)) ∧ ns.length ≤ i + 1 ∧ ∀ m ∈ ns, ∃ c d, rows[m]? = some (.op .times c d) := ⟨by omega, c6, ns, hns, by omega, pns⟩
          cases r with
          | num qn =>
            obtain ⟨a, vf, rfl, ta, _⟩ := tv.row_num
            exact ⟨rfl, _, rfl, _, rfl, lr, xs, _, _, rfl, rfl, .of hx6, atI_nat ev, _, _, _, _, rfl, rfl, ta.sq, a0, rfl, _, rfl, iteN (by decide +kernel) no⟩
          | let_ k =>
            obtain ⟨a, rfl, ta⟩ := tv.row_let
            exact ⟨rfl, _, rfl, _, rfl, lr, xs, _, _, rfl, rfl, .of hx6, atI_nat ev, _, _, _, _, rfl, rfl, ta.sq, a0, rfl, _, rfl, iteN (by decide +kernel) no⟩
          | op wd2 a2 b2 =>
            obtain ⟨a, rfl, ta⟩ := tv.row_op
            refine ⟨rfl, _, rfl, _, rfl, lr, xs, _, _, rfl, rfl, .of hx6, atI_nat ev, _, _, _, _, rfl, rfl, ta.sq, a0, rfl, _, rfl, ?_⟩
            by_cases hw : wd2 = .times
            · subst hw
              obtain ⟨ys, h1, h2, h3, h4⟩ := go true (fun _ => ⟨_, _, er⟩) rfl
              exact iteY (by decide +kernel) ⟨_, rfl, ys, h1, h2, h4⟩
            · exact iteN (by cases wd2 <;> first | decide +kernel | exact absurd rfl hw) no
        · rintro H6 ⟨_, c6, ns, hns, lns, pns⟩
          have s56 : Same H5 H6 := sameNew hD c6
          have cH6 := c5.same s56
          have b6 := b5.same s56
          have fin : ∀ wd' : Wd, wd' ≠ .over → ∀ a, H6 a = none → Q (.ref a) (upd H6 a (.tup [.str (wdS wd'), .int ii, .int jj])) := fun wd' hne a ha => by
            have s7 := Same.new (o := HO.tup [V.str (wdS wd'), .int ii, .int jj]) ha
            exact q _ _ (.op wd' ii jj) (cH6.same s7) (b6.same s7) (TD.of_op (.inl upd_same)) ⟨⟨hii, by omega⟩, (fun _ e => nomatch e), (fun _ _ e => by injection e with e; exact absurd e hne)⟩
          refine ⟨_, rfl, rfl, _, rfl, ?_⟩
          by_cases hov : wd = .over
          · subst hov
            refine iteY (by decide +kernel) ⟨_, rfl, rfl, _, rfl, iteY (by decide +kernel) ?_⟩
            refine ⟨_, rfl, D, _, rfl, .inl (.of hns), _, _, rfl, rfl, _, rfl, ?_⟩
            refine ite2 (fun z => ?_) (fun z => ?_)
            · have lpos : 0 < (ns.map fun x : Nat => V.int x).length := by have := of_decide_eq_true z; omega
              refine ⟨_, rfl, _, rfl, _, rfl, D, _, rfl, .inl (.of hns), b, (ns.map fun x : Nat => V.int x).length, rfl, b6, lpos, by rw [List.length_map]; omega, fun H7 d7 c7 b7 l7 => ?_⟩
              rw [List.length_map] at l7
              have hns7 := c7.keep D _ (Ne.symm hbD) hns
              have em : (ns.map fun x : Nat => V.int x)[d7]? = some (.int ns[d7]) := by rw [List.getElem?_map, List.getElem?_eq_getElem l7]; rfl
              obtain ⟨cc, dd, emr⟩ := pns _ (List.getElem_mem l7)
              generalize ns[d7] = m at em emr
              have cH7 := cH6.trans c7
              have hx7 := keepL cH7
              obtain ⟨v, ev, tv⟩ := (tx.up cH7.kp).get (show (rows.map eRow)[m]? = some (eRow (.op .times cc dd)) by rw [List.getElem?_map, emr]; rfl)
              obtain ⟨ta, rfl, tqa⟩ := tv.row_op
              have hm : m < rows.length := (List.getElem?_eq_some_iff.mp emr).1
              obtain ⟨hcc, hdd⟩ := wf m _ emr
              refine ⟨D, _, _, _, rfl, rfl, .of hns7, atI_nat em, ?_⟩
              refine ⟨_, rfl, _, rfl, _, rfl, lr, xs, _, _, rfl, rfl, .of hx7, atI_nat ev, ?_⟩
              refine ⟨_, rfl, b, 2, rfl, b7, by decide, by decide, fun H8 d8 c8 b8 l8 => ?_⟩
              obtain ⟨e, he, ee⟩ : ∃ e : Nat, (e = cc ∨ e = dd) ∧ [V.str (wdS .times), V.int cc, V.int dd][1 + d8]? = some (.int e) := by
                match d8, l8 with
                | 0, _ => exact ⟨cc, .inl rfl, rfl⟩
                | 1, _ => exact ⟨dd, .inr rfl, rfl⟩
              have ei : (1 : Int) + (d8 : Int) = ((1 + d8 : Nat) : Int) := by omega
              refine ⟨_, _, rfl, rfl, _, _, _, _, rfl, rfl, (tqa.up c8.kp).sq, by rw [ei]; exact atI_nat ee, (by show 3 ≤ sizeLine; decide), fun a ha => ?_⟩
              have s9 := Same.new (o := HO.tup [V.str "over", .int m, .int e]) ha
              exact q _ _ (.op .over m e) ((cH7.trans c8).same s9) (b8.same s9) (TD.of_op (.inl upd_same)) ⟨⟨hm, by rcases he with rfl | rfl <;> omega⟩, (fun _ e => nomatch e), (fun x y ex => by injection ex with _ e1 e2; subst e1; subst e2; exact ⟨cc, dd, emr, he⟩)⟩
            · refine ⟨_, rfl, rfl, _, rfl, iteY (by decide +kernel) ⟨_, rfl, _, _, rfl, rfl, _, rfl, iteY (by decide +kernel) ?_⟩⟩
              exact ⟨_, rfl, _, rfl, _, rfl, (by show 3 ≤ sizeLine; decide), fun a ha => fin .times (by decide) a ha⟩
          · refine iteN (by cases wd <;> first | decide +kernel | exact absurd rfl hov) (iteN rfl ⟨_, rfl, rfl, _, rfl, iteN (by cases wd <;> first | decide +kernel | exact absurd rfl hov) (iteN rfl ?_)⟩)
            exact ⟨_, rfl, _, rfl, _, rfl, (by show 3 ≤ sizeLine; decide), fun a ha => fin wd hov a ha⟩
end
end U
set_option Elab.async false
set_option linter.all false
set_option maxRecDepth 100000
set_option maxHeartbeats 4000000
/-! _law_pointed. -/
namespace U
open PySem PySem.Spec PyProof.Rows L2
theorem good_snoc {pts : List Rat} {rows : List Row} {r : Row} (g : GoodTo pts rows rows.length) (hb : rowBad (valsF pts rows) r = false) : GoodTo pts (rows ++ [r]) (rows ++ [r]).length := fun j x hj e => by
  rw [List.length_append] at hj
  by_cases h : j < rows.length
  · rw [List.getElem?_append_left h] at e
    rw [List.take_append_of_le_length (by omega)]
    exact g j x h e
  · have : j = rows.length := by
      have h1 : [r].length = 1 := rfl
      omega
    subst this
    rw [List.getElem?_append_right (Nat.le_refl _), Nat.sub_self] at e
    injection e with e
    subst e
    rw [List.take_append_of_le_length (Nat.le_refl _), List.take_length]
    exact hb
theorem TD.of_rk {K : PySem.W.Frag} {H : Hp} {a : Addr} {vl vr : V} {ls : List Str} {rows : List Row} (h : Tq K H a [vl, vr]) (h1 : TD K H vl (.tuple (ls.map .str))) (h2 : TD K H vr (.tuple (rows.map eRow))) : TD K H (.ref a) (eRk ls rows) := .tup h (.cons h1 (.cons h2 .nil))
theorem seq_if {c : TT} {a u rest : TS} {D : Ends} {σ : L2.St} {H : Hp} (R : L2.St → Hp → Prop) (h1 : ∀ σ' H', R σ' H' → rest D σ' H') (h2 : ∀ nx : L2.St → Hp → Prop, (∀ σ' H', R σ' H' → nx σ' H') → tIfS c a u { D with nx := nx } σ H) : tSeq (tIfS c a u) rest D σ H := h2 _ h1
theorem name_if {i : Nat} {v : V} {c : TT} {a u rest : TS} {D : Ends} {σ : L2.St} {H : Hp} (R : L2.St → Hp → Prop) (h1 : ∀ σ' H', R σ' H' → rest D σ' H') (h2 : ∀ nx : L2.St → Hp → Prop, (∀ σ' H', R σ' H' → nx σ' H') → tIfS c a u { D with nx := nx } (σ.set i (some v)) H) : gName i v σ H (tSeq (tIfS c a u) rest D) := h2 _ h1
section
variable {P : Program} {w : World} {K : PySem.W.Frag} {mg : Str → Option Value} {base : Heap}
def spPointed (K : PySem.W.Frag) : Sp := fun vs H Q _ => ∃ (b : Addr) (vl vp : V) (ls : List Str) (pts : List Rat), vs = [.ref b, vl, vp, .int 7, .int 4, .int 1] ∧ BX H b ∧ TD K H vl (.tuple (ls.map .str)) ∧ TD K H vp (.tuple (pts.map eF)) ∧ pts.length = ls.length ∧ 1 ≤ ls.length ∧ ls.length ≤ 3 ∧ (∀ x ∈ pts, PtOk x) ∧
  ∀ H' v rows, Ch (· = b) H H' → BX H' b → 1 ≤ rows.length → rows.length ≤ 7 → Olds ls.length 4 rows → GoodTo pts rows rows.length → TD K H' v (eRk ls rows) → Q v H'
def N_l_pointed : List Str := ["_law_box_here", "_law_letters", "_law_point_here", "_law_most", "_law_limit", "_law_kind", "_law_rows", "_law_values", "_law_heavy", "_law_k", "_law_row"]
theorem sc_l_pointed : FnScope ["_law_box_here", "_law_letters", "_law_point_here", "_law_most", "_law_limit", "_law_kind", "_law_rows", "_law_values", "_law_heavy", "_law_k", "_law_row"] ["_law_box_here", "_law_letters", "_law_point_here", "_law_most", "_law_limit", "_law_kind"] (defScope s_l_pointed) := ⟨rfl, rfl, rfl, by decide +kernel, rfl, by decide +kernel, by decide +kernel⟩
theorem f_l_pointed (T : Txt K mg) : Cal P w K mg base 6 "_law_pointed" (spPointed K) := by
  refine cal_of T.a_l_pointed sc_l_pointed (fun _ _ _ _ _ _ us hl => match us, hl with | [_, _, _, _, _, _], _ => rfl) (fun vs H Q E h => ?_) (fun fa cdv A outer s H vs Q E hr h => ?_)
  · obtain ⟨_, _, _, _, _, rfl, _⟩ := h
    rfl
  · obtain ⟨b, vl, vp, ls, pts, rfl, bx, tl, tp, lp, l1, l3, pok, q⟩ := h
    refine ⟨_, (pss_cons (ps_set (i := 6) sc_l_pointed.nd rfl (Or.inl rfl) (pe_lst pa_nil))
(pss_cons (ps_set (i := 7) sc_l_pointed.nd rfl (Or.inl rfl) (pe_lst pa_nil))
(pss_cons (ps_set (i := 8) sc_l_pointed.nd rfl (Or.inl rfl) (pe_lst pa_nil))
(pss_cons (ps_for PassesOwn.never rfl (pi_range1 (by rfl) T.b_range (pa_cons (pe_op op_add pe_int (pe_c (f_l_take T) hr (by decide) (by rfl) (pa_cons (pv 0) (pa_cons (pv 3) pa_nil)))) pa_nil)) (pg_name (i := 9) sc_l_pointed.nd rfl (Or.inl rfl))
(pss_cons (ps_set (i := 10) sc_l_pointed.nd rfl (Or.inl rfl) (pe_c (f_l_drawn_row T) hr (by decide) (by rfl) (pa_cons (pv 0) (pa_cons (pv 6) (pa_cons (pe_callB call_len_seq (by rfl) T.b_len PySem.boot_len (pa_cons (pv 1) pa_nil)) (pa_cons (pv 5) pa_nil))))))
(pss_cons (ps_if (PW.pt (pw_or (pt_cmpR op_gt (pe_callB (cr_maxT rfl (rhu100 hr)) (by rfl) T.b_max (by decide +kernel) (pa_cons (pe_c (f_l_weight T) hr (by decide) (by rfl) (pa_cons (pv 10) (pa_cons (pv 8) pa_nil))) pa_nil)) (pv 4) (nomark _)) (pw_or1 (PW.pt (pw_and (pt_cmpR op_eq (pe_ix ix_tup (pv 10) pe_int (fun _ _ => rfl)) pe_str (nomark _)) (pw_and1 (pt_cmpR op_eq (pe_ix ix_tup (pe_ix ix_list (pv 7) (pe_ix ix_tup (pv 10) pe_int (fun _ _ => rfl)) (fun _ _ => rfl)) pe_int (fun _ _ => rfl)) pe_int (nomark _))))))))
(pss_one (ps_set (i := 10) sc_l_pointed.nd rfl (Or.inl rfl) (pe_tup (pa_cons pe_str (pa_cons (pe_c (f_l_take T) hr (by decide) (by rfl) (pa_cons (pv 0) (pa_cons (pe_callB call_len_seq (by rfl) T.b_len PySem.boot_len (pa_cons (pv 1) pa_nil)) pa_nil))) pa_nil)))))
pss_nil)
(pss_cons (ps_expr (pe_bm PySem.F.plainAttrs_list PySem.F.slot_list_append PySem.F.type_list_append mt_append (pv 6) (pa_cons (pv 10) pa_nil)))
(pss_cons (ps_set (i := 7) sc_l_pointed.nd rfl (Or.inl rfl) (pe_ix ix_tup (pe_c (f_l_run T) hr (by decide) (by rfl) (pa_cons (pe_tup (pa_cons (pv 1) (pa_cons (pv 6) pa_nil))) (pa_cons (pv 2) pa_nil))) pe_int (fun _ _ => rfl)))
(pss_one (ps_expr (pe_bm PySem.F.plainAttrs_list PySem.F.slot_list_append PySem.F.type_list_append mt_append (pv 8) (pa_cons (pe_c (f_l_weight T) hr (by decide) (by rfl) (pa_cons (pv 10) (pa_cons (pv 8) pa_nil))) pa_nil)))))))))
(pss_one (ps_ret (pe_tup (pa_cons (pv 1) (pa_cons (pe_callTy call_tuple_of (by rfl) T.b_tuple (by decide +kernel) (pa_cons (pv 6) pa_nil)) pa_nil))))))))), ?_⟩
    refine ⟨Nat.zero_le _, fun lr hlr => ⟨Nat.zero_le _, fun lv hlv => ⟨Nat.zero_le _, fun lh hlh => ?_⟩⟩⟩
    obtain ⟨al, xl, rfl, tql, tdl⟩ := tl.tup_inv
    have ll : xl.length = ls.length := by rw [tdl.len, List.length_map]
    have nbr : b ≠ lr := fun z => bx.some (z ▸ hlr)
    have s1 : Same H (upd H lr (.lst [])) := Same.new hlr
    have nbv : b ≠ lv := fun z => (bx.same s1).some (z ▸ hlv)
    have nrv : lr ≠ lv := fun z => by rw [← z, upd_same] at hlv; cases hlv
    have s2 : Same (upd H lr (.lst [])) (upd (upd H lr (.lst [])) lv (.lst [])) := Same.new hlv
    have nbh : b ≠ lh := fun z => ((bx.same s1).same s2).some (z ▸ hlh)
    have nrh : lr ≠ lh := fun z => by
      have := s2 lr _ upd_same
      have e := hlh
      rw [← z, this] at e
      cases e
    have nvh : lv ≠ lh := fun z => by rw [← z, upd_same] at hlh; cases hlh
    have s3 : Same (upd (upd H lr (.lst [])) lv (.lst [])) (upd (upd (upd H lr (.lst [])) lv (.lst [])) lh (.lst [])) := Same.new hlh
    have r0 := s3 _ _ (s2 lr _ upd_same)
    have v0 := s3 lv _ upd_same
    have h0 : (upd (upd (upd H lr (.lst [])) lv (.lst [])) lh (.lst [])) lh = some (.lst []) := upd_same
    have s03 := L2.Same.trans s1 (L2.Same.trans s2 s3)
    generalize upd (upd (upd H lr (.lst [])) lv (.lst [])) lh (.lst []) = H3 at s03 r0 v0 h0
    have hlvN : H lv = none := by rw [← hlv, upd_ne]; exact Ne.symm nrv
    have hlhN : H lh = none := by
      have e : (upd (upd H lr (.lst [])) lv (.lst [])) lh = H lh := by rw [upd_ne (Ne.symm nvh), upd_ne (Ne.symm nrh)]
      rw [← e]; exact hlh
    refine ⟨_, rfl, _, rfl, b, 7, rfl, bx.same s03, by decide, by decide, fun Hb d cb bb lb => ?_⟩
    refine ⟨_, _, rfl, rfl, 1 + (d : Int), rfl, by omega, by omega, ?_⟩
    have en : ((1 : Int) + (d : Int)).toNat = 1 + d := by omega
    rw [en]
    clear s1 s2 s3 hlv hlh
    let S : Addr → Prop := fun x => x = b ∨ x = lr ∨ x = lh
    refine for_it (walk_range (lo := 0) (n := 1 + d)) (fun i σ H4 => i ≤ 1 + d ∧ Ch S H3 H4 ∧ BX H4 b ∧ ∃ (xs ws vs : List V) (rows : List Row) (lv : Addr) (x9 x10 : Option V), σ = [some (.ref b), some (.ref al), some vp, some (.int 7), some (.int 4), some (.int 1), some (.ref lr), some (.ref lv), some (.ref lh), x9, x10] ∧
      ¬ S lv ∧ H4 lr = some (.lst xs) ∧ TDs K H4 xs (rows.map eRow) ∧ H4 lv = some (.lst vs) ∧ TDs K H4 vs ((valsF pts rows).map eF) ∧ H4 lh = some (.lst ws) ∧ TDs K H4 ws ((wtsF rows).map eW) ∧ rows.length = i ∧ Olds ls.length 4 rows ∧ GoodTo pts rows rows.length) ?_ ?_ ?_ ?_
    · refine ⟨Nat.zero_le _, cb.mono (fun _ z => .inl z), bb, [], [], [], [], lv, _, _, rfl, ?_, cb.keep _ _ (Ne.symm nbr) r0, .nil, cb.keep _ _ (Ne.symm nbv) v0, .nil, cb.keep _ _ (Ne.symm nbh) h0, .nil, rfl, Olds.nil _ _, fun j r hj => by cases hj⟩
      rintro (z | z | z)
      · exact nbv z.symm
      · exact nrv z.symm
      · exact nvh z
    · intro _ _ _ _ _; trivial
    · rintro i x σ H4' H4 hi ⟨hle, c4, b4, xs, ws, vs, rows, lv, x9, x10, rfl, nlv, hr4, tr4, hv4, tv4, hw4, tw4, lrows, old, good⟩ ⟨rfl, ex⟩
      have hvb : lv ≠ b := fun z => nlv (.inl z)
      have hvr : lv ≠ lr := fun z => nlv (.inr (.inl z))
      have hvh : lv ≠ lh := fun z => nlv (.inr (.inr z))
      have lws : ws.length = rows.length := by rw [tw4.len, List.length_map, wtsF_len]
      have lvs : vs.length = rows.length := by rw [tv4.len, List.length_map, valsF_len]
      have lxs : xs.length = rows.length := by rw [tr4.len, List.length_map]
      have s34 : Kp H H4 := (Kp.of s03).trans c4.kp
      refine ⟨_, rfl, _, rfl, _, rfl, al, xl, rfl, .inr (tql.up s34).sq, _, rfl, b, lr, xl.length, xs, rows, rfl, b4, nbr, hr4, tr4, by omega, by omega, by omega, by rw [ll]; exact fun i r e => old.wf i r e, fun H5 v r c5 b5 t5 new => ?_⟩
      rw [ll] at new
      have hr5 := c5.keep _ _ (Ne.symm nbr) hr4
      have hv5 := c5.keep _ _ hvb hv4
      have hw5 := c5.keep _ _ (Ne.symm nbh) hw4
      have tw5 := tw4.up c5.kp
      dsimp only [gName]
      refine seq_if (fun σ' H7 => ∃ v' r', σ' = [some (.ref b), some (.ref al), some vp, some (.int 7), some (.int 4), some (.int 1), some (.ref lr), some (.ref lv), some (.ref lh), some x, some v'] ∧ Ch (· = b) H4 H7 ∧ BX H7 b ∧ TD K H7 v' (eRow r') ∧ RowOk ls.length 4 rows r' ∧ rowBad (valsF pts rows) r' = false) ?_ ?_
      · rintro σ' H7 ⟨v', r', rfl, c7, b7, t7, ok7, good7⟩
        have hr7 := c7.keep _ _ (Ne.symm nbr) hr4
        have hv7 := c7.keep _ _ hvb hv4
        have hw7 := c7.keep _ _ (Ne.symm nbh) hw4
        have l7 : rows.length ≤ 7 := by omega
        refine ⟨_, rfl, .inl ⟨rfl, xs, .of hr7⟩, _, rfl, lr, xs, _, rfl, rfl, hr7, by rw [lxs]; exact Nat.lt_of_le_of_lt (show rows.length ≤ 10 by omega) (by decide), ?_⟩
        have c8 : Ch S H7 (upd H7 lr (.lst (xs ++ [v']))) := Ch.put (.inr (.inl rfl)) hr7 (fun _ z => by cases z)
        have hr8 : (upd H7 lr (.lst (xs ++ [v']))) lr = some (.lst (xs ++ [v'])) := upd_same
        have hw8 : (upd H7 lr (.lst (xs ++ [v']))) lh = some (.lst ws) := by rw [upd_ne (Ne.symm nrh)]; exact hw7
        have b8 : BX (upd H7 lr (.lst (xs ++ [v']))) b := by
          obtain ⟨cc, sd, hb6, r⟩ := b7
          exact ⟨cc, sd, by rw [upd_ne nbr]; exact hb6, r⟩
        have c48 : Ch S H4 (upd H7 lr (.lst (xs ++ [v']))) := (c7.mono fun _ z => .inl z).trans c8
        have hkN : ∀ H', Ch S H4 H' → Ch S H3 H' := fun _ c => c4.trans c
        generalize hH8 : upd H7 lr (.lst (xs ++ [v'])) = H8 at c8 hr8 hw8 b8 c48
        have t8 := t7.up c8.kp
        have tr8 := (tr4.up c48.kp).snoc t8
        have tw8 := tw4.up c48.kp
        have k8 : Kp H H8 := s34.trans c48.kp
        have er8 : (rows ++ [r']).map eRow = rows.map eRow ++ [eRow r'] := by rw [List.map_append]; rfl
        have old' := old.snoc ok7
        have good' := good_snoc good good7
        have lr' : (rows ++ [r']).length = i + 1 := by rw [List.length_append]; show rows.length + 1 = i + 1; omega
        refine ⟨_, rfl, _, rfl, two_le, fun ak hak => ?_⟩
        have s9 := Same.new (o := HO.tup [V.ref al, V.ref lr]) hak
        have k9 := k8.trans (.of s9)
        refine ⟨_, rfl, ak, .ref al, .ref lr, vp, true, xs ++ [v'], rows ++ [r'], pts, rfl, .inl upd_same, ⟨lr, rfl, s9 _ _ hr8⟩, by rw [er8]; exact tr8.up (.of s9), tp.up k9, old_run old' (by decide) (by omega) pok lp, fun H10 p l o xv s10 hl tq10 hl10 gd _ => ?_⟩
        obtain ⟨rfl, tv10⟩ := gd good'
        refine ⟨_, _, _, _, rfl, rfl, tq10.sq, a0, ?_⟩
        have s810 := L2.Same.trans s9 s10
        have hr10 := s810 _ _ hr8
        have hw10 := s810 _ _ hw8
        have nl : ¬ S l := by
          have h1 := s9 _ _ hr8
          have h2 := s9 _ _ hw8
          have h3 := b8.same s9
          rintro (z | z | z)
          · exact h3.some (z ▸ hl)
          · rw [z, h1] at hl; cases hl
          · rw [z, h2] at hl; cases hl
        refine ⟨_, rfl, .inl ⟨rfl, ws, .of hw10⟩, _, rfl, _, rfl, v', lh, ws, wtsF rows, r', ls.length, rfl, t8.up (.of s810), hw10, tw8.up (.of s810), by rw [wtsF_len]; exact ok7.wf, fun H11 u s11 t11 => ?_⟩
        have hw11 := s11 _ _ hw10
        refine ⟨lh, ws, _, rfl, rfl, hw11, by rw [lws]; exact Nat.lt_of_le_of_lt (show rows.length ≤ 10 by omega) (by decide), ?_⟩
        have c12 : Ch S H11 (upd H11 lh (.lst (ws ++ [u]))) := Ch.put (.inr (.inr rfl)) hw11 (fun _ z => by cases z)
        have s811 := L2.Same.trans s810 s11
        refine ⟨by omega, (c4.trans ((c48.same s811).trans c12)), ?_, xs ++ [v'], ws ++ [u], xv, rows ++ [r'], l, _, _, rfl, nl, ?_, ?_, ?_, ?_, upd_same, ?_, lr', old', good'⟩
        · obtain ⟨cc, sd, hb6, r⟩ := b8.same s811
          exact ⟨cc, sd, by rw [upd_ne nbh]; exact hb6, r⟩
        · rw [upd_ne nrh]; exact s811 _ _ hr8
        · rw [er8]; exact (tr8.up (.of s811)).up c12.kp
        · rw [upd_ne (fun z => nl (.inr (.inr z)))]; exact s11 _ _ hl10
        · exact (tv10.up (.of s11)).up c12.kp
        · rw [wtsF_snoc, List.map_append]
          exact ((tw8.up (.of s811)).snoc t11).up c12.kp
      intro nx hn
      refine ⟨_, rfl, _, rfl, v, lh, ws, wtsF rows, r, ls.length, rfl, t5, hw5, tw5, by rw [wtsF_len]; exact new.wf, fun H6 u6 s6 t6 => ?_⟩
      obtain ⟨a6, rfl, tq6⟩ := t6.wt
      refine ⟨a6, _, _, rfl, tq6.sq, _, rfl, _, _, rfl, rfl, _, rfl, ?_⟩
      have c6 : Ch (· = b) H4 H6 := c5.same s6
      have b6 := b5.same s6
      have hr6 := s6 _ _ hr5
      have hv6 := s6 _ _ hv5
      have hw6 := s6 _ _ hw5
      have t6r := t5.up (.of s6)
      have tr6 := tr4.up c6.kp
      have tv6 := tv4.up c6.kp
      have tw6 := tw4.up c6.kp
      have letr : ∀ H7 (d7 : Nat) ta, Ch (· = b) H6 H7 → BX H7 b → d7 < xl.length → H7 ta = none → nx [some (.ref b), some (.ref al), some vp, some (.int 7), some (.int 4), some (.int 1), some (.ref lr), some (.ref lv), some (.ref lh), some x, some (.ref ta)] (upd H7 ta (.tup [.str "letter", .int d7])) := fun H7 d7 ta c7 b7 l7 hta => by
        have s8 := Same.new (o := HO.tup [V.str "letter", .int d7]) hta
        exact hn _ _ ⟨_, .let_ d7, rfl, (c6.trans c7).same s8, b7.same s8, TD.of_let (.inl upd_same), ⟨⟨by rw [← ll]; exact l7, (fun _ e => nomatch e), (fun _ _ e => nomatch e)⟩, (show 1 ≤ 4 by decide), (show 0 ≤ 4 by decide)⟩, rfl⟩
      have tql6 := (tql.up s34).up c6.kp
      by_cases hw : 4 < (if (((wtOf (wtsF rows) r).1 : Nat) : Int) < (((wtOf (wtsF rows) r).2 : Nat) : Int) then (((wtOf (wtsF rows) r).2 : Nat) : Int) else (((wtOf (wtsF rows) r).1 : Nat) : Int))
      · refine iteY (decide_eq_true hw) (iteY rfl ?_)
        refine ⟨_, rfl, _, rfl, al, xl, rfl, .inr tql6.sq, b, xl.length, rfl, b6, by omega, by omega, fun H7 d7 c7 b7 l7 => ⟨two_le, fun ta hta => ?_⟩⟩
        exact letr H7 d7 ta c7 b7 l7 hta
      · refine iteN (decide_eq_false hw) ?_
        have w1 : (wtOf (wtsF rows) r).1 ≤ 4 := by split at hw <;> omega
        have w2 : (wtOf (wtsF rows) r).2 ≤ 4 := by split at hw <;> omega
        have keep : rowBad (valsF pts rows) r = false → nx [some (.ref b), some (.ref al), some vp, some (.int 7), some (.int 4), some (.int 1), some (.ref lr), some (.ref lv), some (.ref lh), some x, some v] H6 := fun hb => hn _ _ ⟨v, r, rfl, c6, b6, t6r, ⟨new, w1, w2⟩, hb⟩
        cases r with
        | num qn =>
          obtain ⟨a, vf, rfl, ta, _⟩ := t6r.row_num
          exact ⟨_, rfl, _, _, _, _, rfl, rfl, ta.sq, a0, rfl, _, rfl, iteN (by decide +kernel) (keep rfl)⟩
        | let_ k =>
          obtain ⟨a, rfl, ta⟩ := t6r.row_let
          exact ⟨_, rfl, _, _, _, _, rfl, rfl, ta.sq, a0, rfl, _, rfl, iteN (by decide +kernel) (keep rfl)⟩
        | op wd ja jb =>
          obtain ⟨a, rfl, ta⟩ := t6r.row_op
          refine ⟨_, rfl, _, _, _, _, rfl, rfl, ta.sq, a0, rfl, _, rfl, ?_⟩
          by_cases hov : wd = .over
          · subst hov
            obtain ⟨ha2, hb2⟩ := new.wf
            obtain ⟨v2, e2, t2⟩ := tv6.getD (i := jb) (by rw [valsF_len]; exact hb2)
            obtain ⟨p2, rfl, tp2⟩ := t2.fr
            refine iteY (by decide +kernel) ⟨_, rfl, _, rfl, _, _, _, _, rfl, rfl, ta.sq, a2, lv, vs, _, _, rfl, rfl, .of hv6, atI_nat e2, _, _, _, _, rfl, rfl, tp2.sq, a0, rfl, _, rfl, ?_⟩
            by_cases hz : (valsF pts rows).getD jb 0 = 0
            · refine iteY (by rw [hz]; rfl) ?_
              refine ⟨_, rfl, _, rfl, al, xl, rfl, .inr tql6.sq, b, xl.length, rfl, b6, by omega, by omega, fun H7 d7 c7 b7 l7 => ⟨two_le, fun ta hta => ?_⟩⟩
              exact letr H7 d7 ta c7 b7 l7 hta
            · exact iteN (decide_eq_false fun z => hz (Rat.num_eq_zero.mp (by injection z))) (keep (decide_eq_false hz))
          · exact iteN (by cases wd <;> first | decide +kernel | exact absurd rfl hov) (keep (by cases wd <;> first | rfl | exact absurd rfl hov))
    · rintro σ H4 ⟨_, c4, b4, xs, ws, vs, rows, lv, x9, x10, rfl, nlv, hr4, tr4, hv4, tv4, hw4, tw4, lrows, old, good⟩
      have cHH : Ch (· = b) H H4 := ⟨fun x u nx hx => by
        have h1 : x ≠ lr := ne_of_none hx hlr
        have h2 : x ≠ lh := ne_of_none hx hlhN
        exact c4.keep x u (fun z => z.elim nx (fun z => z.elim h1 h2)) (s03 x u hx), (Kp.of s03).trans c4.kp⟩
      refine ⟨_, rfl, _, rfl, lr, xs, rfl, .inl ⟨.of hr4, fun l hl => ⟨two_le, fun t ht => ?_⟩⟩⟩
      have s5 : Same H4 (upd H4 l (.tup xs)) := Same.new hl
      have s6 := Same.new (o := HO.tup [V.ref al, V.ref l]) ht
      have s46 := L2.Same.trans s5 s6
      refine q _ _ rows (cHH.same s46) (b4.same s46) (by omega) (by omega) old good (TD.of_rk (.inl upd_same) (.tup (tql.up (cHH.kp.trans (.of s46))) (tdl.up (cHH.kp.trans (.of s46)))) (.tup (.inl (s6 _ _ upd_same)) (tr4.up (.of s46))))
end
end U
set_option Elab.async false
set_option linter.all false
set_option maxRecDepth 100000
set_option maxHeartbeats 4000000
/-! _law_names. -/
namespace U
open PySem PySem.Spec PyProof.Rows L2
section
variable {X : Cx}
/-- "q" * 0, "q" * 1 -/
theorem op_rep01 : OpR X (binaryOp .Mult) (fun x y H Q => ∃ i k, x = .str i ∧ y = .int k ∧ 0 ≤ k ∧ k ≤ 1 ∧ Q (.str (if k < 1 then Str.empty else i)) H) := by
  intro pins s σ H x y v u Q I rx ry h
  obtain ⟨i, k, rfl, rfl, h0, h1, q⟩ := h
  obtain ⟨t, rfl⟩ := rx
  obtain ⟨t', rfl⟩ := ry
  have hk : k = 0 ∨ k = 1 := by omega
  have e1 : ¬ k < 1 → (k == 1 || i.length == 0) = true := fun z => by
    have : k = 1 := by omega
    rw [this]; rfl
  refine P.mul_str ?_ (fun z1 z2 => by rw [e1 z1] at z2; cases z2) (fun z1 z2 => by rw [e1 z1] at z2; cases z2) ?_
  · rcases hk with rfl | rfl <;> decide
  · by_cases z : k < 1
    · rw [if_pos z] at q ⊢
      exact ⟨by decide, .str _, H, I.tok _, ⟨_, rfl⟩, q⟩
    · rw [if_neg z] at q ⊢
      rw [if_pos (e1 z)]
      exact ⟨.str _, H, I, ⟨_, rfl⟩, q⟩
end
theorem cut_str (ys : List Str) (lo hi : Option Int) : ∃ zs : List Str, cutV (ys.map V.str) lo hi = zs.map V.str ∧ zs.length ≤ ys.length ∧ ∀ z ∈ zs, z ∈ ys := by
  unfold cutV
  rw [← List.map_drop, ← List.map_take]
  refine ⟨_, rfl, ?_, fun z hz => List.mem_of_mem_drop (List.mem_of_mem_take hz)⟩
  rw [List.length_take, List.length_drop]
  omega
theorem sum1 : ∀ (ys : List Str), (∀ z ∈ ys, z.length = 1) → (ys.map (·.length)).sum = ys.length
  | [], _ => rfl
  | y :: ys, h => by
    rw [List.map_cons, List.sum_cons, h y (List.mem_cons_self ..), sum1 ys (fun z hz => h z (List.mem_cons_of_mem _ hz)), List.length_cons]
    omega
theorem join1 {ys : List Str} (h : ∀ z ∈ ys, z.length = 1) : (Txt.join "" ys).length ≤ ys.length := by
  unfold Txt.join
  rw [StrLaws.glued_eq_join]
  have := StrLaws.join_length_le "" ys
  rw [sum1 ys h, show ("" : Str).length = 0 from rfl] at this
  omega
abbrev SOk (z : Str) : Prop := PyData.canLay0 (.str z) = true
theorem sok_iff {z : Str} : SOk z ↔ ∀ c ∈ z.cps.toList, c < 0x110000 := by
  show PyData.canLay0 (.str z) = true ↔ _
  rw [PyData.canLay0]
  show (z.cps.all fun x => decide (x < 0x110000)) = true ↔ _
  rw [← Array.all_toList, List.all_eq_true]
  exact ⟨fun h c hc => of_decide_eq_true (h c hc), fun h c hc => decide_eq_true (h c hc)⟩
theorem sok_app {a b : Str} (ha : SOk a) (hb : SOk b) : SOk (a ++ b) := by
  rw [sok_iff] at *
  intro c hc
  rw [Str.cps_append, Array.toList_append] at hc
  rcases List.mem_append.mp hc with h | h
  · exact ha c h
  · exact hb c h
theorem sok_join : ∀ {ys : List Str}, (∀ z ∈ ys, SOk z) → SOk (Str.join "" ys)
  | [], _ => by decide +kernel
  | [x], h => h x (List.mem_cons_self ..)
  | x :: y :: r, h => sok_app (sok_app (h x (List.mem_cons_self ..)) (by decide +kernel)) (sok_join fun z hz => h z (List.mem_cons_of_mem _ hz))
theorem sok_joinT {ys : List Str} (h : ∀ z ∈ ys, SOk z) : SOk (Txt.join "" ys) := by
  unfold Txt.join
  rw [StrLaws.glued_eq_join]
  exact sok_join h
theorem flat_strs (ys : List Str) : (ys.map V.str).all flatV = true := by
  induction ys with
  | nil => rfl
  | cons y ys ih => rw [List.map_cons, List.all_cons, ih]; rfl
theorem alpha_ok : ∀ c ∈ ("abcdefghijklmnopqrstuvwxyz" : Str).cps.toList, SOk ⟨#[c]⟩ := by decide +kernel
theorem alpha_at {i : Nat} (h : i < 26) : ∃ c, atI ("abcdefghijklmnopqrstuvwxyz" : Str).cps.toList i = some c ∧ SOk ⟨#[c]⟩ := by
  obtain ⟨c, e⟩ : ∃ c, ("abcdefghijklmnopqrstuvwxyz" : Str).cps.toList[i]? = some c := by
    have hl : ("abcdefghijklmnopqrstuvwxyz" : Str).cps.toList.length = 26 := by decide +kernel
    exact ⟨_, List.getElem?_eq_getElem (by rw [hl]; exact h)⟩
  exact ⟨c, atI_nat e, alpha_ok c (List.mem_of_getElem? e)⟩
theorem td_strs {K : PySem.W.Frag} {H : Hp} : ∀ ys : List Str, TDs K H (ys.map V.str) (ys.map PyData.str)
  | [] => .nil
  | y :: ys => .cons (.str y) (td_strs ys)
section
variable {P : Program} {w : World} {K : PySem.W.Frag} {mg : Str → Option Value} {base : Heap}
def spNames (K : PySem.W.Frag) : Sp := fun vs H Q _ => ∃ (b : Addr) (m : Nat), vs = [.ref b, .int m] ∧ BX H b ∧ 1 ≤ m ∧ m ≤ 3 ∧ ∀ H' v (ls : List Str), Ch (· = b) H H' → BX H' b → TD K H' v (.tuple (ls.map .str)) → ls.length = m → (∀ z ∈ ls, SOk z) → Q v H'
def N_l_names : List Str := ["_law_box_here", "_law_many", "_law_alphabet", "_law_signs", "_law_k", "_law_spot", "_law_first", "_law_found", "_law_one", "_law_name", "_law_odd"]
theorem sc_l_names : FnScope ["_law_box_here", "_law_many", "_law_alphabet", "_law_signs", "_law_k", "_law_spot", "_law_first", "_law_found", "_law_one", "_law_name", "_law_odd"] ["_law_box_here", "_law_many"] (defScope s_l_names) := ⟨rfl, rfl, rfl, by decide +kernel, rfl, by decide +kernel, by decide +kernel⟩
theorem f_l_names (T : Txt K mg) : Cal P w K mg base 2 "_law_names" (spNames K) := by
  refine cal_of T.a_l_names sc_l_names (fun _ _ _ _ _ _ us hl => match us, hl with | [_, _], _ => rfl) (fun vs H Q E h => ?_) (fun fa cdv A outer s H vs Q E hr h => ?_)
  · obtain ⟨_, _, rfl, _⟩ := h
    rfl
  · obtain ⟨b, m, rfl, bx, m1, m3, q⟩ := h
    refine ⟨_, (pss_cons (ps_set (i := 2) sc_l_names.nd rfl (Or.inr rfl) pe_str)
(pss_cons (ps_setLc (i := 3) (own := [("_law_k", 4)]) (g := gName 4) (by rfl) sc_l_names.nd rfl rfl (sw_true rfl rfl rfl (by decide +kernel)) (pi_range1 (by rfl) T.b_range (pa_cons (pe_op op_add pe_int (pe_c (f_l_take T) hr (by decide) (by rfl) (pa_cons (pv 0) (pa_cons pe_int pa_nil)))) pa_nil)) (blkOk_by (N := N_l_names) (sc := defScope s_l_names) (by decide +kernel)) (fun _ _ _ _ _ => (pg_name (i := 4) sc_l_names.nd rfl (Or.inl rfl))) (fun _ _ _ _ _ => pts_nil) (fun _ _ _ _ _ => (pe_ix ix_str (pv 2) (pe_c (f_l_take T) hr (by decide) (by rfl) (pa_cons (pv 0) (pa_cons pe_int pa_nil))) (fun _ _ => rfl))))
(pss_cons (ps_set (i := 5) sc_l_names.nd rfl (Or.inl rfl) (pe_c (f_l_take T) hr (by decide) (by rfl) (pa_cons (pv 0) (pa_cons (pe_callB call_len_seq (by rfl) T.b_len PySem.boot_len (pa_cons (pv 3) pa_nil)) pa_nil))))
(pss_cons (ps_set (i := 6) sc_l_names.nd rfl (Or.inl rfl) (pe_c (f_l_take T) hr (by decide) (by rfl) (pa_cons (pv 0) (pa_cons pe_int pa_nil))))
(pss_cons (ps_set (i := 7) sc_l_names.nd rfl (Or.inl rfl) (pe_lst pa_nil))
(pss_cons (ps_for PassesOwn.never rfl (pi_range1 (by rfl) T.b_range (pa_cons (pv 1) pa_nil)) (pg_name (i := 4) sc_l_names.nd rfl (Or.inl rfl))
(pss_cons (ps_set (i := 8) sc_l_names.nd rfl (Or.inl rfl) (pe_ix ix_str (pv 2) (pe_op op_mod (pe_op op_add (pv 6) (pe_op op_mul pe_int (pv 4))) pe_int) (fun _ _ => rfl)))
(pss_cons (ps_set (i := 9) sc_l_names.nd rfl (Or.inl rfl) (pe_op op_add_str (pe_op op_add_str (pe_bm PySem.F.plainAttrs_str PySem.F.slot_str_join PySem.F.type_str_join mt_join pe_str (pa_cons (pe_slice sl_list (pv 3) po_none (po_some (pv 5))) pa_nil)) (pv 8)) (pe_bm PySem.F.plainAttrs_str PySem.F.slot_str_join PySem.F.type_str_join mt_join pe_str (pa_cons (pe_slice sl_list (pv 3) (po_some (pe_op op_add (pv 5) pe_int)) po_none) pa_nil))))
(pss_cons (ps_set (i := 9) sc_l_names.nd rfl (Or.inl rfl) (pe_op op_add_str (pv 9) (pe_op op_rep01 pe_str (pe_c (f_l_take T) hr (by decide) (by rfl) (pa_cons (pv 0) (pa_cons pe_int pa_nil))))))
(pss_cons (ps_if (PW.pt (pw_or (pt_cmpR op_in_seq (pv 9) (pv 7) rfl) (pw_or1 (pt_cmpR op_in_seq (pv 9) (pe_tup (pa_cons pe_str (pa_cons pe_str (pa_cons pe_str (pa_cons pe_str (pa_cons pe_str pa_nil)))))) rfl))))
(pss_one (ps_set (i := 9) sc_l_names.nd rfl (Or.inl rfl) (pe_op op_add_str pe_str (pe_ix ix_str (pv 2) (pv 4) (fun _ _ => rfl)))))
pss_nil)
(pss_one (ps_expr (pe_bm PySem.F.plainAttrs_list PySem.F.slot_list_append PySem.F.type_list_append mt_append (pv 7) (pa_cons (pv 9) pa_nil)))))))))
(pss_cons (ps_if (pt_cmpR op_eq (pe_c (f_l_take T) hr (by decide) (by rfl) (pa_cons (pv 0) (pa_cons pe_int pa_nil))) pe_int (nomark _))
(pss_cons (ps_set (i := 10) sc_l_names.nd rfl (Or.inl rfl) (pe_ix ix_list (pe_lst (pa_cons pe_str (pa_cons pe_str (pa_cons pe_str (pa_cons pe_str (pa_cons pe_str (pa_cons pe_str (pa_cons pe_str (pa_cons pe_str pa_nil))))))))) (pe_c (f_l_take T) hr (by decide) (by rfl) (pa_cons (pv 0) (pa_cons pe_int pa_nil))) (fun _ _ => rfl)))
(pss_one (ps_if (pt_cmpR op_notIn_seq (pv 10) (pv 7) rfl)
(pss_one (ps_asg (pv 10) (pg_sub (pv 7) (pe_c (f_l_take T) hr (by decide) (by rfl) (pa_cons (pv 0) (pa_cons (pv 1) pa_nil))) set_list)))
pss_nil)))
pss_nil)
(pss_one (ps_ret (pe_callTy call_tuple_of (by rfl) T.b_tuple (by decide +kernel) (pa_cons (pv 7) pa_nil))))))))))), ?_⟩
    refine ⟨_, rfl, b, 4, rfl, bx, by decide, by decide, fun H1 d1 c1 b1 l1 => ?_⟩
    refine ⟨_, _, rfl, rfl, 1 + (d1 : Int), rfl, by omega, by omega, fun D hD => ?_⟩
    have en : ((1 : Int) + (d1 : Int)).toNat = 1 + d1 := by omega
    rw [en]
    have hbD : b ≠ D := fun z => b1.some (z ▸ hD)
    have s1 : Same H1 (upd H1 D (.lst [])) := Same.new hD
    refine lc_it (walk_range (lo := 0) (n := 1 + d1)) (fun i H4 => i ≤ 1 + d1 ∧ Ch (fun x => x = b ∨ x = D) (upd H1 D (.lst [])) H4 ∧ BX H4 b ∧ ∃ zs : List Str, H4 D = some (.lst (zs.map V.str)) ∧ zs.length = i ∧ ∀ z ∈ zs, z.length = 1 ∧ SOk z) ?_ ?_ ?_ ?_
    · exact ⟨Nat.zero_le _, Ch.refl _ _, b1.same s1, [], upd_same, rfl, fun x hx => by cases hx⟩
    · intro _ _ _ _; trivial
    · rintro i x H4 H5 hi ⟨hle, c4, b4, zs, hzs, lz, pz⟩ ⟨rfl, hx⟩
      refine ⟨rfl, _, rfl, _, rfl, b, 26, rfl, b4, by decide, by decide, fun H6 d6 c6 b6 l6 => ?_⟩
      obtain ⟨c, ec, okc⟩ := alpha_at l6
      have hz6 := c6.keep D _ (Ne.symm hbD) hzs
      have c7 : Ch (fun x => x = b ∨ x = D) H6 (upd H6 D (.lst (zs.map V.str ++ [V.str ⟨#[c]⟩]))) := Ch.put (.inr rfl) hz6 (fun _ z => by cases z)
      refine ⟨_, _, c, rfl, rfl, by decide +kernel, ec, _, hz6, by rw [List.length_map]; exact Nat.lt_of_le_of_lt (show zs.length ≤ 10 by omega) (by decide), by omega, (c4.trans (c6.mono fun c h => .inl h)).trans c7, ?_, zs ++ [⟨#[c]⟩], by rw [upd_same, List.map_append]; rfl, by rw [List.length_append, lz]; rfl, fun x hx => ?_⟩
      · obtain ⟨cc, sd, hb6, r⟩ := b6
        exact ⟨cc, sd, by rw [upd_ne hbD]; exact hb6, r⟩
      · rcases List.mem_append.mp hx with h | h
        · exact pz x h
        · rw [List.mem_singleton] at h; rw [h]; exact ⟨rfl, okc⟩
    · rintro H4 ⟨_, c4, b4, sg, hsg, lsg, psg⟩
      have c04 : Ch (· = b) H H4 := ⟨fun x u nx hx => by
        have h1 := c1.keep x u nx hx
        have xD : x ≠ D := ne_of_none h1 hD
        exact c4.keep x u (fun z => z.elim nx xD) (s1 x u h1), c1.kp.trans ((Kp.of s1).trans c4.kp)⟩
      refine ⟨_, rfl, _, rfl, D, _, rfl, .inl (.of hsg), b, _, rfl, b4, by rw [List.length_map]; omega, by rw [List.length_map]; omega, fun H5 sp c5 b5 l5 => ?_⟩
      refine ⟨_, rfl, b, 26, rfl, b5, by decide, by decide, fun H6 fst c6 b6 l6 => ?_⟩
      refine ⟨Nat.zero_le _, fun lf hlf => ?_⟩
      have c06 := (c04.trans c5).trans c6
      have hsg6 := c6.keep D _ (Ne.symm hbD) (c5.keep D _ (Ne.symm hbD) hsg)
      have nbf : b ≠ lf := fun z => b6.some (z ▸ hlf)
      have nDf : D ≠ lf := fun z => by rw [← z, hsg6] at hlf; cases hlf
      have s7 : Same H6 (upd H6 lf (.lst [])) := Same.new hlf
      have lsg4 : sg.length ≤ 4 := by omega
      have big : ∀ n : Nat, n ≤ 100 → n ≤ sizeLine := fun n h => Nat.le_trans h (by decide)
      refine ⟨_, rfl, m, rfl, by omega, by omega, ?_⟩
      have em : ((m : Nat) : Int).toNat = m := by omega
      rw [em]
      refine for_it (walk_range (lo := 0) (n := m)) (fun i σ H8 => i ≤ m ∧ Ch (fun x => x = b ∨ x = lf) (upd H6 lf (.lst [])) H8 ∧ BX H8 b ∧ ∃ (fs : List Str) (x4 x8 x9 x10 : Option V), σ = [some (.ref b), some (.int m), some (.str "abcdefghijklmnopqrstuvwxyz"), some (.ref D), x4, some (.int sp), some (.int fst), some (.ref lf), x8, x9, x10] ∧ H8 lf = some (.lst (fs.map V.str)) ∧ fs.length = i ∧ ∀ z ∈ fs, SOk z) ?_ ?_ ?_ ?_
      · exact ⟨Nat.zero_le _, Ch.refl _ _, b6.same s7, [], _, _, _, _, rfl, upd_same, rfl, fun _ h => by cases h⟩
      · intro _ _ _ _ _; trivial
      · rintro i x σ H8' H8 hi ⟨hle, c8, b8, fs, x4, x8, x9, x10, rfl, hf8, lfs, ofs⟩ ⟨rfl, hx⟩
        obtain rfl : x = V.int i := by simpa using hx
        have hsg8 : H8 D = some (.lst (sg.map V.str)) := c8.keep D _ (fun z => z.elim (Ne.symm hbD) nDf) (s7 _ _ hsg6)
        obtain ⟨z1, e1, k1, m1'⟩ := cut_str sg none (some (sp : Int))
        obtain ⟨z2, e2, k2, m2'⟩ := cut_str sg (some ((sp : Int) + 1)) none
        obtain ⟨co, eco, oco⟩ := alpha_at (show (((fst : Int) + 7 * (i : Int)) % 26).toNat < 26 by omega)
        rw [Int.toNat_of_nonneg (by omega)] at eco
        refine ⟨_, rfl, _, rfl, _, rfl, _, _, rfl, rfl, mulS ⟨by omega, by omega⟩, _, _, rfl, rfl, _, _, rfl, rfl, (show (0 : Int) < 26 by decide), _, _, co, rfl, rfl, by decide +kernel, eco, ?_⟩
        have j1 := join1 (fun z hz => (psg z (m1' z hz)).1)
        have j2 := join1 (fun z hz => (psg z (m2' z hz)).1)
        have u1 := sum1 z1 (fun z hz => (psg z (m1' z hz)).1)
        have u2 := sum1 z2 (fun z hz => (psg z (m2' z hz)).1)
        have lone : (⟨#[co]⟩ : Str).length = 1 := rfl
        refine ⟨rfl, _, rfl, _, rfl, _, rfl, D, _, rfl, .of hsg8, fun p1 hp1 => ?_⟩
        have s9 := Same.new (o := HO.lst (cutV (sg.map V.str) none (some (sp : Int)))) hp1
        refine ⟨_, p1, z1, rfl, rfl, .inl (.of (by rw [upd_same, e1])), by rw [u1]; show z1.length + z1.length * 0 ≤ _; omega, ?_⟩
        refine ⟨_, rfl, _, _, rfl, rfl, by rw [lone]; exact big _ (by omega), ?_⟩
        refine ⟨rfl, _, rfl, _, rfl, _, _, rfl, rfl, _, rfl, D, _, rfl, .of (s9 _ _ hsg8), fun p2 hp2 => ?_⟩
        have s10 := Same.new (o := HO.lst (cutV (sg.map V.str) (some ((sp : Int) + 1)) none)) hp2
        refine ⟨_, p2, z2, rfl, rfl, .inl (.of (by rw [upd_same, e2])), by rw [u2]; show z2.length + z2.length * 0 ≤ _; omega, ?_⟩
        refine ⟨_, _, rfl, rfl, by rw [Str.length_append, lone]; exact big _ (by omega), ?_⟩
        generalize hH9 : upd (upd H8 p1 _) p2 _ = H9 at s10
        have s89 : Same H8 H9 := L2.Same.trans s9 s10
        have b9 := b8.same s89
        refine ⟨_, rfl, _, rfl, b, 2, rfl, b9, by decide, by decide, fun H11 d11 c11 b11 l11 => ?_⟩
        refine ⟨_, _, rfl, rfl, by omega, by omega, _, _, rfl, rfl, ?_, ?_⟩
        · have lq : (if (d11 : Int) < 1 then Str.empty else ("q" : Str)).length ≤ 1 := by
            split
            · exact Nat.zero_le _
            · exact Nat.le_refl _
          rw [Str.length_append, Str.length_append, lone]
          exact big _ (by omega)
        have oq : SOk (if (d11 : Int) < 1 then Str.empty else ("q" : Str)) := by
          split <;> decide +kernel
        have onm := sok_app (sok_app (sok_app (sok_joinT fun z hz => (psg z (m1' z hz)).2) oco) (sok_joinT fun z hz => (psg z (m2' z hz)).2)) oq
        generalize (_ : Str) ++ (if (d11 : Int) < 1 then Str.empty else ("q" : Str)) = nm at onm
        dsimp only [gName]
        have hf9 := s89 _ _ hf8
        have hf11 := c11.keep lf _ (Ne.symm nbf) hf9
        have c811 : Ch (fun x => x = b ∨ x = lf) (upd H6 lf (.lst [])) H11 := (c8.same s89).trans (c11.mono fun _ z => .inl z)
        refine seq_if (fun σ' H7 => Same H11 H7 ∧ ∃ nm', SOk nm' ∧ σ' = [some (.ref b), some (.int m), some (.str "abcdefghijklmnopqrstuvwxyz"), some (.ref D), some (.int i), some (.int sp), some (.int fst), some (.ref lf), some (.str ⟨#[co]⟩), some (.str nm'), x10]) ?_ ?_
        · rintro σ' H7 ⟨s7', nm', onm', rfl⟩
          have hf12 := s7' _ _ hf11
          have c12 : Ch (fun x => x = b ∨ x = lf) H7 (upd H7 lf (.lst (fs.map V.str ++ [V.str nm']))) := Ch.put (.inr rfl) hf12 (fun _ z => by cases z)
          refine ⟨_, rfl, .inl ⟨rfl, _, .of hf12⟩, _, rfl, lf, _, _, rfl, rfl, hf12, by rw [List.length_map, lfs]; exact Nat.lt_of_le_of_lt (show i ≤ 10 by omega) (by decide), by omega, (c811.same s7').trans c12, ?_, fs ++ [nm'], _, _, _, _, rfl, by rw [upd_same, List.map_append]; rfl, by rw [List.length_append, lfs]; rfl, fun z hz => by
            rcases List.mem_append.mp hz with h | h
            · exact ofs z h
            · rw [List.mem_singleton] at h; rw [h]; exact onm'⟩
          obtain ⟨cc, sd, hb6, r⟩ := b11.same s7'
          exact ⟨cc, sd, by rw [upd_ne nbf]; exact hb6, r⟩
        intro nx hn
        have zz : ∀ H7, Same H11 H7 → (tAsg (tOp (fun x y H Q => ∃ i j, x = V.str i ∧ y = V.str j ∧ i.length + j.length ≤ sizeLine ∧ Q (V.str (i ++ j)) H) (tC (V.str "zz")) (tOp rIxS (tVar 2) (tVar 4))) (gName 9)) { nx := nx, rt := fun _ _ => False } [some (.ref b), some (.int m), some (.str "abcdefghijklmnopqrstuvwxyz"), some (.ref D), some (.int i), some (.int sp), some (.int fst), some (.ref lf), some (.str ⟨#[co]⟩), some (.str nm), x10] H7 := fun H7 s7' => by
          obtain ⟨c, ec, okc⟩ := alpha_at (show i < 26 by omega)
          exact ⟨_, rfl, _, rfl, _, _, c, rfl, rfl, by decide +kernel, ec, _, _, rfl, rfl, by show 2 + 1 ≤ _; exact big _ (by omega), hn _ _ ⟨s7', _, sok_app (by decide +kernel) okc, rfl⟩⟩
        refine ⟨_, rfl, _, rfl, lf, _, rfl, .inl (.of hf11), rfl, flat_strs _, _, rfl, ?_⟩
        refine ite2 (fun z => ?_) (fun z => ?_)
        · exact iteY rfl (zz _ (same_rfl _))
        · refine ⟨_, rfl, (by show 5 ≤ sizeLine; decide), fun t ht => ⟨t, _, rfl, .inr (Tq.sq (.inl upd_same)), rfl, rfl, _, rfl, ?_⟩⟩
          have s13 := Same.new (o := HO.tup [V.str "part", V.str "end", V.str "give", V.str "rounds", V.str "letters"]) ht
          exact ite2 (fun z => zz _ s13) (fun z => hn _ _ ⟨s13, _, onm, rfl⟩)
      · rintro σ H8 ⟨_, c8, b8, fs, x4, x8, x9, x10, rfl, hf8, lfs, ofs⟩
        have cHH : Ch (· = b) H H8 := ⟨fun x u nx hx => by
          have h1 := c06.keep x u nx hx
          have h2 : x ≠ lf := ne_of_none h1 hlf
          exact c8.keep x u (fun z => z.elim nx h2) (s7 x u h1), c06.kp.trans ((Kp.of s7).trans c8.kp)⟩
        dsimp only [gName]
        refine seq_if (fun σ' H7 => Ch (· = b) H H7 ∧ BX H7 b ∧ ∃ (fs' : List Str) (x10' : Option V), σ' = [some (.ref b), some (.int m), some (.str "abcdefghijklmnopqrstuvwxyz"), some (.ref D), x4, some (.int sp), some (.int fst), some (.ref lf), x8, x9, x10'] ∧ H7 lf = some (.lst (fs'.map V.str)) ∧ fs'.length = m ∧ ∀ z ∈ fs', SOk z) ?_ ?_
        · rintro σ' H7 ⟨c7, b7, fs', x10', rfl, hf7, lf7, of7⟩
          refine ⟨_, rfl, lf, _, rfl, .inl ⟨.of hf7, fun l hl => ?_⟩⟩
          have s8 : Same H7 (upd H7 l (.tup (fs'.map V.str))) := Same.new hl
          exact q _ _ fs' (c7.same s8) (b7.same s8) (.tup (.inl upd_same) (td_strs fs')) lf7 of7
        intro nx hn
        refine ⟨_, rfl, b, 5, rfl, b8, by decide, by decide, fun H9 d9 c9 b9 l9 => ?_⟩
        have hf9 := c9.keep lf _ (Ne.symm nbf) hf8
        refine ⟨rfl, _, rfl, ?_⟩
        refine ite2 (fun z => ?_) (fun z => hn _ _ ⟨cHH.trans c9, b9, fs, _, rfl, hf9, lfs, ofs⟩)
        refine ⟨(by show 8 ≤ sizeLine; decide), fun p hp => ?_⟩
        have s10 := Same.new (o := HO.lst [V.str "ends", V.str "pa", V.str "gives", V.str "giv", V.str "x", V.str "y", V.str "r", V.str "rk"]) hp
        have pb : p ≠ b := fun z => b9.some (z ▸ hp)
        refine ⟨_, rfl, b, 8, rfl, b9.same s10, by decide, by decide, fun H11 d11 c11 b11 l11 => ?_⟩
        obtain ⟨od, eod, ood⟩ : ∃ od, [V.str "ends", V.str "pa", V.str "gives", V.str "giv", V.str "x", V.str "y", V.str "r", V.str "rk"][d11]? = some (.str od) ∧ SOk od := by
          match d11, l11 with
          | 0, _ => exact ⟨_, rfl, by decide +kernel⟩
          | 1, _ => exact ⟨_, rfl, by decide +kernel⟩
          | 2, _ => exact ⟨_, rfl, by decide +kernel⟩
          | 3, _ => exact ⟨_, rfl, by decide +kernel⟩
          | 4, _ => exact ⟨_, rfl, by decide +kernel⟩
          | 5, _ => exact ⟨_, rfl, by decide +kernel⟩
          | 6, _ => exact ⟨_, rfl, by decide +kernel⟩
          | 7, _ => exact ⟨_, rfl, by decide +kernel⟩
        have hf11 := c11.keep lf _ (Ne.symm nbf) (s10 _ _ hf9)
        have cH11 := ((cHH.trans c9).same s10).trans c11
        refine ⟨p, _, _, _, rfl, rfl, .of (c11.keep p _ pb upd_same), atI_nat eod, ?_⟩
        refine ⟨_, rfl, _, rfl, lf, _, rfl, .inl (.of hf11), rfl, flat_strs _, _, rfl, ?_⟩
        refine ite2 (fun z => ?_) (fun z => hn _ _ ⟨cH11, b11, fs, _, rfl, hf11, lfs, ofs⟩)
        refine ⟨_, rfl, _, rfl, _, rfl, _, rfl, b, m, rfl, b11, by omega, by omega, fun H12 d12 c12 b12 l12 => ?_⟩
        have hf12 := c12.keep lf _ (Ne.symm nbf) hf11
        refine ⟨lf, _, d12, d12, rfl, rfl, hf12, ixN_nat (by rw [List.length_map, lfs]; exact l12), ?_⟩
        have e13 : (fs.map V.str).set d12 (.str od) = (fs.set d12 od).map V.str := by rw [List.map_set]
        refine hn _ _ ⟨⟨fun x u nx hx => ?_, ?_⟩, ?_, fs.set d12 od, _, rfl, by rw [upd_same, e13], by rw [List.length_set]; exact lfs, fun z hz => by
          rcases List.mem_or_eq_of_mem_set hz with h | h
          · exact ofs z h
          · rw [h]; exact ood⟩
        · have h1 := c06.keep x u nx hx
          have h2 : x ≠ lf := ne_of_none h1 hlf
          rw [upd_ne h2]
          exact (cH11.trans c12).keep x u nx hx
        · exact (cH11.trans c12).kp.trans (Ch.put (S := fun _ => True) trivial hf12 (fun _ z => by cases z)).kp
        · obtain ⟨cc, sd, hb6, r⟩ := b12
          exact ⟨cc, sd, by rw [upd_ne nbf]; exact hb6, r⟩
end
end U
set_option Elab.async false
set_option linter.all false
set_option maxRecDepth 100000
set_option maxHeartbeats 4000000
/-! The old reckonings: degrees, the rows added at the end. -/
namespace U
def dgOf (ds : List Nat) : Row → Nat
  | .num _ => 0
  | .let_ _ => 1
  | .op .times i j => ds.getD i 0 + ds.getD j 0
  | .op .over i j => ds.getD i 0 - ds.getD j 0
  | .op _ i j => max (ds.getD i 0) (ds.getD j 0)
def dgF (rows : List Row) : List Nat := rows.foldl (fun ds r => ds ++ [dgOf ds r]) []
theorem dgF_snoc (rows : List Row) (r : Row) : dgF (rows ++ [r]) = dgF rows ++ [dgOf (dgF rows) r] := by
  unfold dgF
  rw [List.foldl_append]
  rfl
theorem dfold_len : ∀ (rows : List Row) (ws : List Nat), (rows.foldl (fun ds r => ds ++ [dgOf ds r]) ws).length = ws.length + rows.length
  | [], _ => rfl
  | r :: rows, ws => by rw [List.foldl_cons, dfold_len rows, List.length_append, List.length_cons]; simp; omega
theorem dgF_len (rows : List Row) : (dgF rows).length = rows.length := by
  unfold dgF
  rw [dfold_len]
  simp
theorem dgF_take {rows : List Row} {i : Nat} {r : Row} (h : rows[i]? = some r) : dgF (rows.take (i + 1)) = dgF (rows.take i) ++ [dgOf (dgF (rows.take i)) r] := by
  rw [List.take_add_one, h]
  exact dgF_snoc _ r
theorem dgF_pre (rows : List Row) (m : Nat) : ∃ t, dgF rows = dgF (rows.take m) ++ t := by
  obtain ⟨t, e⟩ := fold_pre dgOf (rows.drop m) (dgF (rows.take m))
  refine ⟨t, ?_⟩
  rw [← e]
  conv => lhs; rw [← List.take_append_drop m rows]
  unfold dgF
  rw [List.foldl_append]
theorem dgF_at {rows : List Row} {i m : Nat} (h : i < m) (hm : m ≤ rows.length) : (dgF (rows.take m)).getD i 0 = (dgF rows).getD i 0 := by
  obtain ⟨t, e⟩ := dgF_pre rows m
  rw [e, List.getD_eq_getElem?_getD, List.getD_eq_getElem?_getD, List.getElem?_append_left]
  rw [dgF_len, List.length_take]; omega
theorem dg_eq {rows : List Row} {n i : Nat} {r : Row} (e : rows[i]? = some r) (wf : RowWf n i r) : (dgF rows).getD i 0 = dgOf (dgF rows) r := by
  have hi : i < rows.length := (List.getElem?_eq_some_iff.mp e).1
  have e1 : (dgF rows).getD i 0 = (dgF (rows.take (i + 1))).getD i 0 := (dgF_at (by omega) (by omega)).symm
  have lv : (dgF (rows.take i)).length = i := by rw [dgF_len, List.length_take]; omega
  rw [e1, dgF_take e, getD_snoc_eq' lv]
  cases r with
  | num q => rfl
  | let_ k => rfl
  | op w a b =>
    have h1 := dgF_at wf.1 (show i ≤ rows.length by omega)
    have h2 := dgF_at wf.2 (show i ≤ rows.length by omega)
    cases w <;> (unfold dgOf; simp only; rw [h1, h2])
theorem dg_le {n W : Nat} {rows : List Row} (h : Olds n W rows) : ∀ m i, i < m → i < rows.length → (dgF rows).getD i 0 ≤ ((wtsF rows).getD i (0, 0)).1 := fun m => by
  induction m with
  | zero => intro i hi; omega
  | succ m ih =>
    intro i him hi
    have e : rows[i]? = some (rows[i]) := List.getElem?_eq_getElem hi
    generalize rows[i] = r at e
    have wf := h.wf i r e
    rw [wt_eq e wf, dg_eq e wf]
    cases r with
    | num q => exact Nat.zero_le _
    | let_ k => exact Nat.le_refl _
    | op w a b =>
      obtain ⟨ha, hb⟩ := wf
      have h1 := ih a (by omega) (by omega)
      have h2 := ih b (by omega) (by omega)
      cases w with
      | times => show _ + _ ≤ _ + _; omega
      | over => show _ - _ ≤ _ + _; omega
      | plus => show max _ _ ≤ max _ _; omega
      | less => show max _ _ ≤ max _ _; omega
theorem good_snocX {pts : List Rat} {rows : List Row} {r : Row} (g : GoodTo pts rows rows.length) (hb : rowBad (valsF pts rows) r = false) : GoodTo pts (rows ++ [r]) (rows ++ [r]).length := fun j x hj e => by
  rw [List.length_append] at hj
  by_cases h : j < rows.length
  · rw [List.getElem?_append_left h] at e
    rw [List.take_append_of_le_length (by omega)]
    exact g j x h e
  · have : j = rows.length := by
      have h1 : [r].length = 1 := rfl
      omega
    subst this
    rw [List.getElem?_append_right (Nat.le_refl _), Nat.sub_self] at e
    injection e with e
    subst e
    rw [List.take_append_of_le_length (Nat.le_refl _), List.take_length]
    exact hb
/-- the reckoning that _law_old gives -/
structure OldOk (n : Nat) (pts : List Rat) (rows : List Row) : Prop where
  n1 : 1 ≤ n
  n3 : n ≤ 3
  lp : pts.length = n
  sm : ∀ q ∈ pts, SmOk q
  olds : Olds n 5 rows
  l1 : 1 ≤ rows.length
  l10 : rows.length ≤ 10
  good : GoodTo pts rows rows.length
  dgl : (dgF rows).getD (rows.length - 1) 0 ≤ 4
theorem OldOk.base {n : Nat} {pts : List Rat} {rows : List Row} (n1 : 1 ≤ n) (n3 : n ≤ 3) (lp : pts.length = n) (sm : ∀ q ∈ pts, SmOk q) (old : Olds n 4 rows) (l1 : 1 ≤ rows.length) (l7 : rows.length ≤ 7) (good : GoodTo pts rows rows.length) : OldOk n pts rows := by
  refine ⟨n1, n3, lp, sm, old.mono (by decide), l1, by omega, good, ?_⟩
  have h := dg_le old rows.length (rows.length - 1) (by omega) (by omega)
  have hr : rows[rows.length - 1]? = some (rows[rows.length - 1]) := List.getElem?_eq_getElem (by omega)
  rw [wt_eq hr (old.wf _ _ hr), ← wt_eqT hr (old.wf _ _ hr)] at h
  exact Nat.le_trans h (old _ _ hr).w1
def extR (k : Nat) (rows : List Row) : List Row := ((rows ++ [Row.let_ k]) ++ [Row.op .times (rows.length - 1) rows.length]) ++ [Row.op .over (rows.length + 1) rows.length]
theorem getE_snoc {α : Type} {l : List α} {x : α} : (l ++ [x])[l.length]? = some x := by
  rw [List.getElem?_append_right (Nat.le_refl _), Nat.sub_self]
  rfl
theorem getE_snoc' {α : Type} {l : List α} {x : α} {i : Nat} (h : l.length = i) : (l ++ [x])[i]? = some x := by
  subst h
  exact getE_snoc
theorem OldOk.ext {n k : Nat} {pts : List Rat} {rows : List Row} (n1 : 1 ≤ n) (n3 : n ≤ 3) (lp : pts.length = n) (sm : ∀ q ∈ pts, SmOk q) (old : Olds n 4 rows) (l1 : 1 ≤ rows.length) (l7 : rows.length ≤ 7) (good : GoodTo pts rows rows.length) (hk : k < n) (nz : pts.getD k 0 ≠ 0) : OldOk n pts (extR k rows) := by
  have hr : rows[rows.length - 1]? = some (rows[rows.length - 1]) := List.getElem?_eq_getElem (by omega)
  have wl1 := (old _ _ hr).w1
  have wl2 := (old _ _ hr).w2
  rw [wt_eqT hr (old.wf _ _ hr), ← wt_eq hr (old.wf _ _ hr)] at wl1 wl2
  have dl := dg_le old rows.length (rows.length - 1) (by omega) (by omega)
  -- row m
  have o1 : Olds n 5 (rows ++ [Row.let_ k]) := (old.mono (by decide)).snoc ⟨⟨hk, (fun _ e => nomatch e), (fun _ _ e => nomatch e)⟩, (show 1 ≤ 5 by decide), (show 0 ≤ 5 by decide)⟩
  have g1 : GoodTo pts (rows ++ [Row.let_ k]) (rows ++ [Row.let_ k]).length := good_snocX (r := Row.let_ k) good rfl
  have len1 : (rows ++ [Row.let_ k]).length = rows.length + 1 := by rw [List.length_append]; rfl
  have w1a : (wtsF (rows ++ [Row.let_ k])).getD (rows.length - 1) (0, 0) = (wtsF rows).getD (rows.length - 1) (0, 0) := by
    rw [wtsF_snoc, getD_snoc_lt (by rw [wtsF_len]; omega)]
  have w1b : (wtsF (rows ++ [Row.let_ k])).getD rows.length (0, 0) = (1, 0) := by
    rw [wtsF_snoc, getD_snoc_eq' (wtsF_len rows)]; rfl
  have d1a : (dgF (rows ++ [Row.let_ k])).getD (rows.length - 1) 0 = (dgF rows).getD (rows.length - 1) 0 := by
    rw [dgF_snoc, getD_snoc_lt (by rw [dgF_len]; omega)]
  have d1b : (dgF (rows ++ [Row.let_ k])).getD rows.length 0 = 1 := by
    rw [dgF_snoc, getD_snoc_eq' (dgF_len rows)]; rfl
  have v1b : (valsF pts (rows ++ [Row.let_ k])).getD rows.length 0 = pts.getD k 0 := by
    rw [valsF_snoc, getD_snoc_eq' (valsF_len pts rows)]; rfl
  generalize hR1 : rows ++ [Row.let_ k] = R1 at *
  -- row m + 1
  have wt2 : wtOf (wtsF R1) (.op .times (rows.length - 1) rows.length) = (((wtsF rows).getD (rows.length - 1) (0, 0)).1 + 1, ((wtsF rows).getD (rows.length - 1) (0, 0)).2 + 0) := by
    show (_ + _, _ + _) = _
    rw [w1a, w1b]
  have o2 : Olds n 5 (R1 ++ [.op .times (rows.length - 1) rows.length]) := o1.snoc ⟨⟨⟨by omega, by omega⟩, (fun _ e => nomatch e), (fun _ _ e => nomatch e)⟩, by rw [wt2]; show _ + 1 ≤ 5; omega, by rw [wt2]; show _ + 0 ≤ 5; omega⟩
  have g2 := good_snocX (r := .op .times (rows.length - 1) rows.length) g1 rfl
  have len2 : (R1 ++ [Row.op .times (rows.length - 1) rows.length]).length = rows.length + 2 := by rw [List.length_append, len1]; rfl
  have w2a : (wtsF (R1 ++ [.op .times (rows.length - 1) rows.length])).getD rows.length (0, 0) = (1, 0) := by
    rw [wtsF_snoc, getD_snoc_lt (by rw [wtsF_len]; omega), w1b]
  have w2b : (wtsF (R1 ++ [.op .times (rows.length - 1) rows.length])).getD (rows.length + 1) (0, 0) = (((wtsF rows).getD (rows.length - 1) (0, 0)).1 + 1, ((wtsF rows).getD (rows.length - 1) (0, 0)).2 + 0) := by
    rw [wtsF_snoc, getD_snoc_eq' (by rw [wtsF_len]; omega), wt2]
  have d2a : (dgF (R1 ++ [.op .times (rows.length - 1) rows.length])).getD rows.length 0 = 1 := by
    rw [dgF_snoc, getD_snoc_lt (by rw [dgF_len]; omega), d1b]
  have d2b : (dgF (R1 ++ [.op .times (rows.length - 1) rows.length])).getD (rows.length + 1) 0 = (dgF rows).getD (rows.length - 1) 0 + 1 := by
    rw [dgF_snoc, getD_snoc_eq' (by rw [dgF_len]; omega)]
    show _ + _ = _
    rw [d1a, d1b]
  have v2a : (valsF pts (R1 ++ [.op .times (rows.length - 1) rows.length])).getD rows.length 0 = pts.getD k 0 := by
    rw [valsF_snoc, getD_snoc_lt (by rw [valsF_len]; omega), v1b]
  have e2 : (R1 ++ [Row.op .times (rows.length - 1) rows.length])[rows.length + 1]? = some (.op .times (rows.length - 1) rows.length) := getE_snoc' (by omega)
  have ex : extR k rows = (R1 ++ [.op .times (rows.length - 1) rows.length]) ++ [.op .over (rows.length + 1) rows.length] := by rw [← hR1]; rfl
  rw [ex]
  generalize R1 ++ [Row.op .times (rows.length - 1) rows.length] = R2 at *
  have wt3 : wtOf (wtsF R2) (.op .over (rows.length + 1) rows.length) = (((wtsF rows).getD (rows.length - 1) (0, 0)).1 + 1 + 0, ((wtsF rows).getD (rows.length - 1) (0, 0)).2 + 0 + 1) := by
    show (_ + _, _ + _) = _
    rw [w2a, w2b]
  have bad3 : rowBad (valsF pts R2) (.op .over (rows.length + 1) rows.length) = false := decide_eq_false (by rw [v2a]; exact nz)
  refine ⟨n1, n3, lp, sm, o2.snoc ⟨⟨⟨by omega, by omega⟩, (fun _ e => nomatch e), (fun a b e => ?_)⟩, by rw [wt3]; show _ + 1 + 0 ≤ 5; omega, by rw [wt3]; show _ + 0 + 1 ≤ 5; omega⟩, by rw [List.length_append, len2]; omega, by rw [List.length_append, len2]; show rows.length + 2 + 1 ≤ 10; omega, good_snocX g2 bad3, ?_⟩
  · injection e with _ ea eb
    subst ea; subst eb
    exact ⟨_, _, e2, .inr rfl⟩
  · have : (R2 ++ [Row.op .over (rows.length + 1) rows.length]).length - 1 = rows.length + 2 := by rw [List.length_append, len2]; rfl
    rw [this, dgF_snoc, getD_snoc_eq' (by rw [dgF_len]; omega)]
    show _ - _ ≤ 4
    rw [d2a, d2b]
    omega
end U
set_option Elab.async false
set_option linter.all false
set_option maxRecDepth 100000
set_option maxHeartbeats 4000000
/-! _law_old. -/
namespace U
open PySem PySem.Spec PyProof.Rows L2
section
variable {P : Program} {w : World} {K : PySem.W.Frag} {mg : Str → Option Value} {base : Heap}
def spOld (K : PySem.W.Frag) : Sp := fun vs H Q _ => ∃ (sl : Addr) (ns : List Int), vs = [.ref sl] ∧ SqL K H sl (ns.map V.int) ∧ ns.length ≤ 63 ∧
  ∀ H' t vr vp b (ls : List Str) pts rows, Same H H' → Tq K H' t [vr, vp, .ref b] → TD K H' vr (eRk ls rows) → TD K H' vp (.tuple (pts.map eF)) → BX H' b → H b = none → (∀ z ∈ ls, SOk z) → OldOk ls.length pts rows → Q (.ref t) H'
def N_l_old : List Str := ["_law_script", "_law_box_here", "_law_letters", "_law_point_here", "_law_rows", "_law_k", "_law_last"]
theorem sc_l_old : FnScope ["_law_script", "_law_box_here", "_law_letters", "_law_point_here", "_law_rows", "_law_k", "_law_last"] ["_law_script"] (defScope s_l_old) := ⟨rfl, rfl, rfl, by decide +kernel, rfl, by decide +kernel, by decide +kernel⟩
theorem f_l_old (T : Txt K mg) : Cal P w K mg base 7 "_law_old" (spOld K) := by
  refine cal_of T.a_l_old sc_l_old (fun _ _ _ _ _ _ us hl => match us, hl with | [_], _ => rfl) (fun vs H Q E h => ?_) (fun fa cdv A outer s H vs Q E hr h => ?_)
  · obtain ⟨_, _, rfl, _⟩ := h
    rfl
  · obtain ⟨sl, ns, rfl, hs, hn, q⟩ := h
    refine ⟨_, (pss_cons (ps_set (i := 1) sc_l_old.nd rfl (Or.inl rfl) (pe_c (f_l_box T) hr (by decide) (by rfl) (pa_cons (pv 0) (pa_cons pe_int pa_nil))))
(pss_cons (ps_set (i := 2) sc_l_old.nd rfl (Or.inl rfl) (pe_c (f_l_names T) hr (by decide) (by rfl) (pa_cons (pv 1) (pa_cons (pe_op op_add pe_int (pe_c (f_l_take T) hr (by decide) (by rfl) (pa_cons (pv 1) (pa_cons pe_int pa_nil)))) pa_nil))))
(pss_cons (ps_set (i := 3) sc_l_old.nd rfl (Or.inl rfl) (pe_c (f_l_point T) hr (by decide) (by rfl) (pa_cons (pv 1) (pa_cons (pe_callB call_len_seq (by rfl) T.b_len PySem.boot_len (pa_cons (pv 2) pa_nil)) pa_nil))))
(pss_cons (ps_set (i := 4) sc_l_old.nd rfl (Or.inl rfl) (pe_callTy call_list_of (by rfl) T.b_list (by decide +kernel) (pa_cons (pe_ix ix_tup (pe_c (f_l_pointed T) hr (by decide) (by rfl) (pa_cons (pe_c (f_l_box T) hr (by decide) (by rfl) (pa_cons (pv 0) (pa_cons pe_int pa_nil))) (pa_cons (pv 2) (pa_cons (pv 3) (pa_cons pe_int (pa_cons pe_int (pa_cons pe_int pa_nil))))))) pe_int (fun _ _ => rfl)) pa_nil)))
(pss_cons (ps_set (i := 1) sc_l_old.nd rfl (Or.inl rfl) (pe_c (f_l_box T) hr (by decide) (by rfl) (pa_cons (pv 0) (pa_cons pe_int pa_nil))))
(pss_cons (ps_set (i := 5) sc_l_old.nd rfl (Or.inl rfl) (pe_c (f_l_take T) hr (by decide) (by rfl) (pa_cons (pv 1) (pa_cons (pe_callB call_len_seq (by rfl) T.b_len PySem.boot_len (pa_cons (pv 2) pa_nil)) pa_nil))))
(pss_cons (ps_if (PW.pt (pw_and (pt_cmpR op_eq (pe_c (f_l_take T) hr (by decide) (by rfl) (pa_cons (pv 1) (pa_cons pe_int pa_nil))) pe_int (nomark _)) (pw_and1 (pt_cmpR op_ne (pe_ix ix_tup (pe_ix ix_tup (pv 3) (pv 5) (fun _ _ => rfl)) pe_int (fun _ _ => rfl)) pe_int (nomark _)))))
(pss_cons (ps_set (i := 6) sc_l_old.nd rfl (Or.inl rfl) (pe_op op_sub (pe_callB call_len_seq (by rfl) T.b_len PySem.boot_len (pa_cons (pv 4) pa_nil)) pe_int))
(pss_cons (ps_expr (pe_bm PySem.F.plainAttrs_list PySem.F.slot_list_append PySem.F.type_list_append mt_append (pv 4) (pa_cons (pe_tup (pa_cons pe_str (pa_cons (pv 5) pa_nil))) pa_nil)))
(pss_one (ps_set (i := 4) sc_l_old.nd rfl (Or.inl rfl) (pe_op op_cat (pv 4) (pe_lst (pa_cons (pe_tup (pa_cons pe_str (pa_cons (pv 6) (pa_cons (pe_op op_add (pv 6) pe_int) pa_nil)))) (pa_cons (pe_tup (pa_cons pe_str (pa_cons (pe_op op_add (pv 6) pe_int) (pa_cons (pe_op op_add (pv 6) pe_int) pa_nil)))) pa_nil))))))))
pss_nil)
(pss_one (ps_ret (pe_tup (pa_cons (pe_tup (pa_cons (pv 2) (pa_cons (pe_callTy call_tuple_of (by rfl) T.b_tuple (by decide +kernel) (pa_cons (pv 4) pa_nil)) pa_nil))) (pa_cons (pv 3) (pa_cons (pv 1) pa_nil))))))))))))), ?_⟩
    refine ⟨_, rfl, sl, 0, ns, rfl, hs, by decide, hn, fun H1 b s1 hb b1 => ?_⟩
    refine ⟨_, rfl, _, rfl, b, 3, rfl, b1, by decide, by decide, fun H2 d2 c2 b2 l2 => ?_⟩
    have ed : (1 : Int) + (d2 : Int) = ((1 + d2 : Nat) : Int) := by omega
    refine ⟨_, _, rfl, rfl, b, 1 + d2, by show [V.ref b, V.int (1 + (d2 : Int))] = _; rw [ed], b2, by omega, by omega, fun H3 vl ls c3 b3 tl l3 sok => ?_⟩
    obtain ⟨al, xl, rfl, tql, tdl⟩ := tl.tup_inv
    have ll : xl.length = ls.length := by rw [tdl.len, List.length_map]
    refine ⟨_, rfl, _, rfl, al, xl, rfl, .inr tql.sq, b, ls.length, by rw [ll]; rfl, b3, by omega, fun H4 vp pts c4 b4 tp lp spt => ?_⟩
    have tql4 := tql.up c4.kp
    have tdl4 := tdl.up c4.kp
    have cH4 : Ch (· = b) H1 H4 := (c2.trans c3).trans c4
    have sH4 : Same H H4 := fun x u e => cH4.keep x u (ne_of_none e hb) (s1 x u e)
    refine ⟨_, rfl, sl, 1, ns, rfl, sqL_same hs sH4, by decide, hn, fun H5 bb s5 hbb b5 => ?_⟩
    refine ⟨_, rfl, _, rfl, bb, .ref al, vp, ls, pts, rfl, b5, .tup (tql4.up (.of s5)) (tdl4.up (.of s5)), tp.up (.of s5), by omega, by omega, by omega, fun x hx => (spt x hx).pt, fun H6 vk rows c6 b6 r1 r7 old good tk => ?_⟩
    have s46 : Same H4 H6 := fun x u e => c6.keep x u (ne_of_none e hbb) (s5 x u e)
    have sH6 : Same H H6 := L2.Same.trans sH4 s46
    obtain ⟨ak, vl', vr', rfl, tqk, _, tr⟩ := tk.rk
    obtain ⟨ar, xr, rfl, tqr, tdr⟩ := tr.tup_inv
    refine ⟨ak, _, _, _, rfl, rfl, tqk.sq, a1, ar, xr, rfl, .inr tqr.sq, fun lr hlr => ?_⟩
    have s7 : Same H6 (upd H6 lr (.lst xr)) := Same.new hlr
    have hr7 : (upd H6 lr (.lst xr)) lr = some (.lst xr) := upd_same
    generalize upd H6 lr (.lst xr) = H7 at s7 hr7
    have sH7 := L2.Same.trans sH6 s7
    refine ⟨_, rfl, sl, 2, ns, rfl, sqL_same hs sH7, by decide, hn, fun H8 b' s8 hb' b8 => ?_⟩
    have hlrH : H lr = none := by
      cases e : H lr with
      | none => rfl
      | some u => exact absurd (sH6 lr u e) (by rw [hlr]; simp)
    have hbH : H b' = none := by
      cases e : H b' with
      | none => rfl
      | some u => exact absurd (sH7 b' u e) (by rw [hb']; simp)
    have k48 : Kp H4 H8 := (Kp.of s46).trans ((Kp.of s7).trans (.of s8))
    have tql8 := tql4.up k48
    have tdl8 := tdl4.up k48
    have tp8 := tp.up k48
    have tdr8 := tdr.up ((Kp.of s7).trans (.of s8))
    have hr8 := s8 _ _ hr7
    have nbr : b' ≠ lr := fun z => by rw [z, hr7] at hb'; cases hb'
    refine ⟨_, rfl, _, rfl, al, xl, rfl, .inr tql8.sq, b', xl.length, rfl, b8, by omega, by omega, fun H9 d9 c9 b9 l9 => ?_⟩
    have cH9 : Ch (· = b') H8 H9 := c9
    have sH8 := L2.Same.trans sH7 s8
    have sH9 : Same H H9 := fun x u e => cH9.keep x u (ne_of_none e hbH) (sH8 x u e)
    have hr9 := c9.keep lr _ (Ne.symm nbr) hr8
    have lxr : xr.length = rows.length := by rw [tdr.len, List.length_map]
    have okn1 : 1 ≤ ls.length := by omega
    have okn3 : ls.length ≤ 3 := by omega
    dsimp only [gName]
    refine seq_if (fun σ' Hz => ∃ (lz : Addr) (xz : List V) (rz : List Row) (x6 : Option V), σ' = [some (.ref sl), some (.ref b'), some (.ref al), some vp, some (.ref lz), some (.int d9), x6] ∧ Same H Hz ∧ BX Hz b' ∧ Kp H9 Hz ∧ Hz lz = some (.lst xz) ∧ TDs K Hz xz (rz.map eRow) ∧ OldOk ls.length pts rz) ?_ ?_
    · rintro σ' Hz ⟨lz, xz, rz, x6, rfl, sz, bz, kz, hz, tz, okz⟩
      refine ⟨_, rfl, _, rfl, lz, xz, rfl, .inl ⟨.of hz, fun l hl => ⟨two_le, fun t1 ht1 => ⟨_, rfl, _, rfl, three_le, fun t2 ht2 => ?_⟩⟩⟩⟩
      have z1 : Same Hz (upd Hz l (.tup xz)) := Same.new hl
      have z2 := Same.new (o := HO.tup [V.ref al, V.ref l]) ht1
      have z3 := Same.new (o := HO.tup [V.ref t1, vp, V.ref b']) ht2
      have z23 := L2.Same.trans z2 z3
      have z13 := L2.Same.trans z1 z23
      have k9 : Kp H8 (upd (upd (upd Hz l (.tup xz)) t1 (.tup [V.ref al, V.ref l])) t2 (.tup [V.ref t1, vp, V.ref b'])) := c9.kp.trans (kz.trans (.of z13))
      exact q _ t2 _ _ b' ls pts rz (L2.Same.trans sz z13) (.inl upd_same) (TD.of_rk (.inl (z3 _ _ upd_same)) (.tup (tql8.up k9) (tdl8.up k9)) (.tup (.inl (z23 _ _ upd_same)) (tz.up (.of z13)))) (tp8.up k9) (bz.same z13) hbH sok okz
    intro nx hn
    have keep : ∀ Hz, Ch (· = b') H9 Hz → BX Hz b' → nx [some (.ref sl), some (.ref b'), some (.ref al), some vp, some (.ref lr), some (.int d9), none] Hz := fun Hz cz bz =>
      hn _ _ ⟨lr, xr, rows, none, rfl, fun x u e => cz.keep x u (ne_of_none e hbH) (sH9 x u e), bz, cz.kp, cz.keep lr _ (Ne.symm nbr) hr9, tdr8.up (c9.kp.trans cz.kp), OldOk.base okn1 okn3 lp spt old r1 r7 good⟩
    refine ⟨_, rfl, b', 2, rfl, b9, by decide, by decide, fun Ha da ca ba la => ?_⟩
    refine ⟨rfl, _, rfl, ?_⟩
    refine ite2 (fun z => ?_) (fun z => iteN rfl (keep Ha ca ba))
    have tpa := tp8.up (c9.kp.trans ca.kp)
    obtain ⟨pa, ps, rfl, tpp, hps⟩ := tpa.tup_inv
    obtain ⟨v, ev, tv⟩ := hps.getD (i := d9) (by omega)
    obtain ⟨pf, rfl, tpf⟩ := tv.fr
    refine ⟨_, rfl, _, rfl, _, _, _, _, rfl, rfl, tpp.sq, atI_nat ev, _, _, _, _, rfl, rfl, tpf.sq, a0, rfl, _, rfl, ?_⟩
    by_cases nz : pts.getD d9 0 = 0
    · exact iteN (by rw [nz]; rfl) (keep Ha ca ba)
    refine iteY (by
      have : ¬ (V.int (pts.getD d9 0).num = V.int 0) := fun z => nz (Rat.num_eq_zero.mp (by injection z))
      rw [decide_eq_false this]; rfl) ?_
    have hra := ca.keep lr _ (Ne.symm nbr) hr9
    refine ⟨_, rfl, lr, xr, rfl, .inl (.of hra), _, _, rfl, rfl, ?_⟩
    have e1 : ((xr.length : Int) - 1) = ((rows.length - 1 : Nat) : Int) := by omega
    have e2 : ((xr.length : Int) - 1) + 1 = ((rows.length : Nat) : Int) := by omega
    have e3 : ((xr.length : Int) - 1) + 2 = ((rows.length + 1 : Nat) : Int) := by omega
    refine ⟨_, rfl, .inl ⟨rfl, xr, .of hra⟩, _, rfl, two_le, fun t1 ht1 => ?_⟩
    have s10 := Same.new (o := HO.tup [V.str "letter", V.int d9]) ht1
    have hrb := s10 _ _ hra
    refine ⟨lr, xr, _, rfl, rfl, hrb, by rw [lxr]; exact Nat.lt_of_le_of_lt (show rows.length ≤ 10 by omega) (by decide), ?_⟩
    have cb : Ch (fun x => x = b' ∨ x = lr) H9 (upd (upd Ha t1 (.tup [V.str "letter", V.int d9])) lr (.lst (xr ++ [.ref t1]))) := ((ca.mono fun _ z => .inl z).same s10).trans (Ch.put (.inr rfl) hrb (fun _ z => by cases z))
    have tb : TDs K (upd (upd Ha t1 (.tup [V.str "letter", V.int d9])) lr (.lst (xr ++ [.ref t1]))) (xr ++ [.ref t1]) ((rows ++ [Row.let_ d9]).map eRow) := by
      rw [List.map_append]
      refine (tdr8.up (c9.kp.trans cb.kp)).snoc (TD.up (Ch.put (S := fun _ => True) trivial hrb (fun _ z => by cases z)).kp (TD.of_let (k := d9) (.inl upd_same)))
    have bb' : BX (upd (upd Ha t1 (.tup [V.str "letter", V.int d9])) lr (.lst (xr ++ [.ref t1]))) b' := by
      obtain ⟨cc, sd, hb6, r⟩ := ba.same s10
      exact ⟨cc, sd, by rw [upd_ne nbr]; exact hb6, r⟩
    have hrc : (upd (upd Ha t1 (.tup [V.str "letter", V.int d9])) lr (.lst (xr ++ [.ref t1]))) lr = some (.lst (xr ++ [.ref t1])) := upd_same
    generalize upd (upd Ha t1 (.tup [V.str "letter", V.int d9])) lr (.lst (xr ++ [.ref t1])) = Hb at cb tb bb' hrc
    refine ⟨_, rfl, _, rfl, _, rfl, _, _, rfl, rfl, three_le, fun t2 ht2 => ⟨_, rfl, _, _, rfl, rfl, _, rfl, _, _, rfl, rfl, three_le, fun t3 ht3 => ⟨two_le, fun l hl => ?_⟩⟩⟩
    have s11 := Same.new (o := HO.tup [V.str "times", V.int ((xr.length : Int) - 1), V.int ((xr.length : Int) - 1 + 1)]) ht2
    have s12 := Same.new (o := HO.tup [V.str "over", V.int ((xr.length : Int) - 1 + 2), V.int ((xr.length : Int) - 1 + 1)]) ht3
    have s13 := Same.new (o := HO.lst [V.ref t2, V.ref t3]) hl
    refine ⟨lr, l, _, _, rfl, rfl, s13 _ _ (s12 _ _ (s11 _ _ hrc)), upd_same, by rw [List.length_append, lxr]; exact Nat.le_trans (show rows.length + 1 + 2 ≤ 10 by omega) (by decide), fun p hp => ?_⟩
    have s14 := Same.new (o := HO.lst (xr ++ [V.ref t1] ++ [V.ref t2, V.ref t3])) hp
    have s134 := L2.Same.trans s13 s14
    have s124 := L2.Same.trans s12 s134
    have s114 := L2.Same.trans s11 s124
    have q1 := s124 _ _ (upd_same (H := Hb) (a := t2) (o := HO.tup [V.str "times", V.int ((xr.length : Int) - 1), V.int ((xr.length : Int) - 1 + 1)]))
    have q2 := s134 t3 (HO.tup [V.str "over", V.int ((xr.length : Int) - 1 + 2), V.int ((xr.length : Int) - 1 + 1)]) upd_same
    have f1 : (HO.tup [V.str "times", V.int ((xr.length : Int) - 1), V.int ((xr.length : Int) - 1 + 1)]) = HO.tup [V.str (wdS .times), V.int ((rows.length - 1 : Nat) : Int), V.int (rows.length : Nat)] := by rw [e2, e1]; rfl
    have f2 : (HO.tup [V.str "over", V.int ((xr.length : Int) - 1 + 2), V.int ((xr.length : Int) - 1 + 1)]) = HO.tup [V.str (wdS .over), V.int ((rows.length + 1 : Nat) : Int), V.int (rows.length : Nat)] := by rw [e2, e3]; rfl
    have q1 := q1.trans (congrArg some f1)
    have q2 := q2.trans (congrArg some f2)
    have te := ((tb.up (.of s114)).snoc (TD.of_op (w := .times) (i := rows.length - 1) (j := rows.length) (.inl q1))).snoc (TD.of_op (w := .over) (i := rows.length + 1) (j := rows.length) (.inl q2))
    have em : ((rows ++ [Row.let_ d9]).map eRow ++ [eRow (.op .times (rows.length - 1) rows.length)]) ++ [eRow (.op .over (rows.length + 1) rows.length)] = (extR d9 rows).map eRow := by
      unfold extR
      rw [List.map_append (l₁ := (rows ++ [Row.let_ d9]) ++ [Row.op .times (rows.length - 1) rows.length]), List.map_append (l₁ := rows ++ [Row.let_ d9])]
      rfl
    rw [em] at te
    refine hn _ _ ⟨p, _, extR d9 rows, _, rfl, fun x u e => ?_, bb'.same s114, cb.kp.trans (.of s114), upd_same, ?_, OldOk.ext okn1 okn3 lp spt old r1 r7 good (by omega) nz⟩
    · exact s114 _ _ (cb.keep x u (fun z => z.elim (ne_of_none e hbH) (ne_of_none e hlrH)) (sH9 x u e))
    · rw [List.append_assoc (xr ++ [V.ref t1])] at te
      exact te
end
end U
set_option Elab.async false
set_option linter.all false
set_option maxRecDepth 100000
set_option maxHeartbeats 4000000
/-! _law_good. -/
namespace U
open PySem PySem.Spec PyProof.Rows L2
theorem ratP_ok {p : List Nat} {TT : Nat} (h : TT < 200) (hp : ∀ x ∈ p, x ≤ TT) : ∀ x ∈ ratP p, PtOk x := fun x hx => by
  unfold ratP at hx
  obtain ⟨n, hn, rfl⟩ := List.mem_map.mp hx
  have := hp n hn
  refine ⟨(n : Int) * 12, ?_, by omega⟩
  rw [Rat.intCast_mul]
  rfl
section
variable {P : Program} {w : World} {K : PySem.W.Frag} {mg : Str → Option Value} {base : Heap} {CN fI : Addr}
def spLGood (K : PySem.W.Frag) : Sp := fun vs H Q _ => ∃ (b : Addr) (v : V) (ls : List Str) (rows : List Row) (TT : Nat), vs = [.ref b, v] ∧ BX H b ∧ TD K H v (eRk ls rows) ∧ ls.length ≤ 3 ∧ Olds ls.length 5 rows ∧ rows.length ≤ 10 ∧ GoodOk ls.length rows TT ∧
  ∀ H' u pt, Ch (· = b) H H' → BX H' b → TD K H' u (.tuple (pt.map eF)) → pt.length = ls.length → (∀ x ∈ pt, PtOk x) → GoodTo pt rows rows.length → Q u H'
theorem sc_l_good : FnScope ["_law_box_here", "_law_reckoning", "_law_turn", "_law_point_here"] ["_law_box_here", "_law_reckoning"] (defScope s_l_good) := ⟨rfl, rfl, rfl, by decide +kernel, rfl, by decide +kernel, by decide +kernel⟩
theorem f_l_good (T : Txt K mg) (TN : NoOv K mg CN fI) : Cal P w K mg base 9 "_law_good" (spLGood K) := by
  refine cal_of T.a_l_good sc_l_good (fun _ _ _ _ _ _ us hl => match us, hl with | [_, _], _ => rfl) (fun vs H Q E h => ?_) (fun fa cdv A outer s H vs Q E hr h => ?_)
  · obtain ⟨_, _, _, _, _, rfl, _⟩ := h
    rfl
  · obtain ⟨b, v, ls, rows, TT, rfl, bx, hv, l3, old, r10, gok, q⟩ := h
    refine ⟨_, (pss_cons (ps_for PassesOwn.never rfl (pi_range1 (by rfl) T.b_range (pa_cons pe_int pa_nil)) (pg_name (i := 2) sc_l_good.nd rfl (Or.inl rfl))
(pss_cons (ps_set (i := 3) sc_l_good.nd rfl (Or.inl rfl) (pe_c (f_l_point T) hr (by decide) (by rfl) (pa_cons (pv 0) (pa_cons (pe_callB call_len_seq (by rfl) T.b_len PySem.boot_len (pa_cons (pe_ix ix_tup (pv 1) pe_int (fun _ _ => rfl)) pa_nil)) pa_nil))))
(pss_one (ps_if (pt_cmpR op_isN (pe_ix ix_tup (pe_c (f_l_run T) hr (by decide) (by rfl) (pa_cons (pv 1) (pa_cons (pv 3) pa_nil))) pe_int (fun _ _ => rfl)) pe_non (nomark _))
(pss_one (ps_ret (pv 3)))
pss_nil))))
(pss_one (ps_ret (pe_c (f_good_point T TN) hr (by decide) (by rfl) (pa_cons (pv 1) pa_nil))))), ?_⟩
    obtain ⟨ak, vl, vr, rfl, tk, tl, tr⟩ := hv.rk
    obtain ⟨al, xl, rfl, tql, tdl⟩ := tl.tup_inv
    obtain ⟨ar, xr, rfl, tqr, tdr⟩ := tr.tup_inv
    have ll : xl.length = ls.length := by rw [tdl.len, List.length_map]
    refine ⟨3, rfl, by omega, by omega, ?_⟩
    refine for_it (walk_range (lo := 0) (n := 3)) (fun i σ H1 => Ch (· = b) H H1 ∧ BX H1 b ∧ ∃ x2 x3, σ = [some (.ref b), some (.ref ak), x2, x3]) ?_ ?_ ?_ ?_
    · exact ⟨Ch.refl _ _, bx, _, _, rfl⟩
    · intro _ _ _ _ _; trivial
    · rintro i x σ H1' H1 hi ⟨c1, b1, x2, x3, rfl⟩ ⟨rfl, hx⟩
      refine ⟨_, rfl, _, rfl, _, _, _, _, rfl, rfl, (tk.up c1.kp).sq, a0, al, xl, rfl, .inr (tql.up c1.kp).sq, b, ls.length, by rw [ll]; rfl, b1, l3, fun H2 vp pt c2 b2 tp lp sp => ?_⟩
      have c12 := c1.trans c2
      refine ⟨_, rfl, _, rfl, ak, .ref al, .ref ar, vp, false, xr, rows, pt, rfl, tk.up c12.kp, ⟨ar, rfl, tqr.up c12.kp⟩, tdr.up c12.kp, tp, old_run old (by decide) r10 (fun x hx => (sp x hx).pt) lp, fun H3 p l o xv s3 hl tq hl3 g1 g2 => ?_⟩
      refine ⟨p, _, _, _, rfl, rfl, tq.sq, a1, rfl, _, rfl, ?_⟩
      cases o with
      | none =>
        have g : GoodTo pt rows rows.length := Classical.byContradiction fun ng => g2 ng rfl
        exact iteY (by decide +kernel) ⟨_, rfl, q _ _ pt (c12.same s3) (b2.same s3) (tp.up (.of s3)) lp (fun x hx => (sp x hx).pt) g⟩
      | some j => exact iteN rfl ⟨c12.same s3, b2.same s3, _, _, rfl⟩
    · rintro σ H1 ⟨c1, b1, x2, x3, rfl⟩
      refine ⟨_, rfl, .ref ak, ls, rows, TT, rfl, hv.up c1.kp, gok, fun H2 u p s2 lp pT gd tu => ?_⟩
      exact q _ u (ratP p) (c1.same s2) (b1.same s2) tu (by unfold ratP; rw [List.length_map]; exact lp) (fun x hx => ratP_ok gok.few pT x hx) gd
end
end U
set_option Elab.async false
set_option linter.all false
set_option maxRecDepth 100000
set_option maxHeartbeats 4000000
/-! The law's checks of what is told. -/
namespace U
open PySem PySem.Spec PyProof.Rows L2
theorem tyTq {K : PySem.W.Frag} {H : Hp} {a : Addr} {xs : List V} (h : Tq K H a xs) : TyX K H (.ref a) (.type "tuple") := by
  rcases h with h | h
  · exact .base (.tup h)
  · obtain ⟨o, its, n, e, c, _⟩ := h
    exact .kTuple e c
theorem all_true {J : It} {n : Nat} {G : Hp → Prop} {Y : Nat → Hp → V → Hp → Prop} (w : Walk J n G Y) {g : TG} {tt : TT} {te : TE} {vs : List Nat} {σ : L2.St} {H1 : Hp} {D : Addr} {Qd : Hp → Prop} (hD : H1 D = none) (hn : n < sizeLine) (hG : ∀ H, Same H1 H → G H)
    (hstep : ∀ i x H H', i < n → Same H1 H → Y i H x H' → ∀ (R : V → Hp → Prop) (N : Hp → Prop), (∀ H2, Same H H2 → R (.bl true) H2) → g x (wipe σ vs) H' fun σ2 H2 => wipe σ2 vs = wipe σ vs ∧ tt σ2 H2 fun b H3 => if b = true then te σ2 H3 R else N H3)
    (hd : ∀ H2, Same H1 H2 → H2 D = some (.lst ((List.replicate n true).map V.bl)) → Qd H2) :
    ∃ W : Nat → Nat → Hp → Prop, (∃ m, W 0 m (upd H1 D (.lst []))) ∧ ∀ i m H, W i m H →
      (J.stop i H ∧ Qd H) ∨ (J.go i H ∧ ∃ Nx : Hp → Prop, (∀ H', Nx H' → ∃ m', m' < m ∧ W (i + 1) m' H') ∧ ∀ x H', J.yld i H x H' → g x (wipe σ vs) H' fun σ2 H2 => wipe σ2 vs = wipe σ vs ∧ tt σ2 H2 fun b H3 =>
        if b = true then te σ2 H3 fun y H4 => ∃ acc, H4 D = some (.lst acc) ∧ acc.length < sizeLine ∧ Nx (upd H4 D (.lst (acc ++ [y]))) else Nx H3) := by
  refine lc_it w (fun i H => i ≤ n ∧ Ch (· = D) (upd H1 D (.lst [])) H ∧ H D = some (.lst ((List.replicate i true).map V.bl))) ⟨Nat.zero_le _, Ch.refl _ _, upd_same⟩ (fun i H _ ⟨_, c, _⟩ => hG H (sameNew hD c)) ?_ (fun H ⟨_, c, h⟩ => hd H (sameNew hD c) h)
  rintro i x H H' hi ⟨hle, c, h⟩ hy
  refine hstep i x H H' hi (sameNew hD c) hy _ _ fun H2 s2 => ⟨_, s2 _ _ h, by rw [List.length_map, List.length_replicate]; omega, by omega, (c.same s2).trans (Ch.put rfl (s2 _ _ h) (fun _ z => by cases z)), ?_⟩
  rw [upd_same, List.replicate_succ', List.map_append]
  rfl
theorem all_rep (n : Nat) : (List.replicate n true).all id = true := by
  induction n with
  | zero => rfl
  | succ n ih => rw [List.replicate_succ, List.all_cons, ih]; rfl
section
variable {P : Program} {w : World} {K : PySem.W.Frag} {mg : Str → Option Value} {base : Heap} {CN fI : Addr}
def spIntIs : Sp := fun vs H Q _ => ∃ i : Int, vs = [.int i] ∧ Q (.bl true) H
def N_l_number_is : List Str := ["_law_thing"]
theorem sc_l_number_is : FnScope ["_law_thing"] ["_law_thing"] (defScope s_l_number_is) := ⟨rfl, rfl, rfl, by decide +kernel, rfl, by decide +kernel, by decide +kernel⟩
theorem f_l_number_is (T : Txt K mg) : Cal P w K mg base 1 "_law_number_is" spIntIs := by
  refine cal_of T.a_l_number_is sc_l_number_is (fun _ _ _ _ _ _ us hl => match us, hl with | [_], _ => rfl) (fun vs H Q E h => ?_) (fun fa cdv A outer s H vs Q E hr h => ?_)
  · obtain ⟨_, rfl, _⟩ := h
    rfl
  · obtain ⟨i, rfl, q⟩ := h
    refine ⟨_, (pss_one (ps_ret (pe_and (pe_callB call_isi (by rfl) T.b_isinstance (by decide +kernel) (pa_cons (pv 0) (pa_cons (pe_bltn (v := .ty "int") (u := .type "int") (by rfl) T.b_int (by decide +kernel) rfl) pa_nil))) (pe_one (pe_not (pe_callB call_isi (by rfl) T.b_isinstance (by decide +kernel) (pa_cons (pv 0) (pa_cons (pe_bltn (v := .ty "bool") (u := .type "bool") (by rfl) T.b_bool (by decide +kernel) rfl) pa_nil)))))))), ?_⟩
    exact ⟨_, rfl, _, _, _, _, _, rfl, .ty _, .base (.int _), kit_ty (r := true) (by decide +kernel), _, rfl, iteY rfl ⟨_, rfl, _, _, _, _, _, rfl, .ty _, .base (.int _), kit_ty (r := false) (by decide +kernel), _, rfl, q⟩⟩
def spFracIs (K : PySem.W.Frag) : Sp := fun vs H Q _ => ∃ (v : V) (q : Rat), vs = [v] ∧ TD K H v (eF q) ∧ Sz 4400 q ∧ ∀ H', Same H H' → Q (.bl true) H'
def N_l_fraction_is : List Str := ["_law_thing"]
theorem sc_l_fraction_is : FnScope ["_law_thing"] ["_law_thing"] (defScope s_l_fraction_is) := ⟨rfl, rfl, rfl, by decide +kernel, rfl, by decide +kernel, by decide +kernel⟩
theorem f_l_fraction_is (T : Txt K mg) : Cal P w K mg base 3 "_law_fraction_is" (spFracIs K) := by
  refine cal_of T.a_l_fraction_is sc_l_fraction_is (fun _ _ _ _ _ _ us hl => match us, hl with | [_], _ => rfl) (fun vs H Q E h => ?_) (fun fa cdv A outer s H vs Q E hr h => ?_)
  · obtain ⟨_, _, rfl, _⟩ := h
    rfl
  · obtain ⟨v, q, rfl, hv, sz, Qq⟩ := h
    refine ⟨_, (pss_cons (ps_if (PW.pt (pw_or (pt_not (pt_val (pe_callB call_isi (by rfl) T.b_isinstance (by decide +kernel) (pa_cons (pv 0) (pa_cons (pe_bltn (v := .ty "tuple") (u := .type "tuple") (by rfl) T.b_tuple (by decide +kernel) rfl) pa_nil))))) (pw_or (pt_cmpR op_ne (pe_callB call_len_seq (by rfl) T.b_len PySem.boot_len (pa_cons (pv 0) pa_nil)) pe_int (nomark _)) (pw_or1 (pt_not (pt_val (pe_c (f_l_number_is T) hr (by decide) (by rfl) (pa_cons (pe_ix ix_tup (pv 0) pe_int (fun _ _ => rfl)) pa_nil))))))))
(pss_one (ps_ret pe_bl))
pss_nil)
(pss_one (ps_ret (pe_and (pe_c (f_l_number_is T) hr (by decide) (by rfl) (pa_cons (pe_ix ix_tup (pv 0) pe_int (fun _ _ => rfl)) pa_nil)) (pe_and (pe_cmpR op_gt (pe_ix ix_tup (pv 0) pe_int (fun _ _ => rfl)) pe_int (nomark _)) (pe_one (pe_cmpR (op_eqD (rhu hr)) (pe_c (f_l_fraction T) hr (by decide) (by rfl) (pa_cons (pe_ix ix_tup (pv 0) pe_int (fun _ _ => rfl)) (pa_cons (pe_ix ix_tup (pv 0) pe_int (fun _ _ => rfl)) pa_nil))) (pv 0) (nomark _)))))))), ?_⟩
    obtain ⟨a, rfl, ta⟩ := hv.fr
    have z9 : (q.den : Int).natAbs < 2 ^ 9000 := Nat.lt_of_lt_of_le sz.2 (Nat.pow_le_pow_right (by decide) (by decide))
    refine ⟨_, rfl, _, _, _, _, _, rfl, .ty _, tyTq ta, kit_ty (r := true) (by decide +kernel), _, rfl, iteN rfl ?_⟩
    refine ⟨_, rfl, a, _, rfl, .inr ta.sq, rfl, _, rfl, iteN rfl ?_⟩
    refine ⟨_, rfl, _, _, _, _, rfl, rfl, ta.sq, a0, _, rfl, _, rfl, iteN rfl ?_⟩
    refine ⟨_, rfl, _, _, _, _, rfl, rfl, ta.sq, a1, _, rfl, _, rfl, iteY rfl ?_⟩
    have dpos : 0 < (q.den : Int) := by have := q.den_pos; omega
    refine ⟨_, rfl, _, _, _, _, rfl, rfl, ta.sq, a1, _, _, rfl, rfl, _, rfl, iteY (decide_eq_true dpos) ?_⟩
    refine ⟨_, rfl, _, _, _, _, rfl, rfl, ta.sq, a0, _, rfl, _, _, _, _, rfl, rfl, ta.sq, a1, q.num, (q.den : Int), rfl, by omega, z9, fun H1 v1 s1 t1 => ?_⟩
    rw [Rat.num_divInt_den] at t1
    refine ⟨_, rfl, eF q, eF q, t1.dp, (hv.up (.of s1)).dp, shaped_eF _, shaped_eF _, ?_⟩
    rw [eqv_eF, decide_eq_true rfl]
    exact Qq _ s1
def spRowIs (K : PySem.W.Frag) : Sp := fun vs H Q _ => ∃ (v : V) (at_ n : Nat) (r : Row), vs = [v, .int at_, .int n] ∧ TD K H v (eRow r) ∧ RowWf n at_ r ∧ (∀ q, r = .num q → Sz 4400 q) ∧ (∀ a b, r ≠ .op .over a b) ∧ ∀ H', Same H H' → Q (.bl true) H'
def N_l_whole_row_is : List Str := ["_law_row", "_law_at", "_law_letters", "_law_part"]
theorem sc_l_whole_row_is : FnScope ["_law_row", "_law_at", "_law_letters", "_law_part"] ["_law_row", "_law_at", "_law_letters"] (defScope s_l_whole_row_is) := ⟨rfl, rfl, rfl, by decide +kernel, rfl, by decide +kernel, by decide +kernel⟩
theorem f_l_whole_row_is (T : Txt K mg) : Cal P w K mg base 4 "_law_whole_row_is" (spRowIs K) := by
  refine cal_of T.a_l_whole_row_is sc_l_whole_row_is (fun _ _ _ _ _ _ us hl => match us, hl with | [_, _, _], _ => rfl) (fun vs H Q E h => ?_) (fun fa cdv A outer s H vs Q E hr h => ?_)
  · obtain ⟨_, _, _, _, rfl, _⟩ := h
    rfl
  · obtain ⟨v, at_, n, r, rfl, hv, wf, sz, no, q⟩ := h
    refine ⟨_, (pss_cons (ps_if (PW.pt (pw_or (pt_not (pt_val (pe_callB call_isi (by rfl) T.b_isinstance (by decide +kernel) (pa_cons (pv 0) (pa_cons (pe_bltn (v := .ty "tuple") (u := .type "tuple") (by rfl) T.b_tuple (by decide +kernel) rfl) pa_nil))))) (pw_or (pt_cmpR op_lt (pe_callB call_len_seq (by rfl) T.b_len PySem.boot_len (pa_cons (pv 0) pa_nil)) pe_int (nomark _)) (pw_or1 (pt_not (pt_val (pe_callB call_isi (by rfl) T.b_isinstance (by decide +kernel) (pa_cons (pe_ix ix_tup (pv 0) pe_int (fun _ _ => rfl)) (pa_cons (pe_bltn (v := .ty "str") (u := .type "str") (by rfl) T.b_str (by decide +kernel) rfl) pa_nil)))))))))
(pss_one (ps_ret pe_bl))
pss_nil)
(pss_cons (ps_if (pt_cmpR op_eq (pe_ix ix_tup (pv 0) pe_int (fun _ _ => rfl)) pe_str (nomark _))
(pss_one (ps_ret (pe_and (pe_cmpR op_eq (pe_callB call_len_seq (by rfl) T.b_len PySem.boot_len (pa_cons (pv 0) pa_nil)) pe_int (nomark _)) (pe_one (pe_c (f_l_fraction_is T) hr (by decide) (by rfl) (pa_cons (pe_ix ix_tup (pv 0) pe_int (fun _ _ => rfl)) pa_nil))))))
pss_nil)
(pss_cons (ps_if (pt_not (pt_val (pe_callB (cr_all rfl) (by rfl) T.b_all (by decide +kernel) (pa_cons (pe_lc (own := [("_law_part", 3)]) (g := gName 3) (by rfl) sc_l_whole_row_is.nd (pi_tup (pe_slice sl_tupD (pv 0) (po_some pe_int) po_none)) (blkOk_by (N := N_l_whole_row_is) (sc := defScope s_l_whole_row_is) (by decide +kernel)) (fun _ _ _ _ _ => (pg_name (i := 3) sc_l_whole_row_is.nd rfl (Or.inl rfl))) (fun _ _ _ _ _ => pts_nil) (fun _ _ _ _ _ => (pe_and (pe_c (f_l_number_is T) hr (by decide) (by rfl) (pa_cons (pv 3) pa_nil)) (pe_one (pe_cmpR op_ge (pv 3) pe_int (nomark _)))))) pa_nil))))
(pss_one (ps_ret pe_bl))
pss_nil)
(pss_cons (ps_if (pt_cmpR op_eq (pe_ix ix_tup (pv 0) pe_int (fun _ _ => rfl)) pe_str (nomark _))
(pss_one (ps_ret (pe_and (pe_cmpR op_eq (pe_callB call_len_seq (by rfl) T.b_len PySem.boot_len (pa_cons (pv 0) pa_nil)) pe_int (nomark _)) (pe_one (pe_cmpR op_lt (pe_ix ix_tup (pv 0) pe_int (fun _ _ => rfl)) (pv 2) (nomark _))))))
pss_nil)
(pss_one (ps_ret (pe_and (pe_cmpR op_in_seq (pe_ix ix_tup (pv 0) pe_int (fun _ _ => rfl)) (pe_tup (pa_cons pe_str (pa_cons pe_str (pa_cons pe_str pa_nil)))) rfl) (pe_and (pe_cmpR op_eq (pe_callB call_len_seq (by rfl) T.b_len PySem.boot_len (pa_cons (pv 0) pa_nil)) pe_int (nomark _)) (pe_one (pe_cmpR op_lt (pe_callB (cr_maxT rfl (rhu100 hr)) (by rfl) T.b_max (by decide +kernel) (pa_cons (pe_slice sl_tupD (pv 0) (po_some pe_int) po_none) pa_nil)) (pv 1) (nomark _))))))))))), ?_⟩
    have dN : ∀ {b : Bool}, b = true → (!b) = false := fun h => by rw [h]; rfl
    cases r with
    | num qn =>
      obtain ⟨a, vf, rfl, ta, tf⟩ := hv.row_num
      refine ⟨_, rfl, _, _, _, _, _, rfl, .ty _, tyTq ta, kit_ty (r := true) (by decide +kernel), _, rfl, iteN rfl ?_⟩
      refine ⟨_, rfl, a, _, rfl, .inr ta.sq, _, _, rfl, rfl, _, rfl, iteN rfl ?_⟩
      refine ⟨_, rfl, _, _, _, _, rfl, rfl, ta.sq, a0, _, _, _, _, _, rfl, .ty _, .base (.str _), kit_ty (r := true) (by decide +kernel), _, rfl, iteN rfl ?_⟩
      refine ⟨_, rfl, _, _, _, _, rfl, rfl, ta.sq, a0, rfl, _, rfl, iteY (by decide +kernel) ?_⟩
      refine ⟨_, rfl, a, _, rfl, .inr ta.sq, rfl, _, rfl, iteY rfl ?_⟩
      exact ⟨_, rfl, _, _, _, _, rfl, rfl, ta.sq, a1, vf, qn, rfl, tf, sz qn rfl, fun H1 s1 => q _ s1⟩
    | let_ k =>
      obtain ⟨a, rfl, ta⟩ := hv.row_let
      refine ⟨_, rfl, _, _, _, _, _, rfl, .ty _, tyTq ta, kit_ty (r := true) (by decide +kernel), _, rfl, iteN rfl ?_⟩
      refine ⟨_, rfl, a, _, rfl, .inr ta.sq, _, _, rfl, rfl, _, rfl, iteN rfl ?_⟩
      refine ⟨_, rfl, _, _, _, _, rfl, rfl, ta.sq, a0, _, _, _, _, _, rfl, .ty _, .base (.str _), kit_ty (r := true) (by decide +kernel), _, rfl, iteN rfl ?_⟩
      refine ⟨_, rfl, _, _, _, _, rfl, rfl, ta.sq, a0, rfl, _, rfl, iteN (by decide +kernel) ?_⟩
      refine ⟨_, rfl, _, rfl, a, _, rfl, ta, fun H1 p1 s1 tp1 => ⟨p1, rfl, ⟨_, tp1.sq⟩, fun D hD => ?_⟩⟩
      rw [cut_tail] at tp1
      have hk0 : ∀ (i : Nat) (x : V), [V.int (k : Nat)][i]? = some x → ∃ z : Nat, x = .int z := fun i x e => by
        match i, e with
        | 0, e => injection e with e; exact ⟨k, e.symm⟩
      refine all_true (walk_tup (xs := [V.int (k : Nat)])) hD (show 1 < sizeLine by decide) (fun H s => (tp1.up (.of s)).sq) (fun i x Hx Hx' hi sx hy R N hR => ?_) fun H2 s2 hD2 => ?_
      · obtain ⟨rfl, ex⟩ := hy
        obtain ⟨z, rfl⟩ := hk0 i x ex
        exact ⟨rfl, _, rfl, z, rfl, _, rfl, iteY rfl ⟨_, rfl, _, _, rfl, rfl, by show R (.bl (decide ((0 : Int) ≤ (z : Int)))) _; rw [decide_eq_true (show (0 : Int) ≤ (z : Int) by omega)]; exact hR _ (same_rfl _)⟩⟩
      · refine ⟨D, [true], rfl, .of hD2, _, rfl, iteN rfl ?_⟩
        have ta2 := ta.up ((Kp.of s1).trans (.of s2))
        refine ⟨_, rfl, _, _, _, _, rfl, rfl, ta2.sq, a0, rfl, _, rfl, iteY (by decide +kernel) ?_⟩
        refine ⟨_, rfl, a, _, rfl, .inr ta2.sq, rfl, _, rfl, iteY rfl ?_⟩
        have e : decide (((k : Nat) : Int) < ((n : Nat) : Int)) = true := decide_eq_true (by have : k < n := wf; omega)
        refine ⟨_, rfl, _, _, _, _, rfl, rfl, ta2.sq, a1, _, rfl, _, _, rfl, rfl, ?_⟩
        show Q (.bl (decide (((k : Nat) : Int) < ((n : Nat) : Int)))) H2
        rw [e]
        exact q _ (L2.Same.trans s1 s2)
    | op wd i j =>
      obtain ⟨a, rfl, ta⟩ := hv.row_op
      obtain ⟨hi, hj⟩ := wf
      have nL : decide (V.str (wdS wd) = V.str "letter") = false := by cases wd <;> decide +kernel
      have nN : decide (V.str (wdS wd) = V.str "number") = false := by cases wd <;> decide +kernel
      refine ⟨_, rfl, _, _, _, _, _, rfl, .ty _, tyTq ta, kit_ty (r := true) (by decide +kernel), _, rfl, iteN rfl ?_⟩
      refine ⟨_, rfl, a, _, rfl, .inr ta.sq, _, _, rfl, rfl, _, rfl, iteN rfl ?_⟩
      refine ⟨_, rfl, _, _, _, _, rfl, rfl, ta.sq, a0, _, _, _, _, _, rfl, .ty _, .base (.str _), kit_ty (r := true) (by decide +kernel), _, rfl, iteN rfl ?_⟩
      refine ⟨_, rfl, _, _, _, _, rfl, rfl, ta.sq, a0, rfl, _, rfl, iteN nN ?_⟩
      refine ⟨_, rfl, _, rfl, a, _, rfl, ta, fun H1 p1 s1 tp1 => ⟨p1, rfl, ⟨_, tp1.sq⟩, fun D hD => ?_⟩⟩
      rw [cut_tail] at tp1
      have hk0 : ∀ (m : Nat) (x : V), [V.int (i : Nat), V.int (j : Nat)][m]? = some x → ∃ z : Nat, x = .int z := fun m x e => by
        match m, e with
        | 0, e => injection e with e; exact ⟨i, e.symm⟩
        | 1, e => injection e with e; exact ⟨j, e.symm⟩
      refine all_true (walk_tup (xs := [V.int (i : Nat), V.int (j : Nat)])) hD (show 2 < sizeLine by decide) (fun H s => (tp1.up (.of s)).sq) (fun m x Hx Hx' hi sx hy R N hR => ?_) fun H2 s2 hD2 => ?_
      · obtain ⟨rfl, ex⟩ := hy
        obtain ⟨z, rfl⟩ := hk0 m x ex
        exact ⟨rfl, _, rfl, z, rfl, _, rfl, iteY rfl ⟨_, rfl, _, _, rfl, rfl, by show R (.bl (decide ((0 : Int) ≤ (z : Int)))) _; rw [decide_eq_true (show (0 : Int) ≤ (z : Int) by omega)]; exact hR _ (same_rfl _)⟩⟩
      · refine ⟨D, [true, true], rfl, .of hD2, _, rfl, iteN rfl ?_⟩
        have ta2 := ta.up ((Kp.of s1).trans (.of s2))
        refine ⟨_, rfl, _, _, _, _, rfl, rfl, ta2.sq, a0, rfl, _, rfl, iteN nL ?_⟩
        refine ⟨_, rfl, _, _, _, _, rfl, rfl, ta2.sq, a0, three_le, fun t ht => ?_⟩
        have s3 := Same.new (o := HO.tup [V.str "plus", V.str "less", V.str "times"]) ht
        have ew : inV (V.str (wdS wd)) [V.str "plus", V.str "less", V.str "times"] = true := by
          cases wd with
          | over => exact absurd rfl (no i j)
          | _ => decide +kernel
        refine ⟨t, _, rfl, .inr (Tq.sq (.inl upd_same)), rfl, rfl, _, rfl, iteY ew ?_⟩
        have ta3 := ta2.up (.of s3)
        refine ⟨_, rfl, a, _, rfl, .inr ta3.sq, rfl, _, rfl, iteY rfl ?_⟩
        refine ⟨_, rfl, _, rfl, a, _, rfl, ta3, fun H4 p4 s4 tp4 => ?_⟩
        rw [cut_tail] at tp4
        refine ⟨p4, _, _, rfl, tp4.sq, _, rfl, _, _, rfl, rfl, ?_⟩
        have e : decide ((if ((i : Nat) : Int) < ((j : Nat) : Int) then ((j : Nat) : Int) else ((i : Nat) : Int)) < ((at_ : Nat) : Int)) = true := decide_eq_true (by split <;> omega)
        show Q (.bl (decide ((if ((i : Nat) : Int) < ((j : Nat) : Int) then ((j : Nat) : Int) else ((i : Nat) : Int)) < ((at_ : Nat) : Int)))) H4
        rw [e]
        exact q _ (L2.Same.trans s1 (L2.Same.trans s2 (L2.Same.trans s3 s4)))
end
end U
set_option Elab.async false
set_option linter.all false
set_option maxRecDepth 100000
set_option maxHeartbeats 4000000
/-! The law's checks of a reckoning and of a paper. -/
namespace U
open PySem PySem.Spec PyProof.Rows L2
theorem call_len_seqB {X : Cx} {K : PySem.W.Frag} (hK : X.K = K) : CallR X (.builtin "len") (fun xs H Q => ∃ p ys, xs = [.ref p] ∧ (SqL K H p ys ∨ SqT K H p ys) ∧ Q (.int ys.length) H) := by subst hK; exact call_len_seq
theorem lay_strs {ls : List Str} (h : ∀ z ∈ ls, SOk z) : PyData.canLayAll0 (ls.map PyData.str) = true := by
  induction ls with
  | nil => rfl
  | cons z ls ih =>
    rw [List.map_cons, PyData.canLayAll0, h z (List.mem_cons_self ..), ih fun x hx => h x (List.mem_cons_of_mem _ hx)]
    rfl
theorem depth_strs (ls : List Str) : PyData.depthAll (ls.map PyData.str) = 0 := by
  induction ls with
  | nil => rfl
  | cons z ls ih => rw [List.map_cons, PyData.depthAll, ih]; rfl
theorem shaped_strs {ls : List Str} (h : ∀ z ∈ ls, SOk z) : SeqAt.shaped (.tuple (ls.map PyData.str)) = true := by
  unfold SeqAt.shaped
  rw [PyData.canLay0, lay_strs h, PyData.depth, depth_strs]
  rfl
section
variable {P : Program} {w : World} {K : PySem.W.Frag} {mg : Str → Option Value} {base : Heap} {CN fI : Addr}
def spWholeIs (K : PySem.W.Frag) : Sp := fun vs H Q _ => ∃ (v vl : V) (ls : List Str) (rows : List Row), vs = [v, vl] ∧ TD K H v (eRk ls rows) ∧ TD K H vl (.tuple (ls.map .str)) ∧ (∀ z ∈ ls, SOk z) ∧ rows ≠ [] ∧ rows.length < sizeLine ∧
  (∀ i r, rows[i]? = some r → RowWf ls.length i r ∧ (∀ q, r = .num q → Sz 4400 q) ∧ ∀ a b, r ≠ .op .over a b) ∧ ∀ H', Same H H' → Q (.bl true) H'
def N_l_whole_is : List Str := ["_law_thing", "_law_letters", "_law_at", "_law_row"]
theorem sc_l_whole_is : FnScope ["_law_thing", "_law_letters", "_law_at", "_law_row"] ["_law_thing", "_law_letters"] (defScope s_l_whole_is) := ⟨rfl, rfl, rfl, by decide +kernel, rfl, by decide +kernel, by decide +kernel⟩
theorem f_l_whole_is (T : Txt K mg) : Cal P w K mg base 5 "_law_whole_is" (spWholeIs K) := by
  refine cal_of T.a_l_whole_is sc_l_whole_is (fun _ _ _ _ _ _ us hl => match us, hl with | [_, _], _ => rfl) (fun vs H Q E h => ?_) (fun fa cdv A outer s H vs Q E hr h => ?_)
  · obtain ⟨_, _, _, _, rfl, _⟩ := h
    rfl
  · obtain ⟨v, vl, ls, rows, rfl, hv, hl, sok, ne, lz, ok, q⟩ := h
    refine ⟨_, (pss_cons (ps_if (PW.pt (pw_or (pt_not (pt_val (pe_callB call_isi (by rfl) T.b_isinstance (by decide +kernel) (pa_cons (pv 0) (pa_cons (pe_bltn (v := .ty "tuple") (u := .type "tuple") (by rfl) T.b_tuple (by decide +kernel) rfl) pa_nil))))) (pw_or (pt_cmpR op_ne (pe_callB call_len_seq (by rfl) T.b_len PySem.boot_len (pa_cons (pv 0) pa_nil)) pe_int (nomark _)) (pw_or (pt_cmpR (op_neD (rhu hr)) (pe_ix ix_tup (pv 0) pe_int (fun _ _ => rfl)) (pv 1) (nomark _)) (pw_or1 (pt_not (pt_val (pe_callB call_isi (by rfl) T.b_isinstance (by decide +kernel) (pa_cons (pe_ix ix_tup (pv 0) pe_int (fun _ _ => rfl)) (pa_cons (pe_bltn (v := .ty "tuple") (u := .type "tuple") (by rfl) T.b_tuple (by decide +kernel) rfl) pa_nil))))))))))
(pss_one (ps_ret pe_bl))
pss_nil)
(pss_cons (ps_if (pt_cmpR op_eq (pe_callB call_len_seq (by rfl) T.b_len PySem.boot_len (pa_cons (pe_ix ix_tup (pv 0) pe_int (fun _ _ => rfl)) pa_nil)) pe_int (nomark _))
(pss_one (ps_ret pe_bl))
pss_nil)
(pss_one (ps_ret (pe_callB (cr_all rfl) (by rfl) T.b_all (by decide +kernel) (pa_cons (pe_lc (own := [("_law_at", 2), ("_law_row", 3)]) (by rfl) sc_l_whole_is.nd (pi_enumT (by rfl) T.b_enumerate (pa_cons (pe_ix ix_tup (pv 0) pe_int (fun _ _ => rfl)) pa_nil)) (blkOk_by (N := N_l_whole_is) (sc := defScope s_l_whole_is) (by decide +kernel)) (fun _ _ _ _ _ => (pg_tupB (K := K) (n := 2) rfl (by rfl) (pgs_cons (pg_name (i := 2) sc_l_whole_is.nd rfl (Or.inl rfl)) (pgs_cons (pg_name (i := 3) sc_l_whole_is.nd rfl (Or.inl rfl)) pgs_nil)))) (fun _ _ _ _ _ => pts_nil) (fun _ _ _ _ _ => (pe_c (f_l_whole_row_is T) hr (by decide) (by rfl) (pa_cons (pv 3) (pa_cons (pv 2) (pa_cons (pe_callB (call_len_seqB (K := K) rfl) (by rfl) T.b_len PySem.boot_len (pa_cons (pv 1) pa_nil)) pa_nil)))))) pa_nil)))))), ?_⟩
    obtain ⟨ak, vl2, vr, rfl, tk, tl, tr⟩ := hv.rk
    obtain ⟨ar, xr, rfl, tqr, tdr⟩ := tr.tup_inv
    obtain ⟨al, xl, rfl, tql, tdl⟩ := hl.tup_inv
    have lxr : xr.length = rows.length := by rw [tdr.len, List.length_map]
    have lxl : xl.length = ls.length := by rw [tdl.len, List.length_map]
    have pos : 0 < rows.length := List.length_pos_iff.mpr ne
    refine ⟨_, rfl, _, _, _, _, _, rfl, .ty _, tyTq tk, kit_ty (r := true) (by decide +kernel), _, rfl, iteN rfl ?_⟩
    refine ⟨_, rfl, ak, _, rfl, .inr tk.sq, rfl, _, rfl, iteN rfl ?_⟩
    refine ⟨_, rfl, _, _, _, _, rfl, rfl, tk.sq, a0, _, rfl, _, _, tl.dp, hl.dp, shaped_strs sok, shaped_strs sok, _, rfl, iteN (by rw [SeqAt.eqv_refl _ (SeqAt.canLay_of_shaped (shaped_strs sok))]; rfl) ?_⟩
    refine ⟨_, rfl, _, _, _, _, rfl, rfl, tk.sq, a1, _, _, _, _, _, rfl, .ty _, tyTq tqr, kit_ty (r := true) (by decide +kernel), _, rfl, iteN rfl ?_⟩
    refine ⟨_, rfl, _, _, _, _, rfl, rfl, tk.sq, a1, ar, _, rfl, .inr tqr.sq, rfl, _, rfl, iteN (decide_eq_false fun z => by injection z with z; omega) ?_⟩
    refine ⟨_, rfl, _, _, _, _, rfl, rfl, tk.sq, a1, ar, xr, rfl, tqr.sq, fun D hD => ?_⟩
    refine all_true (walk_enumT (xs := xr)) hD (by omega) (fun H s => (tqr.up (.of s)).sq) (fun i x Hx Hx' hi sx hy R N hR => ?_) fun H2 s2 hD2 => ?_
    · obtain ⟨tp, u1, u2, rfl, htp, rfl, e1, e2⟩ := hy
      cases e1
      obtain ⟨d, ed, td⟩ := tdr.get' e2
      rw [List.getElem?_map] at ed
      obtain ⟨r, er, rfl⟩ := Option.map_eq_some_iff.mp ed
      obtain ⟨o1, o2, o3⟩ := ok i r er
      have s3 : Same Hx (upd Hx tp (.tup [.int i, u2])) := Same.new htp
      have s03 := L2.Same.trans sx s3
      refine ⟨tp, _, rfl, Tq.sq (.inl upd_same), rfl, _, _, rfl, _, _, rfl, rfl, rfl, ?_⟩
      refine ⟨_, rfl, _, rfl, _, rfl, al, xl, rfl, .inr (tql.up (.of s03)).sq, u2, i, ls.length, r, by rw [lxl]; rfl, td.up (.of s03), o1, o2, o3, fun H4 s4 => hR _ (L2.Same.trans s3 s4)⟩
    · exact ⟨D, List.replicate xr.length true, rfl, .of hD2, by rw [all_rep]; exact q _ s2⟩
def spPaperIs (K : PySem.W.Frag) : Sp := fun vs H Q _ => ∃ (v v2 : V) (ls : List Str) (rows : List Row) (ps : List (Option Mark)), vs = [v, v2] ∧ TD K H v (.tuple (ps.map eOM)) ∧ TD K H v2 (eRk ls rows) ∧ ps.length = rows.length ∧ ps.length < sizeLine ∧ ∀ H', Same H H' → Q (.bl true) H'
def N_l_paper_is : List Str := ["_law_paper", "_law_new", "_law_mark", "_law_one"]
theorem sc_l_paper_is : FnScope ["_law_paper", "_law_new", "_law_mark", "_law_one"] ["_law_paper", "_law_new"] (defScope s_l_paper_is) := ⟨rfl, rfl, rfl, by decide +kernel, rfl, by decide +kernel, by decide +kernel⟩
theorem f_l_paper_is (T : Txt K mg) : Cal P w K mg base 4 "_law_paper_is" (spPaperIs K) := by
  refine cal_of T.a_l_paper_is sc_l_paper_is (fun _ _ _ _ _ _ us hl => match us, hl with | [_, _], _ => rfl) (fun vs H Q E h => ?_) (fun fa cdv A outer s H vs Q E hr h => ?_)
  · obtain ⟨_, _, _, _, _, rfl, _⟩ := h
    rfl
  · obtain ⟨v, v2, ls, rows, ps, rfl, hv, h2, lp, lz, q⟩ := h
    refine ⟨_, (pss_cons (ps_if (PW.pt (pw_or (pt_not (pt_val (pe_callB call_isi (by rfl) T.b_isinstance (by decide +kernel) (pa_cons (pv 0) (pa_cons (pe_bltn (v := .ty "tuple") (u := .type "tuple") (by rfl) T.b_tuple (by decide +kernel) rfl) pa_nil))))) (pw_or1 (pt_cmpR op_ne (pe_callB call_len_seq (by rfl) T.b_len PySem.boot_len (pa_cons (pv 0) pa_nil)) (pe_callB call_len_seq (by rfl) T.b_len PySem.boot_len (pa_cons (pe_ix ix_tup (pv 1) pe_int (fun _ _ => rfl)) pa_nil)) (nomark _)))))
(pss_one (ps_ret pe_bl))
pss_nil)
(pss_cons (ps_for PassesOwn.never rfl (pi_tup (pv 0)) (pg_name (i := 2) sc_l_paper_is.nd rfl (Or.inl rfl))
(pss_one (ps_if (pt_cmpR op_notN (pv 2) pe_non (nomark _))
(pss_one (ps_if (PW.pt (pw_or (pt_not (pt_val (pe_callB call_isi (by rfl) T.b_isinstance (by decide +kernel) (pa_cons (pv 2) (pa_cons (pe_bltn (v := .ty "tuple") (u := .type "tuple") (by rfl) T.b_tuple (by decide +kernel) rfl) pa_nil))))) (pw_or (pt_cmpR op_ne (pe_callB call_len_seq (by rfl) T.b_len PySem.boot_len (pa_cons (pv 2) pa_nil)) pe_int (nomark _)) (pw_or1 (pt_not (pt_val (pe_callB (cr_all rfl) (by rfl) T.b_all (by decide +kernel) (pa_cons (pe_lc (own := [("_law_one", 3)]) (g := gName 3) (by rfl) sc_l_paper_is.nd (pi_tup (pv 2)) (blkOk_by (N := N_l_paper_is) (sc := defScope s_l_paper_is) (by decide +kernel)) (fun _ _ _ _ _ => (pg_name (i := 3) sc_l_paper_is.nd rfl (Or.inl rfl))) (fun _ _ _ _ _ => pts_nil) (fun _ _ _ _ _ => (pe_c (f_l_number_is T) hr (by decide) (by rfl) (pa_cons (pv 3) pa_nil)))) pa_nil))))))))
(pss_one (ps_ret pe_bl))
pss_nil))
pss_nil)))
(pss_one (ps_ret pe_bl)))), ?_⟩
    obtain ⟨ak, vl2, vr, rfl, tk, tl, tr⟩ := h2.rk
    obtain ⟨ar, xr, rfl, tqr, tdr⟩ := tr.tup_inv
    obtain ⟨ap, xp, rfl, tqp, tdp⟩ := hv.tup_inv
    have lxr : xr.length = rows.length := by rw [tdr.len, List.length_map]
    have lxp : xp.length = ps.length := by rw [tdp.len, List.length_map]
    refine ⟨_, rfl, _, _, _, _, _, rfl, .ty _, tyTq tqp, kit_ty (r := true) (by decide +kernel), _, rfl, iteN rfl ?_⟩
    refine ⟨_, rfl, ap, _, rfl, .inr tqp.sq, _, rfl, _, _, _, _, rfl, rfl, tk.sq, a1, ar, _, rfl, .inr tqr.sq, rfl, _, rfl, iteN (by rw [decide_eq_true (show V.int (xp.length : Nat) = V.int (xr.length : Nat) by rw [lxp, lxr, lp])]; rfl) ?_⟩
    refine ⟨_, rfl, ap, rfl, ⟨xp, tqp.sq⟩, ?_⟩
    refine for_it (walk_tup (xs := xp)) (fun i σ H1 => Same H H1 ∧ ∃ x2 x3, σ = [some (.ref ap), some (.ref ak), x2, x3]) ?_ ?_ ?_ ?_
    · exact ⟨same_rfl _, _, _, rfl⟩
    · rintro i σ H1 _ ⟨s1, _⟩
      exact (tqp.up (.of s1)).sq
    · rintro i x σ H1' H1 hi ⟨s1, x2, x3, rfl⟩ ⟨rfl, ex⟩
      obtain ⟨d, ed, td⟩ := (tdp.up (.of s1)).get' ex
      rw [List.getElem?_map] at ed
      obtain ⟨om, em, rfl⟩ := Option.map_eq_some_iff.mp ed
      cases om with
      | none =>
        have hx : x = .non := by cases td; rfl
        subst hx
        exact ⟨_, rfl, rfl, _, rfl, iteN rfl ⟨s1, _, _, rfl⟩⟩
      | some m =>
        obtain ⟨a, rfl, ta⟩ := TD.mk (m := m) td
        refine ⟨_, rfl, rfl, _, rfl, iteY rfl ?_⟩
        refine ⟨_, rfl, _, _, _, _, _, rfl, .ty _, tyTq ta, kit_ty (r := true) (by decide +kernel), _, rfl, iteN rfl ?_⟩
        refine ⟨_, rfl, a, _, rfl, .inr ta.sq, rfl, _, rfl, iteN rfl ?_⟩
        refine ⟨_, rfl, a, rfl, ⟨_, ta.sq⟩, fun D hD => ?_⟩
        have hk0 : ∀ (i : Nat) (x : V), [V.int m.1, V.int m.2][i]? = some x → ∃ z : Int, x = .int z := fun i x e => by
          match i, e with
          | 0, e => injection e with e; exact ⟨_, e.symm⟩
          | 1, e => injection e with e; exact ⟨_, e.symm⟩
        refine all_true (walk_tup (xs := [V.int m.1, V.int m.2])) hD (show 2 < sizeLine by decide) (fun H s => (ta.up (.of s)).sq) (fun m x Hx Hx' hi sx hy R N hR => ?_) fun H2 s2 hD2 => ?_
        · obtain ⟨rfl, ex⟩ := hy
          obtain ⟨z, rfl⟩ := hk0 m x ex
          exact ⟨rfl, _, rfl, z, rfl, hR _ (same_rfl _)⟩
        · exact ⟨D, [true, true], rfl, .of hD2, _, rfl, iteN rfl ⟨L2.Same.trans s1 s2, _, _, rfl⟩⟩
    · rintro σ H1 ⟨s1, x2, x3, rfl⟩
      exact q _ s1
end
end U
set_option Elab.async false
set_option linter.all false
set_option maxRecDepth 100000
set_option maxHeartbeats 4000000
/-! law. -/
namespace U
open PySem PySem.Spec PyProof.Rows L2
/-- what the plain laws say -/
structure NewOk (n : Nat) (rows : List Row) (M : Mkr) : Prop where
  ne : M.rows ≠ []
  few : M.rows.length < sizeLine
  each : ∀ i r, M.rows[i]? = some r → RowWf n i r ∧ (∀ q, r = .num q → Sz 4400 q) ∧ ∀ a b, r ≠ .op .over a b
  paper : M.paper.length = M.rows.length
  run : ∀ pt : List Rat, pt.length = n → (∀ x ∈ pt, SmOk x) → RunOk pt M.rows
  last : ∀ pt : List Rat, pt.length = n → (∀ x ∈ pt, SmOk x) → GoodTo pt rows rows.length → (valsF pt M.rows).getD (M.rows.length - 1) 0 = (valsF pt rows).getD (rows.length - 1) 0
structure Plain : Prop where
  good : ∀ n pts rows, OldOk n pts rows → ∃ TT, GoodOk n rows TT
  und : ∀ n pts rows (pt : List Rat) (most : Nat), OldOk n pts rows → pt.length = n → (∀ x ∈ pt, PtOk x) → GoodTo pt rows rows.length → (most = 4 ∨ most = 5) → UndOk rows pt most ∧ NewOk n rows (undF rows pt most)
theorem lay_all {ds : List PyData} (h : ∀ d ∈ ds, PyData.canLay0 d = true) : PyData.canLayAll0 ds = true := by
  induction ds with
  | nil => rfl
  | cons d ds ih => rw [PyData.canLayAll0, h d (List.mem_cons_self ..), ih fun x hx => h x (List.mem_cons_of_mem _ hx)]; rfl
theorem depth_allX {ds : List PyData} {n : Nat} (h : ∀ d ∈ ds, PyData.depth d ≤ n) : PyData.depthAll ds ≤ n := by
  induction ds with
  | nil => exact Nat.zero_le _
  | cons d ds ih =>
    rw [PyData.depthAll]
    have h1 := h d (List.mem_cons_self ..)
    have h2 := ih fun x hx => h x (List.mem_cons_of_mem _ hx)
    omega
theorem lay_row (r : Row) : PyData.canLay0 (eRow r) = true ∧ PyData.depth (eRow r) ≤ 2 := by
  cases r with
  | num q => exact ⟨(by simp only [eRow, eF, wdS, PyData.canLay0, PyData.canLayAll0, Bool.and_true]; decide +kernel), Nat.le_refl _⟩
  | let_ k => exact ⟨(by simp only [eRow, eF, wdS, PyData.canLay0, PyData.canLayAll0, Bool.and_true]; decide +kernel), (show 1 ≤ 2 by decide)⟩
  | op w i j => cases w <;> exact ⟨(by simp only [eRow, eF, wdS, PyData.canLay0, PyData.canLayAll0, Bool.and_true]; decide +kernel), (show 1 ≤ 2 by decide)⟩
theorem lay_om (m : Option Mark) : PyData.canLay0 (eOM m) = true ∧ PyData.depth (eOM m) ≤ 2 := by
  cases m with
  | none => exact ⟨rfl, Nat.zero_le _⟩
  | some m => exact ⟨rfl, (show 1 ≤ 2 by decide)⟩
theorem atI_last {α : Type} {xs : List α} {x : α} (h : 0 < xs.length) (e : xs[xs.length - 1]? = some x) : atI xs (-1) = some x := by
  unfold atI ixN
  rw [if_neg (by decide), if_pos (by omega)]
  show xs[((-1 : Int) + (xs.length : Nat)).toNat]? = _
  rw [show ((-1 : Int) + (xs.length : Nat)).toNat = xs.length - 1 by omega]
  exact e
theorem no_over_good {pt : List Rat} {rows : List Row} (h : ∀ (i : Nat) (r : Row), rows[i]? = some r → ∀ a b, r ≠ Row.op .over a b) : GoodTo pt rows rows.length := fun j r _ e => by
  cases r with
  | num q => rfl
  | let_ k => rfl
  | op w a b => cases w with
    | over => exact absurd rfl (h j _ e a b)
    | _ => rfl
theorem und_inv {K : PySem.W.Frag} {H : Hp} {v : V} {ls : List Str} {M : Mkr} (h : TD K H v (eUnd ls M)) : ∃ a v1 v2, v = .ref a ∧ Tq K H a [v1, v2] ∧ TD K H v1 (eRk ls M.rows) ∧ TD K H v2 (.tuple (M.paper.map eOM)) := by
  obtain ⟨a, xs, rfl, ht, hs⟩ := h.tup_inv
  cases hs with
  | cons h1 hs => cases hs with
    | cons h2 hs => cases hs with
      | nil => exact ⟨a, _, _, rfl, ht, h1, h2⟩
theorem shaped_und {ls : List Str} (h : ∀ z ∈ ls, SOk z) (M : Mkr) : SeqAt.shaped (eUnd ls M) = true := by
  have e1 : PyData.canLayAll0 (M.rows.map eRow) = true := lay_all fun d hd => by
    obtain ⟨r, _, rfl⟩ := List.mem_map.mp hd
    exact (lay_row r).1
  have e2 : PyData.canLayAll0 (M.paper.map eOM) = true := lay_all fun d hd => by
    obtain ⟨r, _, rfl⟩ := List.mem_map.mp hd
    exact (lay_om r).1
  have d1 : PyData.depthAll (M.rows.map eRow) ≤ 2 := depth_allX fun d hd => by
    obtain ⟨r, _, rfl⟩ := List.mem_map.mp hd
    exact (lay_row r).2
  have d2 : PyData.depthAll (M.paper.map eOM) ≤ 2 := depth_allX fun d hd => by
    obtain ⟨r, _, rfl⟩ := List.mem_map.mp hd
    exact (lay_om r).2
  unfold SeqAt.shaped eUnd eRk
  simp only [PyData.canLay0, PyData.canLayAll0, PyData.depth, PyData.depthAll, lay_strs h, e1, e2, depth_strs, Bool.and_true, Bool.true_and, decide_eq_true_eq]
  omega
section
variable {P : Program} {w : World} {K : PySem.W.Frag} {mg : Str → Option Value} {base : Heap} {CN fI CM CR : Addr}
def spLaw (K : PySem.W.Frag) : Sp := fun vs H Q _ => ∃ (sl : Addr) (ns : List Int), vs = [.ref sl] ∧ SqL K H sl (ns.map V.int) ∧ ns.length ≤ 63 ∧ ∀ H', Q (.bl true) H'
def N_law : List Str := ["_law_script", "_law_old_here", "_law_point_here", "_law_box_here", "_law_most", "_law_other", "_law_first", "_law_told", "_law_turn", "_law_place", "_law_values", "_law_at"]
theorem sc_law : FnScope ["_law_script", "_law_old_here", "_law_point_here", "_law_box_here", "_law_most", "_law_other", "_law_first", "_law_told", "_law_turn", "_law_place", "_law_values", "_law_at"] ["_law_script"] (defScope s_law) := ⟨rfl, rfl, rfl, by decide +kernel, rfl, by decide +kernel, by decide +kernel⟩
theorem law_b (T : Txt K mg) (TN : NoOv K mg CN fI) (TM : MkrT K mg CM) (TR : RulT K mg CR) (PL : Plain) (fa : Addr) (cdv : Value) (A : Around) (outer : List Env) (s : Shared) (H : Hp) (vs : List V) (Q : VK) (E : XK) (hr : Room 11 (A.deeper (envOfC "law" (defScope s_law) s.heap.objs.size fa cdv))) (h : spLaw K vs H Q E) :
    ∃ t, PSs (cxOf CX0 P w K mg base ["_law_script", "_law_old_here", "_law_point_here", "_law_box_here", "_law_most", "_law_other", "_law_first", "_law_told", "_law_turn", "_law_place", "_law_values", "_law_at"] "law" (defScope s_law) fa cdv A outer s H E).nox (defBody s_law) t ∧ t { nx := fun _ H' => Q .non H', rt := Q } (start ["_law_script", "_law_old_here", "_law_point_here", "_law_box_here", "_law_most", "_law_other", "_law_first", "_law_told", "_law_turn", "_law_place", "_law_values", "_law_at"] vs) H := by
  · obtain ⟨sl, ns, rfl, hs, hn, q⟩ := h
    refine ⟨_, (pss_cons (ps_asg (pe_c (f_l_old T) hr (by decide) (by rfl) (pa_cons (pv 0) pa_nil)) (pg_tup (by rfl) (pgs_cons (pg_name (i := 1) sc_law.nd rfl (Or.inl rfl)) (pgs_cons (pg_name (i := 2) sc_law.nd rfl (Or.inl rfl)) (pgs_cons (pg_name (i := 3) sc_law.nd rfl (Or.inl rfl)) pgs_nil)))))
(pss_cons (ps_set (i := 4) sc_law.nd rfl (Or.inl rfl) (pe_op op_add pe_int (pe_c (f_l_take T) hr (by decide) (by rfl) (pa_cons (pv 3) (pa_cons pe_int pa_nil)))))
(pss_cons (ps_set (i := 5) sc_law.nd rfl (Or.inl rfl) (pe_c (f_l_good T TN) hr (by decide) (by rfl) (pa_cons (pv 3) (pa_cons (pv 1) pa_nil))))
(pss_cons (ps_if (pt_cmpR op_notN (pe_ix ix_tup (pe_c (f_l_run T) hr (by decide) (by rfl) (pa_cons (pv 1) (pa_cons (pv 5) pa_nil))) pe_int (fun _ _ => rfl)) pe_non (nomark _))
(pss_one (ps_ret pe_bl))
pss_nil)
(pss_cons (ps_set (i := 6) sc_law.nd rfl (Or.inl rfl) (pe_c (f_undivided T TN TR TM) hr (by decide) (by rfl) (pa_cons (pv 1) (pa_cons (pv 2) (pa_cons (pv 4) pa_nil)))))
(pss_cons (ps_for PassesOwn.never rfl (pi_tup (pe_tup (pa_cons (pv 6) (pa_cons (pe_c (f_undivided T TN TR TM) hr (by decide) (by rfl) (pa_cons (pv 1) (pa_cons (pv 5) (pa_cons (pv 4) pa_nil)))) pa_nil)))) (pg_name (i := 7) sc_law.nd rfl (Or.inl rfl))
(pss_cons (ps_if (PW.pt (pw_or (pt_not (pt_val (pe_callB call_isi (by rfl) T.b_isinstance (by decide +kernel) (pa_cons (pv 7) (pa_cons (pe_bltn (v := .ty "tuple") (u := .type "tuple") (by rfl) T.b_tuple (by decide +kernel) rfl) pa_nil))))) (pw_or (pt_cmpR op_ne (pe_callB call_len_seq (by rfl) T.b_len PySem.boot_len (pa_cons (pv 7) pa_nil)) pe_int (nomark _)) (pw_or1 (pt_not (pt_val (pe_c (f_l_whole_is T) hr (by decide) (by rfl) (pa_cons (pe_ix ix_tup (pv 7) pe_int (fun _ _ => rfl)) (pa_cons (pe_ix ix_tup (pv 1) pe_int (fun _ _ => rfl)) pa_nil)))))))))
(pss_one (ps_ret pe_bl))
pss_nil)
(pss_cons (ps_if (pt_not (pt_val (pe_c (f_l_paper_is T) hr (by decide) (by rfl) (pa_cons (pe_ix ix_tup (pv 7) pe_int (fun _ _ => rfl)) (pa_cons (pe_ix ix_tup (pv 7) pe_int (fun _ _ => rfl)) pa_nil)))))
(pss_one (ps_ret pe_bl))
pss_nil)
(pss_one (ps_for PassesOwn.never rfl (pi_range1 (by rfl) T.b_range (pa_cons pe_int pa_nil)) (pg_name (i := 8) sc_law.nd rfl (Or.inl rfl))
(pss_cons (ps_set (i := 9) sc_law.nd rfl (Or.inl rfl) (pe_c (f_l_point T) hr (by decide) (by rfl) (pa_cons (pv 3) (pa_cons (pe_callB call_len_seq (by rfl) T.b_len PySem.boot_len (pa_cons (pv 2) pa_nil)) pa_nil))))
(pss_cons (ps_asg (pe_c (f_l_run T) hr (by decide) (by rfl) (pa_cons (pv 1) (pa_cons (pv 9) pa_nil))) (pg_tup (by rfl) (pgs_cons (pg_name (i := 10) sc_law.nd rfl (Or.inl rfl)) (pgs_cons (pg_name (i := 11) sc_law.nd rfl (Or.inl rfl)) pgs_nil))))
(pss_one (ps_if (PW.pt (pw_and (pt_cmpR op_isN (pv 11) pe_non (nomark _)) (pw_and1 (pt_cmpR (op_neD (rhu hr)) (pe_ix ix_list (pe_ix ix_tup (pe_c (f_l_run T) hr (by decide) (by rfl) (pa_cons (pe_ix ix_tup (pv 7) pe_int (fun _ _ => rfl)) (pa_cons (pv 9) pa_nil))) pe_int (fun _ _ => rfl)) (pe_un un_neg pe_int) (fun _ _ => rfl)) (pe_ix ix_list (pv 10) (pe_un un_neg pe_int) (fun _ _ => rfl)) (nomark _)))))
(pss_one (ps_ret pe_bl))
pss_nil)))))))))
(pss_one (ps_ret (pe_cmpR (op_eqD (rhu hr)) (pe_c (f_undivided T TN TR TM) hr (by decide) (by rfl) (pa_cons (pv 1) (pa_cons (pv 2) (pa_cons (pv 4) pa_nil)))) (pv 6) (nomark _)))))))))), ?_⟩
    refine ⟨_, rfl, sl, ns, rfl, hs, hn, fun H1 t vr vp b ls pts rows s1 tq tr tp b1 hb sok old => ?_⟩
    refine ⟨t, _, rfl, tq.sq, rfl, _, _, rfl, _, _, rfl, _, _, rfl, rfl, ?_⟩
    obtain ⟨ak, vl, vrr, rfl, tk, tl, trr⟩ := tr.rk
    obtain ⟨ar, xr, rfl, tqr, tdr⟩ := trr.tup_inv
    obtain ⟨pa, ps, rfl, tpp, hps⟩ := tp.tup_inv
    have lps : ps.length = ls.length := by rw [hps.len, List.length_map, old.lp]
    obtain ⟨TT, gok⟩ := PL.good _ _ _ old
    have n3 := old.n3
    refine ⟨_, rfl, b, 2, rfl, b1, by decide, by decide, fun H2 d2 c2 b2 l2 => ⟨_, _, rfl, rfl, ?_⟩⟩
    have em : (4 : Int) + (d2 : Int) = ((4 + d2 : Nat) : Int) := by omega
    have hmost : 4 + d2 = 4 ∨ 4 + d2 = 5 := by omega
    refine ⟨_, rfl, _, rfl, b, .ref ak, ls, rows, TT, rfl, b2, tr.up c2.kp, n3, old.olds, old.l10, gok, fun H3 u pt c3 b3 t3 lp3 ok3 gd3 => ?_⟩
    have c13 := c2.trans c3
    have o1 := PL.und _ _ _ pts (4 + d2) old old.lp (fun x hx => (old.sm x hx).pt) old.good hmost
    have o2 := PL.und _ _ _ pt (4 + d2) old lp3 ok3 gd3 hmost
    refine ⟨_, rfl, _, rfl, ak, vl, .ref ar, u, false, xr, rows, pt, rfl, tk.up c13.kp, ⟨ar, rfl, tqr.up c13.kp⟩, tdr.up c13.kp, t3, old_run old.olds (by decide) old.l10 ok3 lp3, fun H4 p4 l4 o4 xv4 s4 hl4 tq4 hl4' g1 g2 => ?_⟩
    obtain ⟨rfl, _⟩ := g1 gd3
    refine ⟨p4, _, _, _, rfl, rfl, tq4.sq, a1, rfl, _, rfl, iteN rfl ?_⟩
    have c14 := c13.same s4
    have b4 := b3.same s4
    refine ⟨_, rfl, _, rfl, _, rfl, .ref ak, .ref pa, ls, rows, pts, 4 + d2, congrArg (fun z => [V.ref ak, _, V.int z]) em, tr.up c14.kp, tp.up c14.kp, o1.1, fun H5 v5 s5 t5 => ?_⟩
    refine ⟨_, rfl, _, rfl, _, rfl, _, rfl, .ref ak, u, ls, rows, pt, 4 + d2, congrArg (fun z => [V.ref ak, _, V.int z]) em, tr.up (c14.same s5).kp, t3.up (.of (L2.Same.trans s4 s5)), o2.1, fun H6 v6 s6 t6 => ⟨two_le, fun tt htt => ?_⟩⟩
    have s7 : Same H6 (upd H6 tt (.tup [v5, v6])) := Same.new htt
    have s67 := L2.Same.trans s6 s7
    have c17 := (c14.same s5).same s67
    have tq7 : Tq K (upd H6 tt (.tup [v5, v6])) tt [v5, v6] := .inl upd_same
    have t57 := t5.up (.of s67)
    have t67 := t6.up (.of s7)
    have b7 := (b4.same s5).same s67
    generalize upd H6 tt (.tup [v5, v6]) = H7 at *
    refine ⟨tt, rfl, ⟨_, tq7.sq⟩, ?_⟩
    refine for_it (walk_tup (xs := [v5, v6])) (fun i σ Hx => Ch (· = b) H7 Hx ∧ BX Hx b ∧ ∃ x7 x8 x9 x10 x11, σ = [some (.ref sl), some (.ref ak), some (.ref pa), some (.ref b), some (.int (4 + (d2 : Int))), some u, some v5, x7, x8, x9, x10, x11]) ?_ ?_ ?_ ?_
    · exact ⟨Ch.refl _ _, b7, _, _, _, _, _, rfl⟩
    · rintro i σ Hx _ ⟨cx, _⟩
      exact (tq7.up cx.kp).sq
    · rintro i x σ Hx' Hx hi ⟨cx, bx, x7, x8, x9, x10, x11, rfl⟩ ⟨rfl, ex⟩
      obtain ⟨M, nok, td⟩ : ∃ M, NewOk ls.length rows M ∧ TD K Hx x (eUnd ls M) := by
        match i, ex with
        | 0, ex => injection ex with ex; subst ex; exact ⟨_, o1.2, t57.up cx.kp⟩
        | 1, ex => injection ex with ex; subst ex; exact ⟨_, o2.2, t67.up cx.kp⟩
      obtain ⟨at_, vk, vpp, rfl, tqt, tdk, tdpp⟩ := und_inv td
      have c1x := c17.trans cx
      obtain ⟨an, vln, vrn, rfl, tkn, tln, trn⟩ := tdk.rk
      obtain ⟨arn, xrn, rfl, tqrn, tdrn⟩ := trn.tup_inv
      have lxn : xrn.length = M.rows.length := by rw [tdrn.len, List.length_map]
      have few := nok.few
      refine ⟨_, rfl, _, _, _, _, _, rfl, .ty _, tyTq tqt, kit_ty (r := true) (by decide +kernel), _, rfl, iteN rfl ?_⟩
      refine ⟨_, rfl, at_, _, rfl, .inr tqt.sq, rfl, _, rfl, iteN rfl ?_⟩
      refine ⟨_, rfl, _, _, _, _, rfl, rfl, tqt.sq, a0, _, rfl, _, _, _, _, rfl, rfl, (tk.up c1x.kp).sq, a0, .ref an, vl, ls, M.rows, rfl, tdk, tl.up c1x.kp, sok, nok.ne, nok.few, nok.each, fun H8 s8 => ⟨_, rfl, iteN rfl ?_⟩⟩
      have tqt8 := tqt.up (.of s8)
      refine ⟨_, rfl, _, _, _, _, rfl, rfl, tqt8.sq, a1, _, rfl, _, _, _, _, rfl, rfl, tqt8.sq, a0, vpp, .ref an, ls, M.rows, M.paper, rfl, tdpp.up (.of s8), tdk.up (.of s8), nok.paper, by rw [nok.paper]; exact nok.few, fun H9 s9 => ⟨_, rfl, iteN rfl ?_⟩⟩
      have s89 := L2.Same.trans s8 s9
      have cx9 := cx.same s89
      have bx9 := bx.same s89
      refine ⟨4, rfl, by omega, by omega, ?_⟩
      refine for_it (walk_range (lo := 0) (n := 4)) (fun j σ Hy => Ch (· = b) H9 Hy ∧ BX Hy b ∧ ∃ x8 x9 x10 x11, σ = [some (.ref sl), some (.ref ak), some (.ref pa), some (.ref b), some (.int (4 + (d2 : Int))), some u, some v5, some (.ref at_), x8, x9, x10, x11]) ?_ ?_ ?_ ?_
      · exact ⟨Ch.refl _ _, bx9, _, _, _, _, rfl⟩
      · intro _ _ _ _ _; trivial
      · rintro j y σ Hy' Hy hj ⟨cy, by_, x8, x9, x10, x11, rfl⟩ ⟨rfl, hy⟩
        have c9y := (cx.same s89).trans cy
        have c1y := c17.trans c9y
        refine ⟨_, rfl, _, rfl, pa, ps, rfl, .inr (tpp.up c1y.kp).sq, b, ls.length, by rw [lps]; rfl, by_, n3, fun Ha vq pq ca ba ta lq sq => ?_⟩
        have c1a := c1y.trans ca
        have okq : ∀ x ∈ pq, PtOk x := fun x hx => (sq x hx).pt
        refine ⟨_, rfl, _, rfl, ak, vl, .ref ar, vq, false, xr, rows, pq, rfl, tk.up c1a.kp, ⟨ar, rfl, tqr.up c1a.kp⟩, tdr.up c1a.kp, ta, old_run old.olds (by decide) old.l10 okq lq, fun Hb pb lb ob xvb sb hlb tqb hlb' gb1 gb2 => ?_⟩
        have cab := ca.same sb
        have bab := ba.same sb
        refine ⟨pb, _, rfl, tqb.sq, rfl, _, _, rfl, _, _, rfl, rfl, ?_⟩
        refine ⟨_, rfl, rfl, _, rfl, ?_⟩
        by_cases gq : GoodTo pq rows rows.length
        · obtain ⟨rfl, tvb⟩ := gb1 gq
          refine iteY (by decide +kernel) ?_
          have knb : Kp Hx Hb := (Kp.of s89).trans (cy.kp.trans cab.kp)
          have tqtb := tqt.up knb
          have gn : GoodTo pq M.rows M.rows.length := no_over_good fun i r er => (nok.each i r er).2.2
          refine ⟨_, rfl, _, _, _, _, rfl, rfl, tqtb.sq, a0, _, rfl, an, vln, .ref arn, vq, false, xrn, M.rows, pq, rfl, tkn.up knb, ⟨arn, rfl, tqrn.up knb⟩, tdrn.up knb, ta.up (.of sb), nok.run pq lq sq, fun Hc pc lc oc xvc sc hlc tqc hlc' gc1 gc2 => ?_⟩
          obtain ⟨rfl, tvc⟩ := gc1 gn
          have l1 := old.l1
          have lne : 0 < M.rows.length := List.length_pos_iff.mpr nok.ne
          have lvb : xvb.length = rows.length := by rw [tvb.len, List.length_map, valsF_len]
          have lvc : xvc.length = M.rows.length := by rw [tvc.len, List.length_map, valsF_len]
          obtain ⟨w1, e1, t1⟩ := tvc.getD (i := M.rows.length - 1) (by rw [valsF_len]; omega)
          obtain ⟨w2, e2, t2⟩ := tvb.getD (i := rows.length - 1) (by rw [valsF_len]; omega)
          refine ⟨pc, _, _, _, rfl, rfl, tqc.sq, a0, _, rfl, lc, xvc, _, w1, rfl, rfl, .of hlc', atI_last (by omega) (by rw [lvc]; exact e1), ?_⟩
          refine ⟨_, rfl, _, rfl, lb, xvb, _, w2, rfl, rfl, .of (sc _ _ hlb'), atI_last (by omega) (by rw [lvb]; exact e2), ?_⟩
          refine ⟨_, _, t1.dp, (t2.up (.of sc)).dp, shaped_eF _, shaped_eF _, _, rfl, ?_⟩
          refine iteN (by rw [eqv_eF, nok.last pq lq sq gq, decide_eq_true rfl]; rfl) ?_
          exact ⟨(cy.trans cab).same sc, bab.same sc, _, _, _, _, rfl⟩
        · have hne := gb2 gq
          refine iteN (by
            cases ob with
            | none => exact absurd rfl hne
            | some z => rfl) (iteN rfl ⟨cy.trans cab, bab, _, _, _, _, rfl⟩)
      · rintro σ Hy ⟨cy, by_, x8, x9, x10, x11, rfl⟩
        exact ⟨cx9.trans cy, by_, _, _, _, _, _, rfl⟩
    · rintro σ Hx ⟨cx, bx, x7, x8, x9, x10, x11, rfl⟩
      have c1x := c17.trans cx
      refine ⟨_, rfl, _, rfl, _, rfl, .ref ak, .ref pa, ls, rows, pts, 4 + d2, congrArg (fun z => [V.ref ak, _, V.int z]) em, tr.up c1x.kp, tp.up c1x.kp, o1.1, fun H8 v8 s8 t8 => ?_⟩
      refine ⟨_, rfl, _, _, t8.dp, ((t57.up cx.kp).up (.of s8)).dp, shaped_und sok _, shaped_und sok _, ?_⟩
      rw [SeqAt.eqv_refl _ (SeqAt.canLay_of_shaped (shaped_und sok _))]
      exact q _
end
end U
set_option Elab.async false
set_option linter.all false
set_option maxRecDepth 100000
set_option maxHeartbeats 0
/-! The head's facts, as the walks ask for them. Printed by gen_fill.py. -/
namespace U
open PySem PySem.Spec PyProof.Rows L2
section
variable {K : PySem.W.Frag} {h : Heap} {mg : Str → Option Value}
abbrev SD (K : PySem.W.Frag) : Prop := He.SaysD fa fn K
theorem con_of {x : Str} {i j : Int} (g : mg x = some (.ref (He.ga K x))) (t : He.tupB K x [.int i, .int j] = true) : ConAt K mg x i j := by
  refine ⟨_, g, fun H => ?_⟩
  unfold He.tupB at t
  cases q : K.lookup (He.ga K x) with
  | none =>
    rw [q] at t
    cases t
  | some o =>
    obtain ⟨oc, od, dt, osl⟩ := o
    rw [q] at t
    cases oc with
    | type c =>
      cases dt with
      | seq its n =>
        obtain ⟨h1, h2⟩ := He.ba (show (decide (c = "tuple") && (decide (its.size ≤ sizeLine) && He.relAll ([He.Dv.int i, He.Dv.int j].map (He.Dv.v K)) its.toList)) = true from t)
        obtain ⟨h3, h4⟩ := He.ba h2
        exact .inr ⟨_, its, n, q, congrArg Value.type (of_decide_eq_true h1), rfl, of_decide_eq_true h3, He.relAll_ok h4⟩
      | _ => cases t
    | _ => cases dt <;> cases t
structure ExF (K : PySem.W.Frag) : Prop where
  exc : excB K = true
  t0 : He.tupB K "NOUGHT" [.int 0, .int 1] = true
  t1 : He.tupB K "ONE_fractions" [.int 1, .int 1] = true
  t2 : He.tupB K "ONE_forms" [.int 1, .int 1] = true
  sa : PySem.W.findIn K (.ref (He.ga K "NoOver")) "__setattr__" = some (some (.builtin "object.__setattr__"))
  sub : PySem.W.subIn K (.ref (He.ga K "NoOver")) (.type "BaseException") = some true
  ty : PySem.W.typeIn K (.ref (He.ga K "NoOver")) = some (.type "type")
  kp : PySem.W.keepIn K (.ref (He.ga K "NoOver")) = true
  at_ : PySem.W.findIn K (.ref (He.ga K "NoOver")) "at" = some none
  ini : PySem.W.findIn K (.ref (He.ga K "NoOver")) "__init__" = some (some (.ref (He.ma K (He.ga K "NoOver") "__init__")))
  tI : PySem.W.typeIn K (.ref (He.ma K (He.ga K "NoOver") "__init__")) = some (.type "function")
  exm : PySem.W.exmOne K (.ref (He.ga K "NoOver")) (.ref (He.ga K "NoOver")) = some true
  uty : PySem.W.typeIn K (.ref (He.ga K "UndivideError")) = some (.type "type")
  ukp : PySem.W.keepIn K (.ref (He.ga K "UndivideError")) = true
  urd : PySem.W.readsIn K (He.ga K "UndivideError") (.type "type") = true
  uga : PySem.W.specialIn K (.ref (He.ga K "UndivideError")) "__getattribute__" = some (some (.builtin "type.__getattribute__"))
  ui : (match PySem.W.findCls K (.ref (He.ga K "UndivideError")) (.type "type") "__init__" with
    | some (.val (.builtin n)) => n == "ValueError.__init__"
    | _ => false) = true
theorem exF_of (e : exB K = true) : ExF K := by
  unfold exB at e
  obtain ⟨e, a17⟩ := He.ba e
  obtain ⟨e, a16⟩ := He.ba e
  obtain ⟨e, a15⟩ := He.ba e
  obtain ⟨e, a14⟩ := He.ba e
  obtain ⟨e, a13⟩ := He.ba e
  obtain ⟨e, a12⟩ := He.ba e
  obtain ⟨e, a11⟩ := He.ba e
  obtain ⟨e, a10⟩ := He.ba e
  obtain ⟨e, a9⟩ := He.ba e
  obtain ⟨e, a8⟩ := He.ba e
  obtain ⟨e, a7⟩ := He.ba e
  obtain ⟨e, a6⟩ := He.ba e
  obtain ⟨e, a5⟩ := He.ba e
  obtain ⟨e, a4⟩ := He.ba e
  obtain ⟨e, a3⟩ := He.ba e
  obtain ⟨a1, a2⟩ := He.ba e
  exact ⟨a1, a2, a3, a4, He.eqO_ok a5, of_decide_eq_true a6, of_decide_eq_true a7, a8, He.eqO_ok a9, He.eqO_ok a10, of_decide_eq_true a11, of_decide_eq_true a12, of_decide_eq_true a13, a14, a15, He.eqO_ok a16, a17⟩
theorem oex_of (x : ExF K) : OexC K (He.ga K "NoOver") := by
  refine ⟨?_, x.sa, x.sub, x.ty, x.kp⟩
  have e := x.exc
  unfold excB at e
  split at e
  · rename_i oc od cd sl q
    split at e
    · rename_i C' bm k0 k1 k2 k3 n k5 hm hs
      obtain ⟨e1, e⟩ := He.ba e
      obtain ⟨e2, e⟩ := He.ba e
      obtain ⟨e3, e⟩ := He.ba e
      obtain ⟨e4, e5⟩ := He.ba e
      obtain ⟨nm, bs, mro, nsA, qn, hd, sn, sub, ab, col, hdel⟩ := cd
      obtain ⟨sll⟩ := sl
      simp only at hm hs e3 e4
      subst hm hs
      have e1' := eq_of_beq e1
      have e2' := eq_of_beq e2
      have e3' : hdel = false := by simpa using e3
      subst e1' e2' e3' e4
      exact ⟨nm, qn, nsA, bs, bm, sn, sub, ab, col, od, k0, k1, k2, k3, k5, q, e5⟩
    · cases e
  · cases e
theorem ue_of (x : ExF K) : UeC K (He.ga K "UndivideError") := by
  refine ⟨x.urd, x.uga, ?_⟩
  have e := x.ui
  split at e
  · rename_i n q
    rw [q, eq_of_beq e]
  · cases e
theorem nov_of (X : K.In h) (G : h.Ns mainGlobals mg) (c : SD K) (e : exB K = true) : NoOv K mg (He.ga K "NoOver") (He.ma K (He.ga K "NoOver") "__init__") := by
  have x := exF_of e
  refine ⟨oex_of x, He.glo_ok X G (c.fact 68), x.at_, x.ini, x.tI, x.exm, c.def_ 0 (d := d_NoOver_init), ⟨_, He.glo_ok X G (c.fact 69), ue_of x⟩⟩
theorem txt_of (X : K.In h) (G : h.Ns mainGlobals mg) (c : SD K) (e : exB K = true) : Txt K mg := by
  refine {
    b_abs := He.free_ok X G (c.fact 81),
    b_len := He.free_ok X G (c.fact 82),
    b_range := He.free_ok X G (c.fact 83),
    b_dict := He.free_ok X G (c.fact 84),
    b_sorted := He.free_ok X G (c.fact 85),
    b_tuple := He.free_ok X G (c.fact 86),
    b_list := He.free_ok X G (c.fact 87),
    b_enumerate := He.free_ok X G (c.fact 88),
    b_zip := He.free_ok X G (c.fact 89),
    b_max := He.free_ok X G (c.fact 90),
    b_int := He.free_ok X G (c.fact 92),
    b_isinstance := He.free_ok X G (c.fact 93),
    b_all := He.free_ok X G (c.fact 94),
    b_bool := He.free_ok X G (c.fact 95),
    b_str := He.free_ok X G (c.fact 96),
    a_common := (let ⟨fd, F⟩ := c.def_ 1 (d := d_common); ⟨_, fd, F, He.glo_ok X G (c.fact 0)⟩),
    a_fraction := (let ⟨fd, F⟩ := c.def_ 2 (d := d_fraction); ⟨_, fd, F, He.glo_ok X G (c.fact 1)⟩),
    a_plus := (let ⟨fd, F⟩ := c.def_ 3 (d := d_plus); ⟨_, fd, F, He.glo_ok X G (c.fact 2)⟩),
    a_less := (let ⟨fd, F⟩ := c.def_ 4 (d := d_less); ⟨_, fd, F, He.glo_ok X G (c.fact 3)⟩),
    a_times := (let ⟨fd, F⟩ := c.def_ 5 (d := d_times); ⟨_, fd, F, He.glo_ok X G (c.fact 4)⟩),
    a_over := (let ⟨fd, F⟩ := c.def_ 6 (d := d_over); ⟨_, fd, F, He.glo_ok X G (c.fact 5)⟩),
    a_letter_mark := (let ⟨fd, F⟩ := c.def_ 7 (d := d_letter_mark); ⟨_, fd, F, He.glo_ok X G (c.fact 6)⟩),
    a_number_form := (let ⟨fd, F⟩ := c.def_ 8 (d := d_number_form); ⟨_, fd, F, He.glo_ok X G (c.fact 7)⟩),
    a_mark_form := (let ⟨fd, F⟩ := c.def_ 9 (d := d_mark_form); ⟨_, fd, F, He.glo_ok X G (c.fact 8)⟩),
    a_added := (let ⟨fd, F⟩ := c.def_ 10 (d := d_added); ⟨_, fd, F, He.glo_ok X G (c.fact 9)⟩),
    a_scaled := (let ⟨fd, F⟩ := c.def_ 11 (d := d_scaled); ⟨_, fd, F, He.glo_ok X G (c.fact 10)⟩),
    a_taken_off := (let ⟨fd, F⟩ := c.def_ 12 (d := d_taken_off); ⟨_, fd, F, He.glo_ok X G (c.fact 11)⟩),
    a_multiplied := (let ⟨fd, F⟩ := c.def_ 13 (d := d_multiplied); ⟨_, fd, F, He.glo_ok X G (c.fact 12)⟩),
    a_row_value := (let ⟨fd, F⟩ := c.def_ 21 (d := d_row_value); ⟨_, fd, F, He.glo_ok X G (c.fact 19)⟩),
    a_run := (let ⟨fd, F⟩ := c.def_ 22 (d := d_run); ⟨_, fd, F, He.glo_ok X G (c.fact 20)⟩),
    a_needed_rows := (let ⟨fd, F⟩ := c.def_ 29 (d := d_needed_rows); ⟨_, fd, F, He.glo_ok X G (c.fact 26)⟩),
    a_undivided := (let ⟨fd, F⟩ := c.def_ 30 (d := d_undivided); ⟨_, fd, F, He.glo_ok X G (c.fact 27)⟩),
    a_poly := (let ⟨fd, F⟩ := c.def_ 31 (d := d_poly); ⟨_, fd, F, He.glo_ok X G (c.fact 28)⟩),
    a_turned := (let ⟨fd, F⟩ := c.def_ 32 (d := d_turned); ⟨_, fd, F, He.glo_ok X G (c.fact 29)⟩),
    a_poly_plus := (let ⟨fd, F⟩ := c.def_ 33 (d := d_poly_plus); ⟨_, fd, F, He.glo_ok X G (c.fact 30)⟩),
    a_poly_less := (let ⟨fd, F⟩ := c.def_ 34 (d := d_poly_less); ⟨_, fd, F, He.glo_ok X G (c.fact 31)⟩),
    a_powers_added := (let ⟨fd, F⟩ := c.def_ 35 (d := d_powers_added); ⟨_, fd, F, He.glo_ok X G (c.fact 32)⟩),
    a_poly_times := (let ⟨fd, F⟩ := c.def_ 36 (d := d_poly_times); ⟨_, fd, F, He.glo_ok X G (c.fact 33)⟩),
    a_plain_poly := (let ⟨fd, F⟩ := c.def_ 37 (d := d_plain_poly); ⟨_, fd, F, He.glo_ok X G (c.fact 34)⟩),
    a_row_quotient := (let ⟨fd, F⟩ := c.def_ 38 (d := d_row_quotient); ⟨_, fd, F, He.glo_ok X G (c.fact 35)⟩),
    a_quotients := (let ⟨fd, F⟩ := c.def_ 39 (d := d_quotients); ⟨_, fd, F, He.glo_ok X G (c.fact 36)⟩),
    a_points_up_to := (let ⟨fd, F⟩ := c.def_ 40 (d := d_points_up_to); ⟨_, fd, F, He.glo_ok X G (c.fact 37)⟩),
    a_runs_at := (let ⟨fd, F⟩ := c.def_ 41 (d := d_runs_at); ⟨_, fd, F, He.glo_ok X G (c.fact 38)⟩),
    a_good_point := (let ⟨fd, F⟩ := c.def_ 42 (d := d_good_point); ⟨_, fd, F, He.glo_ok X G (c.fact 39)⟩),
    a_l_box := (let ⟨fd, F⟩ := c.def_ 43 (d := d_l_box); ⟨_, fd, F, He.glo_ok X G (c.fact 40)⟩),
    a_l_take := (let ⟨fd, F⟩ := c.def_ 44 (d := d_l_take); ⟨_, fd, F, He.glo_ok X G (c.fact 41)⟩),
    a_l_names := (let ⟨fd, F⟩ := c.def_ 45 (d := d_l_names); ⟨_, fd, F, He.glo_ok X G (c.fact 42)⟩),
    a_l_fraction := (let ⟨fd, F⟩ := c.def_ 46 (d := d_l_fraction); ⟨_, fd, F, He.glo_ok X G (c.fact 43)⟩),
    a_l_plus := (let ⟨fd, F⟩ := c.def_ 47 (d := d_l_plus); ⟨_, fd, F, He.glo_ok X G (c.fact 44)⟩),
    a_l_times := (let ⟨fd, F⟩ := c.def_ 48 (d := d_l_times); ⟨_, fd, F, He.glo_ok X G (c.fact 45)⟩),
    a_l_number := (let ⟨fd, F⟩ := c.def_ 49 (d := d_l_number); ⟨_, fd, F, He.glo_ok X G (c.fact 46)⟩),
    a_l_small := (let ⟨fd, F⟩ := c.def_ 50 (d := d_l_small); ⟨_, fd, F, He.glo_ok X G (c.fact 47)⟩),
    a_l_point := (let ⟨fd, F⟩ := c.def_ 51 (d := d_l_point); ⟨_, fd, F, He.glo_ok X G (c.fact 48)⟩),
    a_l_weight := (let ⟨fd, F⟩ := c.def_ 52 (d := d_l_weight); ⟨_, fd, F, He.glo_ok X G (c.fact 49)⟩),
    a_l_drawn_row := (let ⟨fd, F⟩ := c.def_ 53 (d := d_l_drawn_row); ⟨_, fd, F, He.glo_ok X G (c.fact 50)⟩),
    a_l_deed := (let ⟨fd, F⟩ := c.def_ 54 (d := d_l_deed); ⟨_, fd, F, He.glo_ok X G (c.fact 51)⟩),
    a_l_run := (let ⟨fd, F⟩ := c.def_ 55 (d := d_l_run); ⟨_, fd, F, He.glo_ok X G (c.fact 52)⟩),
    a_l_good := (let ⟨fd, F⟩ := c.def_ 56 (d := d_l_good); ⟨_, fd, F, He.glo_ok X G (c.fact 53)⟩),
    a_l_number_is := (let ⟨fd, F⟩ := c.def_ 57 (d := d_l_number_is); ⟨_, fd, F, He.glo_ok X G (c.fact 54)⟩),
    a_l_fraction_is := (let ⟨fd, F⟩ := c.def_ 58 (d := d_l_fraction_is); ⟨_, fd, F, He.glo_ok X G (c.fact 55)⟩),
    a_l_whole_row_is := (let ⟨fd, F⟩ := c.def_ 59 (d := d_l_whole_row_is); ⟨_, fd, F, He.glo_ok X G (c.fact 56)⟩),
    a_l_whole_is := (let ⟨fd, F⟩ := c.def_ 60 (d := d_l_whole_is); ⟨_, fd, F, He.glo_ok X G (c.fact 57)⟩),
    a_l_old := (let ⟨fd, F⟩ := c.def_ 61 (d := d_l_old); ⟨_, fd, F, He.glo_ok X G (c.fact 58)⟩),
    a_l_pointed := (let ⟨fd, F⟩ := c.def_ 62 (d := d_l_pointed); ⟨_, fd, F, He.glo_ok X G (c.fact 59)⟩),
    a_l_paper_is := (let ⟨fd, F⟩ := c.def_ 63 (d := d_l_paper_is); ⟨_, fd, F, He.glo_ok X G (c.fact 60)⟩),
    a_law := (let ⟨fd, F⟩ := c.def_ 64 (d := d_law); ⟨_, fd, F, He.glo_ok X G (c.fact 61)⟩),
    k_nought := con_of (He.glo_ok X G (c.fact 70)) (exF_of e).t0,
    k_one := con_of (He.glo_ok X G (c.fact 71)) (exF_of e).t1,
    k_onef := con_of (He.glo_ok X G (c.fact 72)) (exF_of e).t2 }
theorem mkr_of (X : K.In h) (G : h.Ns mainGlobals mg) (c : SD K) : MkrT K mg (He.ga K "Maker") := by
  refine {
    gC := He.glo_ok X G (c.fact 62),
    cls := He.cls_ok (c.fact 63),
    n_rows := He.noat_ok (c.fact 73),
    n_paper := He.noat_ok (c.fact 74),
    n_known := He.noat_ok (c.fact 75),
    made := (let ⟨fd, F⟩ := c.def_ 14 (d := d_Maker_init); ⟨_, fd, He.mkr_ok (c.fact 64), F⟩),
    put := (let ⟨fd, F⟩ := c.def_ 15 (d := d_Maker_put); ⟨_, fd, He.meth_ok (c.fact 13), F⟩),
    once := (let ⟨fd, F⟩ := c.def_ 16 (d := d_Maker_once); ⟨_, fd, He.meth_ok (c.fact 14), F⟩),
    row_of_mark := (let ⟨fd, F⟩ := c.def_ 17 (d := d_Maker_row_of_mark); ⟨_, fd, He.meth_ok (c.fact 15), F⟩),
    row_of_product := (let ⟨fd, F⟩ := c.def_ 18 (d := d_Maker_row_of_product); ⟨_, fd, He.meth_ok (c.fact 16), F⟩),
    last_of := (let ⟨fd, F⟩ := c.def_ 19 (d := d_Maker_last_of); ⟨_, fd, He.meth_ok (c.fact 17), F⟩),
    mark_row := (let ⟨fd, F⟩ := c.def_ 20 (d := d_Maker_mark_row); ⟨_, fd, He.meth_ok (c.fact 18), F⟩) }
theorem rul_of (X : K.In h) (G : h.Ns mainGlobals mg) (c : SD K) : RulT K mg (He.ga K "Rules") := by
  refine {
    gC := He.glo_ok X G (c.fact 65),
    cls := He.cls_ok (c.fact 66),
    n_rows := He.noat_ok (c.fact 76),
    n_point := He.noat_ok (c.fact 77),
    n_most := He.noat_ok (c.fact 78),
    n_came := He.noat_ok (c.fact 79),
    n_rules := He.noat_ok (c.fact 80),
    made := (let ⟨fd, F⟩ := c.def_ 23 (d := d_Rules_init); ⟨_, fd, He.mkr_ok (c.fact 67), F⟩),
    reading := (let ⟨fd, F⟩ := c.def_ 24 (d := d_Rules_reading); ⟨_, fd, He.meth_ok (c.fact 21), F⟩),
    put_together := (let ⟨fd, F⟩ := c.def_ 25 (d := d_Rules_put_together); ⟨_, fd, He.meth_ok (c.fact 22), F⟩),
    rule := (let ⟨fd, F⟩ := c.def_ 26 (d := d_Rules_rule); ⟨_, fd, He.meth_ok (c.fact 23), F⟩),
    last_form := (let ⟨fd, F⟩ := c.def_ 27 (d := d_Rules_last_form); ⟨_, fd, He.meth_ok (c.fact 24), F⟩),
    can_be_told := (let ⟨fd, F⟩ := c.def_ 28 (d := d_Rules_can_be_told); ⟨_, fd, He.meth_ok (c.fact 25), F⟩) }
end
end U
set_option Elab.async false
set_option linter.all false
set_option maxRecDepth 100000
set_option maxHeartbeats 4000000
/-! law, as a function object. -/
namespace U
open PySem PySem.Spec PyProof.Rows L2
theorem law_fn {P : Program} {w : World} {K : PySem.W.Frag} {mg : Str → Option Value} {f CN fI CM CR : Addr} (T : Txt K mg) (TN : NoOv K mg CN fI) (TM : MkrT K mg CM) (TR : RulT K mg CR) (PL : Plain) (hfa : mg ("law" : Str) = some (.ref f)) :
    ∃ fd : FuncData, (∀ (s : Shared) (v : Value), BindsTo s fd ⟨[v], []⟩ [("_law_script", v)]) ∧ ∀ base : Heap, FnOk P w K mg base CX0 12 f fd ["_law_script"] (spLaw K) := by
  obtain ⟨f', fd, F, hm⟩ := T.a_law
  have e := hfa.symm.trans hm
  cases e
  have b := FunD.bindsA (ps := ["_law_script"]) F fun _ _ _ _ _ _ us hl => match us, hl with | [_], _ => rfl
  refine ⟨fd, fun s v => b s [v] rfl, fun base => F.ok sc_law (fun vs H Q E h => ?_) fun cdv A outer s H vs Q E hr h => ?_⟩
  · obtain ⟨_, _, rfl, _⟩ := h
    rfl
  · obtain ⟨t, h1, h2⟩ := law_b T TN TM TR PL f cdv A outer s H vs Q E hr h
    exact ⟨t, h1.nox, h2⟩
end U
set_option Elab.async false
set_option linter.all false
set_option maxRecDepth 100000
set_option maxHeartbeats 4000000
/-! Plain law 1: the rows as power series along a line. -/
namespace U
def sumR (f : Nat → Rat) : Nat → Rat
  | 0 => 0
  | n + 1 => sumR f n + f n
def sumN (f : Nat → Nat) : Nat → Nat
  | 0 => 0
  | n + 1 => sumN f n + f n
theorem sumR_congr {f g : Nat → Rat} : ∀ {n : Nat}, (∀ k, k < n → f k = g k) → sumR f n = sumR g n
  | 0, _ => rfl
  | n + 1, h => by
    show sumR f n + f n = sumR g n + g n
    rw [sumR_congr fun k hk => h k (by omega), h n (by omega)]
theorem sumN_congr {f g : Nat → Nat} : ∀ {n : Nat}, (∀ k, k < n → f k = g k) → sumN f n = sumN g n
  | 0, _ => rfl
  | n + 1, h => by
    show sumN f n + f n = sumN g n + g n
    rw [sumN_congr fun k hk => h k (by omega), h n (by omega)]
theorem sumN_le {f g : Nat → Nat} : ∀ {n : Nat}, (∀ k, k < n → f k ≤ g k) → sumN f n ≤ sumN g n
  | 0, _ => Nat.le_refl _
  | n + 1, h => Nat.add_le_add (sumN_le fun k hk => h k (by omega)) (h n (by omega))
theorem sumR_add (f g : Nat → Rat) : ∀ n, sumR (fun k => f k + g k) n = sumR f n + sumR g n
  | 0 => by show (0 : Rat) = 0 + 0; grind
  | n + 1 => by
    show sumR (fun k => f k + g k) n + (f n + g n) = sumR f n + f n + (sumR g n + g n)
    rw [sumR_add f g n]; grind
theorem sumR_sub (f g : Nat → Rat) : ∀ n, sumR (fun k => f k - g k) n = sumR f n - sumR g n
  | 0 => by show (0 : Rat) = 0 - 0; grind
  | n + 1 => by
    show sumR (fun k => f k - g k) n + (f n - g n) = sumR f n + f n - (sumR g n + g n)
    rw [sumR_sub f g n]; grind
theorem sumN_add (f g : Nat → Nat) : ∀ n, sumN (fun k => f k + g k) n = sumN f n + sumN g n
  | 0 => rfl
  | n + 1 => by
    show sumN (fun k => f k + g k) n + (f n + g n) = sumN f n + f n + (sumN g n + g n)
    rw [sumN_add f g n]; omega
theorem sumR_mulr (f : Nat → Rat) (q : Rat) : ∀ n, sumR (fun k => f k * q) n = sumR f n * q
  | 0 => by show (0 : Rat) = 0 * q; grind
  | n + 1 => by
    show sumR (fun k => f k * q) n + f n * q = (sumR f n + f n) * q
    rw [sumR_mulr f q n]; grind
theorem sumN_mulr (f : Nat → Nat) (q : Nat) : ∀ n, sumN (fun k => f k * q) n = sumN f n * q
  | 0 => by show 0 = 0 * q; omega
  | n + 1 => by
    show sumN (fun k => f k * q) n + f n * q = (sumN f n + f n) * q
    rw [sumN_mulr f q n, Nat.add_mul]
theorem sumN_mull (f : Nat → Nat) (q : Nat) : ∀ n, sumN (fun k => q * f k) n = q * sumN f n
  | 0 => rfl
  | n + 1 => by
    show sumN (fun k => q * f k) n + q * f n = q * (sumN f n + f n)
    rw [sumN_mull f q n, Nat.mul_add]
theorem sumN_up (f : Nat → Nat) {n : Nat} : ∀ {m : Nat}, n ≤ m → sumN f n ≤ sumN f m
  | 0, h => by rw [Nat.le_zero.mp h]; exact Nat.le_refl _
  | m + 1, h => by
    by_cases e : n = m + 1
    · rw [e]; exact Nat.le_refl _
    · exact Nat.le_trans (sumN_up f (by omega)) (Nat.le_add_right _ _)
theorem sumR_head (f : Nat → Rat) : ∀ n, sumR f (n + 1) = f 0 + sumR (fun k => f (k + 1)) n
  | 0 => by show (0 : Rat) + f 0 = f 0 + 0; grind
  | n + 1 => by
    show sumR f (n + 1) + f (n + 1) = f 0 + (sumR (fun k => f (k + 1)) n + f (n + 1))
    rw [sumR_head f n]; grind
theorem sumR_rev : ∀ (n : Nat) (f : Nat → Rat), sumR (fun k => f (n - 1 - k)) n = sumR f n
  | 0, _ => rfl
  | n + 1, f => by
    rw [sumR_head]
    show f (n + 1 - 1 - 0) + sumR (fun k => f (n + 1 - 1 - (k + 1))) n = sumR f n + f n
    have e : sumR (fun k => f (n + 1 - 1 - (k + 1))) n = sumR (fun k => f (n - 1 - k)) n := sumR_congr fun k hk => by
      congr 1; omega
    rw [e, sumR_rev n f]
    show f n + _ = _
    grind
/-- past its end a sum stays -/
theorem sumR_stop {f : Nat → Rat} {a : Nat} (h : ∀ k, a < k → f k = 0) : ∀ {n : Nat}, a < n → sumR f n = sumR f (a + 1)
  | 0, hn => by omega
  | n + 1, hn => by
    by_cases e : a = n
    · rw [e]
    · show sumR f n + f n = _
      rw [h n (by omega), sumR_stop h (n := n) (by omega)]; grind
theorem sumR_zero {f : Nat → Rat} : ∀ {n : Nat}, (∀ k, k < n → f k = 0) → sumR f n = 0
  | 0, _ => rfl
  | n + 1, h => by
    show sumR f n + f n = 0
    rw [sumR_zero fun k hk => h k (by omega), h n (by omega)]; grind
/-- sums over a triangle, by rows and by columns -/
theorem tri (h : Nat → Nat → Rat) : ∀ n, sumR (fun k => sumR (fun e => h e (k - e)) (k + 1)) n = sumR (fun e => sumR (h e) (n - e)) n
  | 0 => rfl
  | n + 1 => by
    show sumR (fun k => sumR (fun e => h e (k - e)) (k + 1)) n + sumR (fun e => h e (n - e)) (n + 1) = sumR (fun e => sumR (h e) (n + 1 - e)) n + sumR (h n) (n + 1 - n)
    have e1 : sumR (fun e => sumR (h e) (n + 1 - e)) n = sumR (fun e => sumR (h e) (n - e) + h e (n - e)) n := sumR_congr fun e he => by
      rw [show n + 1 - e = (n - e) + 1 by omega]; rfl
    have e2 : sumR (h n) (n + 1 - n) = h n 0 := by
      rw [show n + 1 - n = 1 by omega]
      show (0 : Rat) + h n 0 = h n 0
      grind
    have e3 : sumR (fun e => h e (n - e)) (n + 1) = sumR (fun e => h e (n - e)) n + h n 0 := by
      show sumR (fun e => h e (n - e)) n + h n (n - n) = _
      rw [Nat.sub_self]
    rw [e1, e2, e3, sumR_add, tri h n]
    grind
theorem triN (h : Nat → Nat → Nat) : ∀ n, sumN (fun k => sumN (fun e => h e (k - e)) (k + 1)) n = sumN (fun e => sumN (h e) (n - e)) n
  | 0 => rfl
  | n + 1 => by
    show sumN (fun k => sumN (fun e => h e (k - e)) (k + 1)) n + sumN (fun e => h e (n - e)) (n + 1) = sumN (fun e => sumN (h e) (n + 1 - e)) n + sumN (h n) (n + 1 - n)
    have e1 : sumN (fun e => sumN (h e) (n + 1 - e)) n = sumN (fun e => sumN (h e) (n - e) + h e (n - e)) n := sumN_congr fun e he => by
      rw [show n + 1 - e = (n - e) + 1 by omega]; rfl
    have e2 : sumN (h n) (n + 1 - n) = h n 0 := by
      rw [show n + 1 - n = 1 by omega]
      show 0 + h n 0 = h n 0
      omega
    have e3 : sumN (fun e => h e (n - e)) (n + 1) = sumN (fun e => h e (n - e)) n + h n 0 := by
      show sumN (fun e => h e (n - e)) n + h n (n - n) = _
      rw [Nat.sub_self]
    rw [e1, e2, e3, sumN_add, triN h n]
    omega
/-- the product of two power rows -/
def cau (f g : Nat → Rat) (k : Nat) : Rat := sumR (fun e => f e * g (k - e)) (k + 1)
theorem cau_comm (f g : Nat → Rat) (k : Nat) : cau f g k = cau g f k := by
  unfold cau
  rw [← sumR_rev]
  refine sumR_congr fun e he => ?_
  show f (k + 1 - 1 - e) * g (k - (k + 1 - 1 - e)) = g e * f (k - e)
  rw [show k + 1 - 1 - e = k - e by omega, show k - (k - e) = e by omega]
  grind
theorem cau_zero (f g : Nat → Rat) : cau f g 0 = f 0 * g 0 := by
  show (0 : Rat) + f 0 * g 0 = _
  grind
theorem cau_dg {f g : Nat → Rat} {a b : Nat} (hf : ∀ k, a < k → f k = 0) (hg : ∀ k, b < k → g k = 0) (k : Nat) (h : a + b < k) : cau f g k = 0 := by
  refine sumR_zero fun e he => ?_
  by_cases q : a < e
  · show f e * g (k - e) = 0
    rw [hf e q]; grind
  · show f e * g (k - e) = 0
    rw [hg (k - e) (by omega)]; grind
theorem cau_sum {f g : Nat → Rat} {a b N : Nat} (hf : ∀ k, a < k → f k = 0) (hg : ∀ k, b < k → g k = 0) (h : a + b < N) : sumR (cau f g) N = sumR f N * sumR g N := by
  show sumR (fun k => sumR (fun e => f e * g (k - e)) (k + 1)) N = _
  rw [tri fun e j => f e * g j, ← sumR_mulr]
  refine sumR_congr fun e he => ?_
  have e1 : ∀ n, sumR (fun j => f e * g j) n = f e * sumR g n := fun n => by
    have := sumR_mulr g (f e) n
    rw [show f e * sumR g n = sumR g n * f e by grind, ← this]
    exact sumR_congr fun k _ => by grind
  show sumR (fun j => f e * g j) (N - e) = f e * sumR g N
  rw [e1]
  by_cases q : a < e
  · rw [hf e q]; grind
  · rw [sumR_stop hg (show b < N - e by omega), sumR_stop hg (show b < N by omega)]
/-! sizes -/
def GS (D B : Nat) (f : Nat → Rat) : Prop := ∃ b : Nat → Nat, (∀ k, Gd D (b k) (f k)) ∧ ∀ n, sumN b n ≤ B
theorem GS.at_ {D B : Nat} {f : Nat → Rat} (h : GS D B f) (k : Nat) : Gd D B (f k) := by
  obtain ⟨b, h1, h2⟩ := h
  exact (h1 k).mono (Nat.le_trans (Nat.le_add_left _ _) (h2 (k + 1)))
theorem GS.mono {D B B' : Nat} {f : Nat → Rat} (h : GS D B f) (hb : B ≤ B') : GS D B' f := by
  obtain ⟨b, h1, h2⟩ := h
  exact ⟨b, h1, fun n => Nat.le_trans (h2 n) hb⟩
theorem GS.wide {D B : Nat} {f : Nat → Rat} (h : GS D B f) (m : Nat) : GS (D * m) (B * m) f := by
  obtain ⟨b, h1, h2⟩ := h
  exact ⟨fun k => b k * m, fun k => (h1 k).wide m, fun n => by rw [sumN_mulr]; exact Nat.mul_le_mul_right _ (h2 n)⟩
theorem GS.add {D B B' : Nat} {f g : Nat → Rat} (h : GS D B f) (h' : GS D B' g) : GS D (B + B') (fun k => f k + g k) := by
  obtain ⟨b, h1, h2⟩ := h
  obtain ⟨c, g1, g2⟩ := h'
  exact ⟨fun k => b k + c k, fun k => (h1 k).add (g1 k), fun n => by rw [sumN_add]; exact Nat.add_le_add (h2 n) (g2 n)⟩
theorem GS.sub {D B B' : Nat} {f g : Nat → Rat} (h : GS D B f) (h' : GS D B' g) : GS D (B + B') (fun k => f k - g k) := by
  obtain ⟨b, h1, h2⟩ := h
  obtain ⟨c, g1, g2⟩ := h'
  exact ⟨fun k => b k + c k, fun k => (h1 k).sub (g1 k), fun n => by rw [sumN_add]; exact Nat.add_le_add (h2 n) (g2 n)⟩
theorem Gd.sumR {D : Nat} {f : Nat → Rat} {b : Nat → Nat} (h : ∀ k, Gd D (b k) (f k)) : ∀ n, Gd D (sumN b n) (sumR f n)
  | 0 => .zero _ _
  | n + 1 => (Gd.sumR h n).add (h n)
theorem GS.cau {D D' B B' : Nat} {f g : Nat → Rat} (h : GS D B f) (h' : GS D' B' g) : GS (D * D') (B * B') (cau f g) := by
  obtain ⟨b, h1, h2⟩ := h
  obtain ⟨c, g1, g2⟩ := h'
  refine ⟨fun k => sumN (fun e => b e * c (k - e)) (k + 1), fun k => ?_, fun n => ?_⟩
  · exact Gd.sumR (fun e => (h1 e).mul (g1 (k - e))) (k + 1)
  · rw [triN fun e j => b e * c j]
    refine Nat.le_trans (sumN_le (g := fun e => b e * B') fun e _ => ?_) ?_
    · rw [sumN_mull]
      exact Nat.mul_le_mul_left _ (g2 _)
    · rw [sumN_mulr]
      exact Nat.mul_le_mul_right _ (h2 n)
theorem GS.of2 {D B0 B1 : Nat} {f : Nat → Rat} (h0 : Gd D B0 (f 0)) (h1 : Gd D B1 (f 1)) (h2 : ∀ k, 1 < k → f k = 0) : GS D (B0 + B1) f := by
  refine ⟨fun k => if k = 0 then B0 else if k = 1 then B1 else 0, fun k => ?_, fun n => ?_⟩
  · match k with
    | 0 => exact h0
    | 1 => exact h1
    | k + 2 =>
      rw [h2 (k + 2) (by omega)]
      exact .zero _ _
  · have key : ∀ n, sumN (fun k => if k = 0 then B0 else if k = 1 then B1 else 0) (n + 2) = B0 + B1 := fun n => by
      induction n with
      | zero => show 0 + B0 + B1 = _; omega
      | succ n ih => exact ih
    exact Nat.le_trans (sumN_up _ (show n ≤ n + 2 by omega)) (Nat.le_of_eq (key n))
/-! the rows' power series -/
def SerRow (p x : List Rat) (s : Nat → Nat → Rat) (i : Nat) : Row → Prop
  | .num q => ∀ k, s i k = if k = 0 then q else 0
  | .let_ c => ∀ k, s i k = if k = 0 then p.getD c 0 else if k = 1 then x.getD c 0 - p.getD c 0 else 0
  | .op .plus a b => ∀ k, s i k = s a k + s b k
  | .op .less a b => ∀ k, s i k = s a k - s b k
  | .op .times a b => ∀ k, s i k = cau (s a) (s b) k
  | .op .over a b => ∀ k, s a k = cau (s b) (s i) k
def wt (rows : List Row) (i : Nat) : Nat := ((wtsF rows).getD i (0, 0)).1
def dgAt (rows : List Row) (i : Nat) : Nat := (dgF rows).getD i 0
structure SerOk (rows : List Row) (i : Nat) (f : Nat → Rat) : Prop where
  dg : ∀ k, dgAt rows i < k → f k = 0
  w1 : 1 ≤ wt rows i
  sz : GS (12 ^ wt rows i) (bnd (wt rows i) i) f
structure Ser (p x : List Rat) (rows : List Row) (m : Nat) (s : Nat → Nat → Rat) : Prop where
  eqn : ∀ i r, i < m → rows[i]? = some r → SerRow p x s i r
  ok : ∀ i, i < m → i < rows.length → SerOk rows i (s i)
theorem gs_up {a i B : Nat} {f : Nat → Rat} (h : GS (12 ^ a) (bnd a i) f) {c j : Nat} (hac : a ≤ c) (hc : c ≤ 5) (hij : i < j) (hc1 : 1 ≤ c) : GS (12 ^ c) (2 ^ (c * (28 + 20 * j) - 1)) f := by
  have e : 12 ^ c = 12 ^ a * 12 ^ (c - a) := by rw [← Nat.pow_add]; congr 1; omega
  rw [e]
  refine (h.wide _).mono ?_
  have h1 : 12 ^ (c - a) ≤ 2 ^ (4 * (c - a)) := by
    rw [Nat.pow_mul]
    exact Nat.pow_le_pow_left (by decide) _
  have h2 : bnd a i * 12 ^ (c - a) ≤ 2 ^ (a * (28 + 20 * i)) * 2 ^ (4 * (c - a)) := Nat.mul_le_mul_left _ h1
  refine Nat.le_trans h2 ?_
  rw [← Nat.pow_add]
  refine Nat.pow_le_pow_right (by decide) ?_
  have h3 : a * (28 + 20 * i) ≤ c * (28 + 20 * i) := Nat.mul_le_mul_right _ hac
  have h4 : c * (28 + 20 * j) = c * (28 + 20 * i) + c * (20 * (j - i)) := by rw [← Nat.mul_add]; congr 1; omega
  have h5 : c * 20 ≤ c * (20 * (j - i)) := Nat.mul_le_mul_left _ (by omega)
  omega
theorem serRow_congr {p x : List Rat} {s s' : Nat → Nat → Rat} {n i : Nat} {r : Row} (wf : RowWf n i r) (h : ∀ j, j ≤ i → s' j = s j) (e : SerRow p x s i r) : SerRow p x s' i r := by
  have hi := h i (Nat.le_refl _)
  cases r with
  | num q => show ∀ k, s' i k = _; rw [hi]; exact e
  | let_ c => show ∀ k, s' i k = _; rw [hi]; exact e
  | op w a b =>
    have ha := h a (Nat.le_of_lt wf.1)
    have hb := h b (Nat.le_of_lt wf.2)
    cases w with
    | plus => show ∀ k, s' i k = s' a k + s' b k; rw [hi, ha, hb]; exact e
    | less => show ∀ k, s' i k = s' a k - s' b k; rw [hi, ha, hb]; exact e
    | times => show ∀ k, s' i k = cau (s' a) (s' b) k; rw [hi, ha, hb]; exact e
    | over => show ∀ k, s' a k = cau (s' b) (s' i) k; rw [hi, ha, hb]; exact e
theorem ser_ex {n : Nat} {p x : List Rat} {rows : List Row} (h : Olds n 5 rows) (hp : ∀ q ∈ p, PtOk q) (lp : p.length = n) (hx : ∀ q ∈ x, PtOk q) (lx : x.length = n) : ∀ m, ∃ s, Ser p x rows m s := fun m => by
  induction m with
  | zero => exact ⟨fun _ _ => 0, fun i r hi => absurd hi (Nat.not_lt_zero _), fun i hi => absurd hi (Nat.not_lt_zero _)⟩
  | succ m ih =>
    obtain ⟨s, se⟩ := ih
    by_cases hm : m < rows.length
    · have e : rows[m]? = some (rows[m]) := List.getElem?_eq_getElem hm
      generalize hr : rows[m] = r at e
      have rok := h m r e
      have wf := h.wf m r e
      have hw5 : wt rows m ≤ 5 := by unfold wt; rw [wt_eq e wf, ← wt_eqT e wf]; exact rok.w1
      have hwe : wt rows m = (wtOf (wtsF rows) r).1 := by unfold wt; rw [wt_eq e wf]
      have hde : dgAt rows m = dgOf (dgF rows) r := by unfold dgAt; rw [dg_eq e wf]
      have up : ∀ f : Nat → Rat, SerOk rows m f → (∀ s' : Nat → Nat → Rat, s' m = f → (∀ j, j < m → s' j = s j) → SerRow p x s' m r) → ∃ s, Ser p x rows (m + 1) s := fun f fo fr => by
        refine ⟨fun i => if i = m then f else s i, fun i r' hi ei => ?_, fun i hi hl => ?_⟩
        · by_cases q : i = m
          · subst q
            rw [e] at ei
            cases ei
            exact fr _ (if_pos rfl) fun j hj => if_neg (by omega)
          · refine serRow_congr (h.wf i r' ei) (fun j hj => ?_) (se.eqn i r' (by omega) ei)
            exact if_neg (by omega)
        · by_cases q : i = m
          · subst q
            show SerOk rows i (if i = i then f else s i)
            rw [if_pos rfl]
            exact fo
          · show SerOk rows i (if i = m then f else s i)
            rw [if_neg q]
            exact se.ok i (by omega) hl
      cases r with
      | num q =>
        refine up (fun k => if k = 0 then q else 0) ⟨fun k hk => if_neg (by omega), ?_, ?_⟩ fun s' e1 _ k => ?_
        · rw [hwe]; exact Nat.le_refl 1
        · rw [hwe]
          refine (GS.of2 (f := fun k => if k = 0 then q else 0) (B0 := 12 * 1000000) (B1 := 0) (rok.num q rfl) (.zero _ _) fun k hk => if_neg (by omega)).mono ?_
          exact Nat.le_trans (show 12 * 1000000 + 0 ≤ 2 ^ (1 * 28) by decide) (Nat.pow_le_pow_right (by decide) (by show 1 * 28 ≤ 1 * (28 + 20 * m); omega))
        · rw [e1]
      | let_ c =>
        have hc : c < n := wf
        have d1 : dgAt rows m = 1 := hde
        refine up (fun k => if k = 0 then p.getD c 0 else if k = 1 then x.getD c 0 - p.getD c 0 else 0) ⟨fun k hk => ?_, ?_, ?_⟩ fun s' e1 _ k => ?_
        · rw [d1] at hk
          show (if k = 0 then _ else if k = 1 then _ else (0 : Rat)) = 0
          rw [if_neg (by omega), if_neg (by omega)]
        · rw [hwe]; exact Nat.le_refl 1
        · rw [hwe]
          refine (GS.of2 (f := fun k => if k = 0 then p.getD c 0 else if k = 1 then x.getD c 0 - p.getD c 0 else 0) (B0 := 4096) (B1 := 4096 + 4096) (hp _ (mem_getD (by omega))) ((hx _ (mem_getD (by omega))).sub (hp _ (mem_getD (by omega)))) fun k hk => ?_).mono ?_
          · show (if k = 0 then _ else if k = 1 then _ else (0 : Rat)) = 0
            rw [if_neg (by omega), if_neg (by omega)]
          · exact Nat.le_trans (show 4096 + (4096 + 4096) ≤ 2 ^ (1 * 28) by decide) (Nat.pow_le_pow_right (by decide) (by show 1 * 28 ≤ 1 * (28 + 20 * m); omega))
        · rw [e1]
      | op w a b =>
        obtain ⟨ha, hb⟩ := wf
        have oa := se.ok a ha (by omega)
        have ob := se.ok b hb (by omega)
        have a1 := oa.w1
        have b1 := ob.w1
        cases w with
        | plus =>
          have hm : wt rows m = max (wt rows a + ((wtsF rows).getD b (0, 0)).2) (wt rows b + ((wtsF rows).getD a (0, 0)).2) := hwe
          have hd : dgAt rows m = max (dgAt rows a) (dgAt rows b) := hde
          have hca : wt rows a ≤ wt rows m := by omega
          have hcb : wt rows b ≤ wt rows m := by omega
          have hc1 : 1 ≤ wt rows m := by omega
          refine up (fun k => s a k + s b k) ⟨fun k hk => ?_, hc1, ?_⟩ fun s' e1 e2 k => ?_
          · show s a k + s b k = 0
            rw [oa.dg k (by omega), ob.dg k (by omega)]; grind
          · refine ((gs_up (B := 0) oa.sz hca hw5 ha hc1).add (gs_up (B := 0) ob.sz hcb hw5 hb hc1)).mono ?_
            rw [← Nat.two_mul, ← Nat.pow_succ']
            refine Nat.pow_le_pow_right (by decide) ?_
            have : 28 ≤ wt rows m * (28 + 20 * m) := Nat.le_trans (by omega) (Nat.mul_le_mul hc1 (show 28 ≤ 28 + 20 * m by omega))
            omega
          · rw [e1, e2 a ha, e2 b hb]
        | less =>
          have hm : wt rows m = max (wt rows a + ((wtsF rows).getD b (0, 0)).2) (wt rows b + ((wtsF rows).getD a (0, 0)).2) := hwe
          have hd : dgAt rows m = max (dgAt rows a) (dgAt rows b) := hde
          have hca : wt rows a ≤ wt rows m := by omega
          have hcb : wt rows b ≤ wt rows m := by omega
          have hc1 : 1 ≤ wt rows m := by omega
          refine up (fun k => s a k - s b k) ⟨fun k hk => ?_, hc1, ?_⟩ fun s' e1 e2 k => ?_
          · show s a k - s b k = 0
            rw [oa.dg k (by omega), ob.dg k (by omega)]; grind
          · refine ((gs_up (B := 0) oa.sz hca hw5 ha hc1).sub (gs_up (B := 0) ob.sz hcb hw5 hb hc1)).mono ?_
            rw [← Nat.two_mul, ← Nat.pow_succ']
            refine Nat.pow_le_pow_right (by decide) ?_
            have : 28 ≤ wt rows m * (28 + 20 * m) := Nat.le_trans (by omega) (Nat.mul_le_mul hc1 (show 28 ≤ 28 + 20 * m by omega))
            omega
          · rw [e1, e2 a ha, e2 b hb]
        | times =>
          have hm : wt rows m = wt rows a + wt rows b := hwe
          have hd : dgAt rows m = dgAt rows a + dgAt rows b := hde
          refine up (cau (s a) (s b)) ⟨fun k hk => cau_dg oa.dg ob.dg k (by omega), by omega, ?_⟩ fun s' e1 e2 k => ?_
          · rw [hm, Nat.pow_add]
            refine (oa.sz.cau ob.sz).mono ?_
            unfold bnd
            rw [← Nat.pow_add]
            refine Nat.pow_le_pow_right (by decide) ?_
            rw [Nat.add_mul]
            exact Nat.add_le_add (Nat.mul_le_mul_left _ (by omega)) (Nat.mul_le_mul_left _ (by omega))
          · rw [e1, e2 a ha, e2 b hb]
        | over =>
          obtain ⟨c, d, ec, hcd⟩ := rok.ov a b rfl
          have ec' : rows[a]? = some (.op .times c d) := by
            rw [List.getElem?_take_of_lt ha] at ec
            exact ec
          obtain ⟨hc, hd⟩ := h.wf a _ ec'
          have hm : wt rows m = wt rows a + ((wtsF rows).getD b (0, 0)).2 := hwe
          have hdm : dgAt rows m = dgAt rows a - dgAt rows b := hde
          have wa : wt rows a = wt rows c + wt rows d := by unfold wt; rw [wt_eq ec' (n := n) ⟨hc, hd⟩]; rfl
          have da : dgAt rows a = dgAt rows c + dgAt rows d := by unfold dgAt; rw [dg_eq ec' (n := n) ⟨hc, hd⟩]; rfl
          have ea : ∀ k, s a k = cau (s c) (s d) k := se.eqn a _ ha ec'
          have key : ∀ f, f < m → wt rows f ≤ wt rows a → dgAt rows f ≤ dgAt rows m → (∀ k, s a k = cau (s b) (s f) k) → ∃ s, Ser p x rows (m + 1) s := fun f hf hwf hdf ev => by
            have of := se.ok f hf (by omega)
            have f1 := of.w1
            refine up (s f) ⟨fun k hk => of.dg k (by omega), by omega, ?_⟩ fun s' e1 e2 k => ?_
            · exact (gs_up (B := 0) of.sz (show wt rows f ≤ wt rows m by omega) hw5 hf (by omega)).mono (Nat.pow_le_pow_right (by decide) (by omega))
            · rw [e1, e2 a ha, e2 b hb]; exact ev k
          rcases hcd with rfl | rfl
          · exact key d (by omega) (by omega) (by omega) ea
          · exact key c (by omega) (by omega) (by omega) fun k => by rw [ea k, cau_comm]
    · exact ⟨s, fun i r hi ei => se.eqn i r (by have := (List.getElem?_eq_some_iff.mp ei).1; omega) ei, fun i hi hl => se.ok i (by omega) hl⟩
/-- at degree nought it is the value at the point -/
theorem ser_zero {n m : Nat} {p x : List Rat} {rows : List Row} {s : Nat → Nat → Rat} (h : Olds n 5 rows) (se : Ser p x rows m s) (g : GoodTo p rows rows.length) : ∀ t i, i < t → i < m → i < rows.length → s i 0 = (valsF p rows).getD i 0 := fun t => by
  induction t with
  | zero => intro i hi; omega
  | succ t ih =>
    intro i hit him hi
    have e : rows[i]? = some (rows[i]) := List.getElem?_eq_getElem hi
    generalize hr : rows[i] = r at e
    have wf := h.wf i r e
    have q := se.eqn i r him e
    rw [val_eq p e wf]
    cases r with
    | num q' => exact q 0
    | let_ c => exact q 0
    | op w a b =>
      obtain ⟨ha, hb⟩ := wf
      have va := ih a (by omega) (by omega) (by omega)
      have vb := ih b (by omega) (by omega) (by omega)
      cases w with
      | plus => show _ = _ + _; rw [← va, ← vb]; exact q 0
      | less => show _ = _ - _; rw [← va, ← vb]; exact q 0
      | times => show _ = _ * _; rw [← va, ← vb, q 0, cau_zero]
      | over =>
        have nz := good_div (n := n) g e ⟨ha, hb⟩
        have q0 := q 0
        rw [cau_zero] at q0
        show _ = _ / _
        rw [← vb] at nz
        rw [← va, ← vb, q0]
        grind
/-- the sum of its degrees is the value at the other point -/
theorem ser_sum {n m N : Nat} {p x : List Rat} {rows : List Row} {s : Nat → Nat → Rat} (h : Olds n 5 rows) (se : Ser p x rows m s) (g : GoodTo x rows rows.length) (hN : 5 < N) (hdg : ∀ i, i < rows.length → dgAt rows i ≤ 5) : ∀ t i, i < t → i < m → i < rows.length → sumR (s i) N = (valsF x rows).getD i 0 := fun t => by
  induction t with
  | zero => intro i hi; omega
  | succ t ih =>
    intro i hit him hi
    have e : rows[i]? = some (rows[i]) := List.getElem?_eq_getElem hi
    generalize hr : rows[i] = r at e
    have wf := h.wf i r e
    have q := se.eqn i r him e
    have d5 := hdg i hi
    have hde : dgAt rows i = dgOf (dgF rows) r := by unfold dgAt; rw [dg_eq e wf]
    rw [val_eq x e wf]
    obtain ⟨M, rfl⟩ : ∃ M, N = M + 2 := ⟨N - 2, by omega⟩
    cases r with
    | num q' =>
      have q1 : ∀ k, s i k = if k = 0 then q' else 0 := q
      rw [sumR_stop (a := 0) (fun k hk => by rw [q1 k, if_neg (by omega)]) (by omega)]
      show (0 : Rat) + s i 0 = q'
      rw [q1 0, if_pos rfl]; grind
    | let_ c =>
      have q1 : ∀ k, s i k = if k = 0 then p.getD c 0 else if k = 1 then x.getD c 0 - p.getD c 0 else 0 := q
      rw [sumR_stop (a := 1) (fun k hk => by rw [q1 k, if_neg (by omega), if_neg (by omega)]) (by omega)]
      show (0 : Rat) + s i 0 + s i 1 = x.getD c 0
      rw [q1 0, q1 1, if_pos rfl, if_neg (by omega), if_pos rfl]; grind
    | op w a b =>
      obtain ⟨ha, hb⟩ := wf
      have va := ih a (by omega) (by omega) (by omega)
      have vb := ih b (by omega) (by omega) (by omega)
      have oa := se.ok a (by omega) (by omega)
      have ob := se.ok b (by omega) (by omega)
      have oi := se.ok i him hi
      have da := hdg a (by omega)
      have db := hdg b (by omega)
      cases w with
      | plus =>
        have q1 : ∀ k, s i k = s a k + s b k := q
        show _ = _ + _; rw [← va, ← vb, ← sumR_add]; exact sumR_congr fun k _ => q1 k
      | less =>
        have q1 : ∀ k, s i k = s a k - s b k := q
        show _ = _ - _; rw [← va, ← vb, ← sumR_sub]; exact sumR_congr fun k _ => q1 k
      | times =>
        have q1 : ∀ k, s i k = cau (s a) (s b) k := q
        have hd : dgAt rows i = dgAt rows a + dgAt rows b := hde
        show _ = _ * _; rw [← va, ← vb, ← cau_sum oa.dg ob.dg (by omega)]; exact sumR_congr fun k _ => q1 k
      | over =>
        have q1 : ∀ k, s a k = cau (s b) (s i) k := q
        have nz := good_div (n := n) g e ⟨ha, hb⟩
        obtain ⟨c, d, ec, hcd⟩ := (h i _ e).ov a b rfl
        have ec' : rows[a]? = some (.op .times c d) := by
          rw [List.getElem?_take_of_lt ha] at ec
          exact ec
        have da2 : dgAt rows a = dgAt rows c + dgAt rows d := by unfold dgAt; rw [dg_eq ec' (n := n) (h.wf a _ ec')]; rfl
        have hd : dgAt rows i = dgAt rows a - dgAt rows b := hde
        have hle : dgAt rows b + dgAt rows i ≤ 5 := by
          rcases hcd with rfl | rfl <;> omega
        have e1 : sumR (s a) (M + 2) = sumR (s b) (M + 2) * sumR (s i) (M + 2) := by
          rw [← cau_sum ob.dg oi.dg (by omega)]; exact sumR_congr fun k _ => q1 k
        show _ = _ / _
        rw [← vb] at nz
        rw [← va, ← vb, e1]
        grind
end U
set_option Elab.async false
set_option linter.all false
set_option maxRecDepth 100000
set_option maxHeartbeats 4000000
/-! Plain law 2: forms, their sizes and marks. -/
namespace U
def EE : Nat := 248832
def BB : Nat := 2 ^ 1139
theorem EE_pos : 0 < EE := by decide
theorem BB_pos : 0 < BB := Nat.pow_pos (by decide)
theorem EE_le : EE ≤ BB := Nat.le_trans (show EE ≤ 2 ^ 18 by decide) (Nat.pow_le_pow_right (by decide) (by decide))
structure Gf (S : Mark → Prop) (d D N L : Nat) (f : Form) : Prop where
  fm : Fm f
  len : f.length ≤ L
  gr : ∀ p ∈ f, p.1.length ≤ d ∧ Gd (EE ^ (d - p.1.length) * D) (N * BB ^ (d - p.1.length)) p.2
  ins : ∀ p ∈ f, ∀ m ∈ p.1, S m
variable {S S' : Mark → Prop} {d D N N' L L' : Nat} {f g : Form}
theorem Gf.wk (h : Gf S d D N L f) (hS : ∀ m, S m → S' m) (hN : N ≤ N') (hL : L ≤ L') : Gf S' d D N' L' f :=
  ⟨h.fm, Nat.le_trans h.len hL, fun p hp => ⟨(h.gr p hp).1, (h.gr p hp).2.mono (Nat.mul_le_mul_right _ hN)⟩, fun p hp m hm => hS m (h.ins p hp m hm)⟩
theorem Gf.nil : Gf S d D N L [] := ⟨.nil, Nat.zero_le _, (fun p hp => by cases hp), (fun p hp => by cases hp)⟩
theorem Gf.add (hf : Gf S d D N L f) (hg : Gf S d D N' L' g) : Gf S d D (N + N') (L + L') (addF f g) := by
  refine ⟨hf.fm.add hg.fm, Nat.le_trans (addF_len f g) (Nat.add_le_add hf.len hg.len), fun p hp => ?_, fun p hp m hm => ?_⟩
  · rcases addF_mem hg.fm hp with h | ⟨q, hq, e1, e2⟩
    · exact ⟨(hf.gr p h).1, (hf.gr p h).2.mono (Nat.mul_le_mul_right _ (by omega))⟩
    · obtain ⟨g1, g2⟩ := hg.gr q hq
      rw [e1, e2]
      refine ⟨g1, ?_⟩
      rw [Nat.add_mul]
      refine Gd.add ?_ g2
      cases z : tget f q.1 with
      | none => exact .zero _ _
      | some c =>
        have := (hf.gr _ (tget_mem z)).2
        exact this
  · rcases addF_mem hg.fm hp with h | ⟨q, hq, e1, e2⟩
    · exact hf.ins p h m hm
    · rw [e1] at hm
      exact hg.ins q hq m hm
theorem gd_neg1 {D B : Nat} {q : Rat} (h : Gd D B q) : Gd D B (q * (-1)) := by
  have := h.neg
  rwa [show q * (-1) = -q by grind]
theorem Gf.neg (h : Gf S d D N L f) : Gf S d D N L (scF f (-1)) := by
  refine ⟨h.fm.sc _, Nat.le_trans (scF_len _ _) h.len, fun p hp => ?_, fun p hp m hm => ?_⟩
  · obtain ⟨r, hr, rfl⟩ := scF_mem hp
    exact ⟨(h.gr r hr).1, gd_neg1 (h.gr r hr).2⟩
  · obtain ⟨r, hr, rfl⟩ := scF_mem hp
    exact h.ins r hr m hm
theorem Gf.off (hf : Gf S d D N L f) (hg : Gf S d D N' L' g) : Gf S d D (N + N') (L + L') (offF f g) := hf.add hg.neg
/-- times a number that is one over v -/
theorem Gf.sc (h : Gf S 2 1 N L f) {v : Rat} {Z : Nat} (hv : Gd Z EE v) : Gf S 2 Z (N * EE) L (scF f v) := by
  refine ⟨h.fm.sc _, Nat.le_trans (scF_len _ _) h.len, fun p hp => ?_, fun p hp m hm => ?_⟩
  · obtain ⟨r, hr, rfl⟩ := scF_mem hp
    obtain ⟨h1, h2⟩ := h.gr r hr
    refine ⟨h1, ?_⟩
    have h3 := h2.mul hv
    rw [Nat.mul_one] at h3
    rw [Nat.mul_assoc, Nat.mul_comm EE, ← Nat.mul_assoc]
    exact h3
  · obtain ⟨r, hr, rfl⟩ := scF_mem hp
    exact h.ins r hr m hm
theorem natR_ne {D : Nat} (h : 0 < D) : ((D : Int) : Rat) ≠ 0 := fun e => by
  have : (D : Int) = 0 := by exact_mod_cast e
  omega
theorem gd_inv {D B : Nat} {v : Rat} (hD : 0 < D) (h : Gd D B v) (nz : v ≠ 0) : ∃ Z, 0 < Z ∧ Z ≤ B ∧ Gd Z D (1 / v) := by
  obtain ⟨z, h1, h2⟩ := h
  have d0 := natR_ne hD
  have hz : z ≠ 0 := fun e => by
    rw [e] at h1
    have h3 : v * ((D : Int) : Rat) = 0 := h1
    grind
  refine ⟨z.natAbs, by omega, h2, ?_⟩
  by_cases s : 0 ≤ z
  · refine ⟨D, ?_, by omega⟩
    rw [show ((z.natAbs : Nat) : Int) = z by omega, ← h1]
    grind
  · refine ⟨-D, ?_, by omega⟩
    rw [show ((z.natAbs : Nat) : Int) = -z by omega, Rat.intCast_neg, Rat.intCast_neg, ← h1]
    grind
theorem Gf.up (h : Gf S 1 D N L f) : Gf S 2 D N L f := by
  refine ⟨h.fm, h.len, fun p hp => ?_, h.ins⟩
  obtain ⟨h1, h2⟩ := h.gr p hp
  refine ⟨by omega, ?_⟩
  have e : 2 - p.1.length = (1 - p.1.length) + 1 := by omega
  rw [e, Nat.pow_succ, Nat.pow_succ]
  have h3 := (h2.wide EE).mono (B' := N * (BB ^ (1 - p.1.length) * BB)) (by
    rw [← Nat.mul_assoc]
    exact Nat.mul_le_mul_left _ EE_le)
  rw [Nat.mul_assoc, Nat.mul_comm EE, ← Nat.mul_assoc]
  exact h3
theorem Gf.lin (h : Gf S 1 D N L f) : Lin f := ⟨fun p hp => (h.gr p hp).1, h.fm⟩
/-- a row of a product -/
theorem Gf.mrow {p : Mono × Rat} (hf : Gf S 1 1 N L f) (hp : p ∈ f) (hg : Gf S 1 1 N' L' g) : Gf S 2 1 (N * N') L' (mulRow p g) := by
  obtain ⟨h1, h2⟩ := hf.gr p hp
  refine ⟨Fm.mulRow (hf.fm.ks p hp) h1 hg.lin, by rw [mulRow_len p hg.lin]; exact hg.len, fun q hq => ?_, fun q hq m hm => ?_⟩
  · rw [mulRow_is p hg.lin] at hq
    obtain ⟨r, hr, rfl⟩ := List.mem_map.mp hq
    obtain ⟨g1, g2⟩ := hg.gr r hr
    have l : (srtM (p.1 ++ r.1)).length = p.1.length + r.1.length := by rw [(srtM_perm _).length_eq, List.length_append]
    show (srtM (p.1 ++ r.1)).length ≤ 2 ∧ Gd (EE ^ (2 - (srtM (p.1 ++ r.1)).length) * 1) (N * N' * BB ^ (2 - (srtM (p.1 ++ r.1)).length)) (p.2 * r.2)
    rw [l]
    refine ⟨by omega, ?_⟩
    have e : 2 - (p.1.length + r.1.length) = (1 - p.1.length) + (1 - r.1.length) := by omega
    have h3 := h2.mul g2
    rw [Nat.mul_one, Nat.mul_one, ← Nat.pow_add, ← e] at h3
    rw [Nat.mul_one]
    refine h3.mono ?_
    rw [e, Nat.pow_add, Nat.mul_assoc, Nat.mul_left_comm (BB ^ (1 - p.1.length)), ← Nat.mul_assoc]
    exact Nat.le_refl _
  · rw [mulRow_is p hg.lin] at hq
    obtain ⟨r, hr, rfl⟩ := List.mem_map.mp hq
    rcases List.mem_append.mp ((srtM_perm _).mem_iff.mp hm) with h | h
    · exact hf.ins p hp m h
    · exact hg.ins r hr m h
theorem Gf.mfold (hf : Gf S 1 1 N L f) (hg : Gf S 1 1 N' L' g) : ∀ (ps : Form) (acc : Form) (A : Nat) (C : Nat), (∀ p ∈ ps, p ∈ f) → Gf S 2 1 A C acc → Gf S 2 1 (A + ps.length * (N * N')) (C + ps.length * L') (ps.foldl (fun found p => addF found (mulRow p g)) acc)
  | [], acc, A, C, _, h => by
    rw [List.length_nil, Nat.zero_mul, Nat.zero_mul]
    exact h
  | p :: ps, acc, A, C, hp, h => by
    have h1 := Gf.mfold hf hg ps (addF acc (mulRow p g)) _ _ (fun q hq => hp q (List.mem_cons_of_mem _ hq)) (h.add (hf.mrow (hp p (List.mem_cons_self ..)) hg))
    rw [List.length_cons, Nat.add_mul, Nat.add_mul, Nat.one_mul, Nat.one_mul, Nat.add_comm (ps.length * (N * N')), Nat.add_comm (ps.length * L'), ← Nat.add_assoc, ← Nat.add_assoc]
    exact h1
theorem Gf.mul (hf : Gf S 1 1 N L f) (hg : Gf S 1 1 N' L' g) : Gf S 2 1 (L * (N * N')) (L * L') (mulF f g) := by
  have h := Gf.mfold hf hg f [] 0 0 (fun _ h => h) .nil
  refine h.wk (fun _ h => h) ?_ ?_
  · rw [Nat.zero_add]; exact Nat.mul_le_mul_right _ hf.len
  · rw [Nat.zero_add]; exact Nat.mul_le_mul_right _ hf.len
theorem lt_44 {a b c : Nat} (h : a + b ≤ c) (hc : c < 4400) {x y : Nat} (hx : x ≤ 2 ^ a) (hy : y ≤ 2 ^ b) : x * y < 2 ^ 4400 := by
  refine Nat.lt_of_le_of_lt (Nat.mul_le_mul hx hy) ?_
  rw [← Nat.pow_add]
  exact Nat.pow_lt_pow_right (by decide) (by omega)
theorem EE2 {l : Nat} (h : l ≤ 2) : EE ^ l ≤ 2 ^ 36 := by
  have : EE ^ l ≤ EE ^ 2 := Nat.pow_le_pow_right EE_pos h
  exact Nat.le_trans this (by decide)
theorem BB2 {l : Nat} (h : l ≤ 2) : BB ^ l ≤ 2 ^ 2278 := by
  unfold BB
  rw [← Nat.pow_mul]
  exact Nat.pow_le_pow_right (by decide) (by omega)
theorem Gf.sz (h : Gf S d D N L f) (hd : d ≤ 2) (hD0 : 0 < D) (hD : D ≤ BB) (hN : N ≤ 2 ^ 100) : SzF f := fun p hp => by
  obtain ⟨h1, h2⟩ := h.gr p hp
  refine h2.sz (Nat.mul_pos (Nat.pow_pos EE_pos) hD0) ?_ ?_
  · exact lt_44 (a := 36) (b := 1139) (c := 1175) (by decide) (by decide) (EE2 (by omega)) hD
  · exact lt_44 (a := 100) (b := 2278) (c := 2378) (by decide) (by decide) hN (BB2 (by omega))
theorem one_le_BB : 1 ≤ BB := BB_pos
theorem Gf.mok (hf : Gf S 1 1 N L f) (hg : Gf S 1 1 N' L' g) (hL : L * (N * N') ≤ 2 ^ 100) (hL1 : 1 ≤ L) : MulOk f g := by
  refine ⟨fun i hi => ?_, fun p hp => ?_⟩
  · have h := Gf.mfold hf hg (f.take i) [] 0 0 (fun p h => List.mem_of_mem_take h) .nil
    refine h.sz (Nat.le_refl _) (by decide) one_le_BB (Nat.le_trans ?_ hL)
    rw [Nat.zero_add]
    refine Nat.mul_le_mul_right _ (Nat.le_trans ?_ hf.len)
    rw [List.length_take]
    exact Nat.min_le_right ..
  · refine (hf.mrow hp hg).sz (Nat.le_refl _) (by decide) one_le_BB (Nat.le_trans ?_ hL)
    exact Nat.le_mul_of_pos_left _ hL1
/-- forms of one mark, of a number, of a letter's way from the point -/
theorem Gf.num {q : Rat} (h : Gd EE BB q) : Gf S 1 1 1 1 (numF q) := by
  refine ⟨.num q, num_len q, fun p hp => ?_, fun p hp m hm => ?_⟩
  · unfold numF at hp
    split at hp
    · cases hp
    · rw [List.mem_singleton] at hp
      subst hp
      refine ⟨Nat.zero_le _, ?_⟩
      show Gd (EE ^ 1 * 1) (1 * BB ^ 1) q
      rw [Nat.pow_one, Nat.pow_one, Nat.mul_one, Nat.one_mul]
      exact h
  · unfold numF at hp
    split at hp
    · cases hp
    · rw [List.mem_singleton] at hp
      subst hp
      cases hm
theorem Gf.mark {m : Mark} (h : OkMark m) (hS : S m) : Gf S 1 1 1 1 (markF m) := by
  refine ⟨.mark h, Nat.le_refl _, fun p hp => ?_, fun p hp n hn => ?_⟩
  · unfold markF at hp
    rw [List.mem_singleton] at hp
    subst hp
    refine ⟨Nat.le_refl _, ?_⟩
    show Gd (EE ^ 0 * 1) (1 * BB ^ 0) 1
    exact .one 1
  · unfold markF at hp
    rw [List.mem_singleton] at hp
    subst hp
    rw [List.mem_singleton] at hn
    subst hn
    exact hS
end U
set_option Elab.async false
set_option linter.all false
set_option maxRecDepth 100000
set_option maxHeartbeats 4000000
/-! Plain law 3: the rules' table. -/
namespace U
def Dom (most i k j e : Nat) : Prop := 1 ≤ e ∧ e ≤ most ∧ (j < i ∨ (j = i ∧ e ≤ k))
section
variable {rows : List Row} {pt : List Rat} {most : Nat}
theorem mkI_inj {i k j e : Nat} (h : mkI j e = mkI i k) : j = i ∧ e = k := by
  have h1 := congrArg Prod.fst h
  have h2 := congrArg Prod.snd h
  simp only at h1 h2
  omega
theorem stage_zero (i : Nat) : stage rows pt most i 0 = stageI rows pt most i := rfl
theorem stage_succ (i k : Nat) : stage rows pt most i (k + 1) = kstep i (stage rows pt most i k) k := range_fold _ _ _
theorem stageI_len : stageI rows pt most rows.length = rulesF rows pt most := rfl
theorem stage_rows (i k : Nat) : (stage rows pt most i k).rows = rows := (rk_stage rows pt most i k).rows
theorem stage_came (i k : Nat) : (stage rows pt most i k).came = valsF pt rows := (rk_stage rows pt most i k).came
theorem stage_point (i k : Nat) : (stage rows pt most i k).point = pt := (rk_stage rows pt most i k).point
theorem stage_put (i k j e : Nat) : tget (stage rows pt most i (k + 1)).rules (mkI j e) = if j = i ∧ e = k + 1 then some (ruleF (stage rows pt most i k) (rows.getD i (.num 0)) i (k + 1)) else tget (stage rows pt most i k).rules (mkI j e) := by
  rw [stage_succ]
  show tget (tput _ _ _) _ = _
  rw [tget_put]
  have e0 : rowAt (stage rows pt most i k) i = rows.getD i (.num 0) := by unfold rowAt; rw [stage_rows]
  rw [e0]
  by_cases q : j = i ∧ e = k + 1
  · rw [if_pos q, if_pos (by rw [q.1, q.2])]
  · rw [if_neg q, if_neg fun z => q (mkI_inj z)]
theorem stage_dom : ∀ i k, k ≤ most → ∀ j e, (tget (stage rows pt most i k).rules (mkI j e)).isSome = true ↔ Dom most i k j e := by
  intro i
  induction i with
  | zero =>
    intro k
    induction k with
    | zero =>
      intro _ j e
      show (tget ([] : List (Mark × Form)) (mkI j e)).isSome = true ↔ _
      rw [tget_nil]
      constructor
      · intro h; cases h
      · rintro ⟨h1, h2, h3⟩; omega
    | succ k ih =>
      intro hk j e
      rw [stage_put]
      split
      · rename_i q
        constructor
        · intro _; exact ⟨by omega, by omega, .inr ⟨q.1, by omega⟩⟩
        · intro _; rfl
      · rename_i q
        rw [ih (by omega) j e]
        constructor
        · rintro ⟨h1, h2, h3⟩; exact ⟨h1, h2, by omega⟩
        · rintro ⟨h1, h2, h3⟩; exact ⟨h1, h2, by omega⟩
  | succ i ihi =>
    intro k
    induction k with
    | zero =>
      intro _ j e
      rw [stage_zero, ← stage_most, ihi most (Nat.le_refl _) j e]
      constructor
      · rintro ⟨h1, h2, h3⟩; exact ⟨h1, h2, by omega⟩
      · rintro ⟨h1, h2, h3⟩; exact ⟨h1, h2, by omega⟩
    | succ k ih =>
      intro hk j e
      rw [stage_put]
      split
      · rename_i q
        constructor
        · intro _; exact ⟨by omega, by omega, .inr ⟨q.1, by omega⟩⟩
        · intro _; rfl
      · rename_i q
        rw [ih (by omega) j e]
        constructor
        · rintro ⟨h1, h2, h3⟩; exact ⟨h1, h2, by omega⟩
        · rintro ⟨h1, h2, h3⟩; exact ⟨h1, h2, by omega⟩
/-- what stands in the table stays -/
theorem stage_k {i k j e : Nat} (h : Dom most i k j e) : ∀ k', k ≤ k' → k' ≤ most → tget (stage rows pt most i k').rules (mkI j e) = tget (stage rows pt most i k).rules (mkI j e) := fun k' => by
  induction k' with
  | zero => intro h1 _; rw [Nat.le_zero.mp h1]
  | succ k' ih =>
    intro h1 h2
    by_cases q : k = k' + 1
    · rw [q]
    · rw [stage_put, if_neg, ih (by omega) (by omega)]
      rintro ⟨z1, z2⟩
      obtain ⟨_, _, z⟩ := h
      omega
theorem stage_i {i k j e : Nat} (hk : k ≤ most) (h : Dom most i k j e) : ∀ i', i < i' → tget (stageI rows pt most i').rules (mkI j e) = tget (stage rows pt most i k).rules (mkI j e) := fun i' => by
  induction i' with
  | zero => intro h1; omega
  | succ i' ih =>
    intro h1
    rw [← stage_most]
    by_cases q : i = i'
    · subst q
      exact stage_k h most hk (Nat.le_refl _)
    · have h2 := ih (by omega)
      rw [← h2]
      refine stage_k (k := 0) ?_ most (Nat.zero_le _) (Nat.le_refl _)
      obtain ⟨z1, z2, z3⟩ := h
      exact ⟨z1, z2, by omega⟩
theorem stage_end {i k j e : Nat} (hi : i < rows.length) (hk : k ≤ most) (h : Dom most i k j e) : tget (rulesF rows pt most).rules (mkI j e) = tget (stage rows pt most i k).rules (mkI j e) := stage_i hk h _ hi
theorem rules_rows : (rulesF rows pt most).rows = rows := (rk_rules rows pt most).rows
theorem rules_came : (rulesF rows pt most).came = valsF pt rows := (rk_rules rows pt most).came
theorem rules_point : (rulesF rows pt most).point = pt := (rk_rules rows pt most).point
theorem rules_most : (rulesF rows pt most).most = most := (rk_rules rows pt most).most
theorem rules_dom {j e : Nat} : (tget (rulesF rows pt most).rules (mkI j e)).isSome = true ↔ (1 ≤ e ∧ e ≤ most ∧ j < rows.length) := by
  rw [← stageI_len, ← stage_zero, stage_dom _ _ (Nat.zero_le _)]
  constructor
  · rintro ⟨h1, h2, h3⟩; exact ⟨h1, h2, by omega⟩
  · rintro ⟨h1, h2, h3⟩; exact ⟨h1, h2, by omega⟩
theorem rget_stage {i k j e : Nat} (hi : i < rows.length) (hk : k ≤ most) (h : Dom most i k j e) : rget (stage rows pt most i k) j e = rget (rulesF rows pt most) j e := by
  unfold rget
  rw [stage_end hi hk h]
theorem read_stage {i k j e : Nat} (hi : i < rows.length) (hk : k ≤ most) (h : e = 0 ∨ Dom most i k j e) : readF (stage rows pt most i k) j e = readF (rulesF rows pt most) j e := by
  unfold readF
  by_cases q : e = 0
  · rw [if_pos q, if_pos q, stage_came, rules_came]
  · rw [if_neg q, if_neg q]
    have h' : Dom most i k j e := h.resolve_left q
    have e1 : rowAt (stage rows pt most i k) j = rowAt (rulesF rows pt most) j := by unfold rowAt; rw [stage_rows, rules_rows]
    rw [e1, rget_stage hi hk h']
theorem foldl_congrX {α : Type} {f g : α → Nat → α} : ∀ {n : Nat} {x : α}, (∀ t y, t < n → f y t = g y t) → (List.range n).foldl f x = (List.range n).foldl g x
  | 0, _, _ => rfl
  | n + 1, x, h => by
    rw [range_fold, range_fold, foldl_congrX (n := n) fun t y ht => h t y (by omega), h n _ (by omega)]
theorem tog_congr {R R' : Rul} {i j k least : Nat} (h1 : ∀ e, least ≤ e → e ≤ k → readF R i e = readF R' i e) (h2 : ∀ e, least ≤ e → e ≤ k → readF R j (k - e) = readF R' j (k - e)) : togF R i j k least = togF R' i j k least := by
  unfold togF
  refine foldl_congrX fun t y ht => ?_
  unfold togStep
  rw [h1 (least + t) (by omega) (by omega), h2 (least + t) (by omega) (by omega)]
/-- a rule is the same by the whole table -/
theorem rule_stage {n i k : Nat} {r : Row} (hi : i < rows.length) (hk : k < most) (wf : RowWf n i r) : ruleF (stage rows pt most i k) r i (k + 1) = ruleF (rulesF rows pt most) r i (k + 1) := by
  have rd : ∀ a e, a < i → e ≤ k + 1 → readF (stage rows pt most i k) a e = readF (rulesF rows pt most) a e := fun a e ha he => read_stage hi (by omega) (by
    by_cases q : e = 0
    · exact .inl q
    · exact .inr ⟨by omega, by omega, .inl ha⟩)
  have rs : ∀ e, e ≤ k → readF (stage rows pt most i k) i e = readF (rulesF rows pt most) i e := fun e he => read_stage hi (by omega) (by
    by_cases q : e = 0
    · exact .inl q
    · exact .inr ⟨by omega, by omega, .inr ⟨rfl, he⟩⟩)
  cases r with
  | num q => rfl
  | let_ c => unfold ruleF; simp only; rw [stage_point, rules_point]
  | op w a b =>
    obtain ⟨ha, hb⟩ := wf
    cases w with
    | plus => unfold ruleF; simp only; rw [rd a _ ha (Nat.le_refl _), rd b _ hb (Nat.le_refl _)]
    | less => unfold ruleF; simp only; rw [rd a _ ha (Nat.le_refl _), rd b _ hb (Nat.le_refl _)]
    | times => unfold ruleF; simp only; exact tog_congr (fun e _ he => rd a e ha he) fun e _ he => rd b _ hb (by omega)
    | over =>
      unfold ruleF
      simp only
      rw [rd a _ ha (Nat.le_refl _), stage_came, rules_came, tog_congr (R' := rulesF rows pt most) (fun e _ he => rd b e hb he) fun e h1 he => rs _ (by omega)]
theorem rule_is {n i k : Nat} {r : Row} (e : rows[i]? = some r) (hk1 : 1 ≤ k) (hk : k ≤ most) (wf : RowWf n i r) : rget (rulesF rows pt most) i k = ruleF (rulesF rows pt most) r i k := by
  obtain ⟨k, rfl⟩ : ∃ m, k = m + 1 := ⟨k - 1, by omega⟩
  have hi : i < rows.length := (List.getElem?_eq_some_iff.mp e).1
  have er : rows.getD i (.num 0) = r := by rw [List.getD_eq_getElem?_getD, e]; rfl
  rw [← rget_stage (k := k + 1) hi hk ⟨by omega, hk, .inr ⟨rfl, Nat.le_refl _⟩⟩]
  unfold rget
  rw [stage_put, if_pos ⟨rfl, rfl⟩, Option.getD_some, er, rule_stage hi (by omega) wf]
theorem row_at {i : Nat} {r : Row} (e : rows[i]? = some r) : rowAt (rulesF rows pt most) i = r := by
  unfold rowAt
  rw [rules_rows, List.getD_eq_getElem?_getD, e]; rfl
/-- how a row is read -/
inductive RdIs (pt : List Rat) (rows : List Row) (most j e : Nat) : Form → Prop where
  | zero : e = 0 → RdIs pt rows most j e (numF ((valsF pt rows).getD j 0))
  | nil : 1 ≤ e → rget (rulesF rows pt most) j e = [] → RdIs pt rows most j e []
  | let_ (c : Nat) : e = 1 → rows[j]? = some (.let_ c) → RdIs pt rows most j e (addF (markF (-1, (c : Int))) (numF (0 - pt.getD c 0)))
  | mark : 1 ≤ e → isLet (rowAt (rulesF rows pt most) j) = false → 0 < (rget (rulesF rows pt most) j e).length → RdIs pt rows most j e (markF (mkI j e))
theorem rd_is {n j e : Nat} (wf : ∀ i r, rows[i]? = some r → RowWf n i r) (hj : j < rows.length) (he : e ≤ most) : RdIs pt rows most j e (readF (rulesF rows pt most) j e) := by
  unfold readF
  by_cases q : e = 0
  · rw [if_pos q, rules_came]
    exact .zero q
  · rw [if_neg q]
    have er : rows[j]? = some (rows[j]) := List.getElem?_eq_getElem hj
    generalize hr : rows[j] = r at er
    have ru := rule_is (pt := pt) (most := most) er (show 1 ≤ e by omega) he (wf j r er)
    by_cases z : (rget (rulesF rows pt most) j e).length = 0
    · have z' : rget (rulesF rows pt most) j e = [] := List.eq_nil_of_length_eq_zero z
      rw [if_pos (by rw [z]; simp), z']
      exact .nil (by omega) z'
    · cases hl : isLet (rowAt (rulesF rows pt most) j) with
      | false =>
        rw [if_neg (by simp [z])]
        exact .mark (by omega) hl (by omega)
      | true =>
        rw [if_pos (by simp)]
        rw [row_at er] at hl
        cases r with
        | let_ c =>
          by_cases q1 : e = 1
          · subst q1
            rw [ru]
            unfold ruleF
            simp only
            rw [if_pos trivial, rules_point]
            exact .let_ c rfl er
          · exfalso
            apply z
            rw [ru]
            unfold ruleF
            simp only
            rw [if_neg q1]
            rfl
        | num q => cases hl
        | op w a b => cases hl
end
end U
set_option Elab.async false
set_option linter.all false
set_option maxRecDepth 100000
set_option maxHeartbeats 4000000
/-! Plain law 4: the rules are small, of marks that are told ahead. -/
namespace U
open PySem (sizeLine)
theorem gd_all {a i : Nat} {q : Rat} (h1 : 1 ≤ a) (h5 : a ≤ 5) (hi : i < 10) (h : Gd (12 ^ a) (bnd a i) q) : Gd EE BB q := by
  have := bnd_up (B := 0) (c := 5) (j := 10) h h5 (by decide) hi (by decide)
  exact this
theorem gd_pt {q : Rat} (h : PtOk q) : Gd EE BB q := by
  have h1 := Gd.wide (show Gd 12 4096 q from h) 20736
  exact h1.mono (Nat.le_trans (show 4096 * 20736 ≤ 2 ^ 30 by decide) (Nat.pow_le_pow_right (by decide) (by decide)))
theorem gd_ptn {q : Rat} (h : PtOk q) : Gd EE BB (0 - q) := by
  have := (Gd.zero EE 0).sub (gd_pt h)
  rwa [Nat.zero_add] at this
/-- what the plain laws take of the old rows -/
structure Pre (n : Nat) (rows : List Row) (pt : List Rat) (most : Nat) : Prop where
  n3 : n ≤ 3
  olds : Olds n 5 rows
  l1 : 1 ≤ rows.length
  l10 : rows.length ≤ 10
  lp : pt.length = n
  pts : ∀ q ∈ pt, PtOk q
  good : GoodTo pt rows rows.length
  m5 : most ≤ 5
  dgl : dgAt rows (rows.length - 1) ≤ most
section
variable {n : Nat} {rows : List Row} {pt : List Rat} {most : Nat}
theorem Pre.wf (h : Pre n rows pt most) (i : Nat) (r : Row) (e : rows[i]? = some r) : RowWf n i r := h.olds.wf i r e
theorem Pre.wt5 (h : Pre n rows pt most) {i : Nat} (hi : i < rows.length) : wt rows i ≤ 5 := by
  have e : rows[i]? = some (rows[i]) := List.getElem?_eq_getElem hi
  unfold wt
  rw [wt_eq e (h.wf _ _ e), ← wt_eqT e (h.wf _ _ e)]
  exact (h.olds i _ e).w1
theorem Pre.dg5 (h : Pre n rows pt most) {i : Nat} (hi : i < rows.length) : dgAt rows i ≤ 5 := Nat.le_trans (dg_le h.olds (i + 1) i (by omega) hi) (h.wt5 hi)
theorem Pre.came (h : Pre n rows pt most) {i : Nat} (hi : i < rows.length) : Gd EE BB ((valsF pt rows).getD i 0) := by
  obtain ⟨h1, h2⟩ := val_bound h.olds (by decide) h.pts h.lp h.good (i + 1) i (by omega) hi
  have := h.l10
  exact gd_all h1 (h.wt5 hi) (by omega) h2
theorem Pre.pt_at (h : Pre n rows pt most) {c : Nat} (hc : c < n) : PtOk (pt.getD c 0) := h.pts _ (mem_getD (by rw [h.lp]; exact hc))
/-- a reading is small -/
theorem Pre.rd (h : Pre n rows pt most) {S : Mark → Prop} (hS : ∀ c, c < n → S (-1, (c : Int))) {j e : Nat} (hj : j < rows.length) (he : e ≤ most) (hm : 1 ≤ e → isLet (rowAt (rulesF rows pt most) j) = false → 0 < (rget (rulesF rows pt most) j e).length → S (mkI j e)) : Gf S 1 1 2 2 (readF (rulesF rows pt most) j e) := by
  have n3 := h.n3
  have m5 := h.m5
  have l10 := h.l10
  have rq := rd_is (pt := pt) h.wf hj he
  generalize readF (rulesF rows pt most) j e = f at rq ⊢
  cases rq with
  | zero _ => exact (Gf.num (h.came hj)).wk (fun _ z => z) (by decide) (by decide)
  | nil _ _ => exact .nil
  | let_ c _ ec =>
    have hc : c < n := h.wf j _ ec
    exact (Gf.mark (.inl ⟨rfl, by show (0 : Int) ≤ (c : Int); omega, by show (c : Int) < 3; omega⟩) (hS c hc)).add (.num (gd_ptn (h.pt_at hc)))
  | mark h1 h2 h3 =>
    refine (Gf.mark (.inr ⟨?_, ?_, ?_, ?_⟩) (hm h1 h2 h3)).wk (fun _ z => z) (by decide) (by decide)
    · show (0 : Int) ≤ (j : Int); omega
    · show (j : Int) < 10; omega
    · show (1 : Int) ≤ (e : Int); omega
    · show (e : Int) ≤ 5; omega
theorem tog_gf {S : Mark → Prop} {R : Rul} {i j k least : Nat} (h1 : ∀ e, least ≤ e → e ≤ k → Gf S 1 1 2 2 (readF R i e)) (h2 : ∀ e, least ≤ e → e ≤ k → Gf S 1 1 2 2 (readF R j (k - e))) : ∀ t, t ≤ k + 1 - least → Gf S 2 1 (8 * t) (4 * t) (togTo R i j k least t)
  | 0, _ => .nil
  | t + 1, ht => by
    have e : togTo R i j k least (t + 1) = addF (togTo R i j k least t) (mulF (readF R i (least + t)) (readF R j (k - (least + t)))) := range_fold _ _ _
    rw [e]
    exact (tog_gf h1 h2 t (by omega)).add ((h1 _ (by omega) (by omega)).mul (h2 _ (by omega) (by omega)))
theorem two_100 {a : Nat} (h : a ≤ 2 ^ 30) : a ≤ 2 ^ 100 := Nat.le_trans h (by decide)
theorem size24 {a : Nat} (h : a < 10000) : a < sizeLine := Nat.lt_trans h (by decide)
theorem tog_ok {S : Mark → Prop} {R : Rul} {i j k least : Nat} (hk : k ≤ 5) (hl : least ≤ 5) (h1 : ∀ e, least ≤ e → e ≤ k → ReadOk R i e ∧ Gf S 1 1 2 2 (readF R i e)) (h2 : ∀ e, least ≤ e → e ≤ k → ReadOk R j (k - e) ∧ Gf S 1 1 2 2 (readF R j (k - e))) : TogOk R i j k least := by
  refine ⟨by omega, by omega, fun t ht => ?_⟩
  obtain ⟨o1, g1⟩ := h1 (least + t) (by omega) (by omega)
  obtain ⟨o2, g2⟩ := h2 (least + t) (by omega) (by omega)
  have gt := tog_gf (fun e a b => (h1 e a b).2) (fun e a b => (h2 e a b).2) t (by omega)
  have gm := g1.mul g2
  refine ⟨o1, o2, g1.lin, g2.lin, g1.sz (by decide) (by decide) one_le_BB (by decide), g2.sz (by decide) (by decide) one_le_BB (by decide), g1.mok g2 (by decide) (by decide), ?_, ?_, gm.sz (by decide) (by decide) one_le_BB (by decide), gt.fm, gt.sz (by decide) (by decide) one_le_BB (two_100 (by omega)), ?_⟩
  · have := g1.len; omega
  · have := g2.len; omega
  · have a1 := gt.len
    have a2 := gm.len
    exact size24 (by omega)
/-- the marks that a rule may name -/
def Ahead (n : Nat) (rows : List Row) (pt : List Rat) (most i k : Nat) (m : Mark) : Prop :=
  (∃ c : Nat, c < n ∧ m = (-1, (c : Int))) ∨ ∃ j e, m = mkI j e ∧ 1 ≤ e ∧ e ≤ most ∧ j < rows.length ∧ canTold (rulesF rows pt most) j e = true ∧ ((∃ w a b, rows[i]? = some (.op w a b) ∧ (j = a ∨ j = b)) ∨ (j = i ∧ e < k))
theorem Pre.ahead (h : Pre n rows pt most) {i k j e : Nat} (hj : j < rows.length) (he : e ≤ most) (hb : (∃ w a b, rows[i]? = some (.op w a b) ∧ (j = a ∨ j = b)) ∨ (j = i ∧ e < k)) : Gf (Ahead n rows pt most i k) 1 1 2 2 (readF (rulesF rows pt most) j e) :=
  h.rd (fun c hc => .inl ⟨c, hc, rfl⟩) hj he fun h1 h2 h3 => .inr ⟨j, e, rfl, h1, he, hj, (by
    unfold canTold
    rw [rules_dom.mpr ⟨h1, he, hj⟩, h2, decide_eq_true h3]; rfl), hb⟩
theorem stage_len (i k : Nat) : (stage rows pt most i k).rules.length ≤ i * most + k := by
  induction i generalizing k with
  | zero =>
    induction k with
    | zero => exact Nat.zero_le _
    | succ k ih =>
      rw [stage_succ]
      exact Nat.le_trans (len_put _ _ _) (by omega)
  | succ i ihi =>
    induction k with
    | zero =>
      rw [stage_zero, ← stage_most, Nat.add_mul]
      have := ihi most
      omega
    | succ k ih =>
      rw [stage_succ]
      exact Nat.le_trans (len_put _ _ _) (by omega)
/-- all that the rules want -/
theorem Pre.rule_ok (h : Pre n rows pt most) {i k : Nat} {r : Row} (e : rows[i]? = some r) (hk : k < most) : RuleOk (stage rows pt most i k) r i (k + 1) := by
  have hi : i < rows.length := (List.getElem?_eq_some_iff.mp e).1
  have wf := h.wf i r e
  have m5 := h.m5
  have n3 := h.n3
  have lc : (stage rows pt most i k).came.length = rows.length := by rw [stage_came, valsF_len]
  have lr : (stage rows pt most i k).rows.length = rows.length := by rw [stage_rows]
  have ro : ∀ j d, j < rows.length → (d = 0 ∨ Dom most i k j d) → ReadOk (stage rows pt most i k) j d := fun j d hj hd => ⟨by rw [lr]; exact hj, by rw [lc]; exact hj, fun nz => (stage_dom i k (by omega) j d).mpr (hd.resolve_left nz)⟩
  have rg : ∀ j d, j < rows.length → d ≤ most → (d = 0 ∨ Dom most i k j d) → ((∃ w a b, rows[i]? = some (.op w a b) ∧ (j = a ∨ j = b)) ∨ (j = i ∧ d < k + 1)) → Gf (Ahead n rows pt most i (k + 1)) 1 1 2 2 (readF (stage rows pt most i k) j d) := fun j d hj hd hd2 hb => by
    rw [read_stage hi (by omega) hd2]
    exact h.ahead hj hd hb
  cases r with
  | num q => trivial
  | let_ c =>
    have hc : c < n := wf
    show c < (stage rows pt most i k).point.length ∧ c < 3 ∧ Sz 4400 ((stage rows pt most i k).point.getD c 0) ∧ Sz 4400 (0 - (stage rows pt most i k).point.getD c 0)
    rw [stage_point, h.lp]
    have sz : ∀ q, Gd EE BB q → Sz 4400 q := fun q g => g.sz EE_pos (Nat.lt_of_lt_of_le (show EE < 2 ^ 18 by decide) (Nat.pow_le_pow_right (by decide) (by decide))) (Nat.pow_lt_pow_right (by decide) (by decide))
    exact ⟨hc, by omega, sz _ (gd_pt (h.pt_at hc)), sz _ (gd_ptn (h.pt_at hc))⟩
  | op w a b =>
    obtain ⟨ha, hb⟩ := wf
    have ra : ∀ d, d ≤ k + 1 → ReadOk (stage rows pt most i k) a d ∧ Gf (Ahead n rows pt most i (k + 1)) 1 1 2 2 (readF (stage rows pt most i k) a d) := fun d hd => by
      have hd2 : d = 0 ∨ Dom most i k a d := by
        by_cases q : d = 0
        · exact .inl q
        · exact .inr ⟨by omega, by omega, .inl ha⟩
      exact ⟨ro a d (by omega) hd2, rg a d (by omega) (by omega) hd2 (.inl ⟨w, a, b, e, .inl rfl⟩)⟩
    have rb : ∀ d, d ≤ k + 1 → ReadOk (stage rows pt most i k) b d ∧ Gf (Ahead n rows pt most i (k + 1)) 1 1 2 2 (readF (stage rows pt most i k) b d) := fun d hd => by
      have hd2 : d = 0 ∨ Dom most i k b d := by
        by_cases q : d = 0
        · exact .inl q
        · exact .inr ⟨by omega, by omega, .inl hb⟩
      exact ⟨ro b d (by omega) hd2, rg b d (by omega) (by omega) hd2 (.inl ⟨w, a, b, e, .inr rfl⟩)⟩
    have rs : ∀ d, d ≤ k → ReadOk (stage rows pt most i k) i d ∧ Gf (Ahead n rows pt most i (k + 1)) 1 1 2 2 (readF (stage rows pt most i k) i d) := fun d hd => by
      have hd2 : d = 0 ∨ Dom most i k i d := by
        by_cases q : d = 0
        · exact .inl q
        · exact .inr ⟨by omega, by omega, .inr ⟨rfl, hd⟩⟩
      exact ⟨ro i d hi hd2, rg i d hi (by omega) hd2 (.inr ⟨rfl, by omega⟩)⟩
    obtain ⟨oa, ga⟩ := ra (k + 1) (Nat.le_refl _)
    obtain ⟨ob, gb⟩ := rb (k + 1) (Nat.le_refl _)
    have za := ga.sz (by decide) (by decide) one_le_BB (by decide)
    have zb := gb.sz (by decide) (by decide) one_le_BB (by decide)
    have la := ga.len
    have lb := gb.len
    have pl : ReadOk (stage rows pt most i k) a (k + 1) ∧ ReadOk (stage rows pt most i k) b (k + 1) ∧ Fm (readF (stage rows pt most i k) a (k + 1)) ∧ SzF (readF (stage rows pt most i k) a (k + 1)) ∧ SzF (readF (stage rows pt most i k) b (k + 1)) ∧ (readF (stage rows pt most i k) a (k + 1)).length + (readF (stage rows pt most i k) b (k + 1)).length < sizeLine := ⟨oa, ob, ga.fm, za, zb, size24 (by omega)⟩
    cases w with
    | plus => exact pl
    | less => exact pl
    | times => exact tog_ok (by omega) (by omega) (fun d _ hd => ra d hd) fun d _ hd => rb _ (by omega)
    | over =>
      have nz := good_div (n := n) h.good e ⟨ha, hb⟩
      have cb := h.came (i := b) (by omega)
      have gt := tog_gf (S := Ahead n rows pt most i (k + 1)) (R := stage rows pt most i k) (i := b) (j := i) (k := k + 1) (least := 1) (fun d _ hd => (rb d hd).2) (fun d h1 hd => (rs (k + 1 - d) (by omega)).2) (k + 1) (by omega)
      have gt' : Gf (Ahead n rows pt most i (k + 1)) 2 1 (8 * (k + 1)) (4 * (k + 1)) (togF (stage rows pt most i k) b i (k + 1) 1) := gt
      have go := ga.up.off gt'
      obtain ⟨Z, z1, z2, gv⟩ := gd_inv EE_pos cb nz
      have e40 : EE < 2 ^ 4400 := Nat.lt_of_lt_of_le (show EE < 2 ^ 18 by decide) (Nat.pow_le_pow_right (by decide) (by decide))
      have b40 : BB < 2 ^ 4400 := Nat.pow_lt_pow_right (by decide) (by decide)
      show ReadOk _ a (k + 1) ∧ TogOk _ b i (k + 1) 1 ∧ b < (stage rows pt most i k).came.length ∧ Sz 4400 ((stage rows pt most i k).came.getD b 0) ∧ (stage rows pt most i k).came.getD b 0 ≠ 0 ∧ _ ∧ _ ∧ _ ∧ _ ∧ _ ∧ Sz 4400 (1 / (stage rows pt most i k).came.getD b 0)
      rw [lc, stage_came]
      have lt := gt'.len
      refine ⟨oa, tog_ok (S := Ahead n rows pt most i (k + 1)) (by omega) (by omega) (fun d _ hd => rb d hd) (fun d h1 hd => rs _ (by omega)), by omega, cb.sz EE_pos e40 b40, nz, ga.fm, za, gt'.sz (by decide) (by decide) one_le_BB (two_100 (by omega)), size24 (by omega), go.sz (by decide) (by decide) one_le_BB (two_100 (by omega)), gv.sz z1 (by omega) e40⟩
theorem Pre.run (h : Pre n rows pt most) : RunOk pt rows := old_run h.olds (by decide) h.l10 h.pts h.lp
theorem Pre.rules (h : Pre n rows pt most) : RulesOk rows pt most := by
  have l10 := h.l10
  have m5 := h.m5
  refine ⟨h.run, h.good, by omega, by omega, fun i k hi hk => ?_, fun i k hi hk => ?_⟩
  · have e : rows[i]? = some (rows[i]) := List.getElem?_eq_getElem hi
    have er : rows.getD i (.num 0) = rows[i] := by rw [List.getD_eq_getElem?_getD, e]; rfl
    rw [er]
    exact h.rule_ok e hk
  · have h1 := stage_len (rows := rows) (pt := pt) (most := most) i k
    have h2 : i * most ≤ 10 * 5 := Nat.mul_le_mul (by omega) m5
    exact size24 (by omega)
/-- a rule of the table -/
theorem Pre.rget_gf (h : Pre n rows pt most) {i k : Nat} (hi : i < rows.length) (hk1 : 1 ≤ k) (hk : k ≤ most) : ∃ D, 0 < D ∧ D ≤ BB ∧ Gf (Ahead n rows pt most i k) 2 D (50 * EE) 26 (rget (rulesF rows pt most) i k) := by
  have e : rows[i]? = some (rows[i]) := List.getElem?_eq_getElem hi
  generalize hr : rows[i] = r at e
  have wf := h.wf i r e
  have m5 := h.m5
  have n3 := h.n3
  rw [rule_is e hk1 hk wf]
  have EE1 : ∀ a, a ≤ 50 → a ≤ 50 * EE := fun a ha => Nat.le_trans ha (by decide)
  cases r with
  | num q => exact ⟨1, by decide, one_le_BB, .nil⟩
  | let_ c =>
    have hc : c < n := wf
    refine ⟨1, by decide, one_le_BB, ?_⟩
    unfold ruleF
    simp only
    rw [rules_point]
    split
    · exact (((Gf.mark (S := Ahead n rows pt most i k) (.inl ⟨rfl, by show (0 : Int) ≤ (c : Int); omega, by show (c : Int) < 3; omega⟩) (.inl ⟨c, hc, rfl⟩)).add (.num (gd_ptn (h.pt_at hc)))).up).wk (fun _ z => z) (EE1 _ (by decide)) (by decide)
    · exact .nil
  | op w a b =>
    obtain ⟨ha, hb⟩ := wf
    have ra : ∀ d, d ≤ k → Gf (Ahead n rows pt most i k) 1 1 2 2 (readF (rulesF rows pt most) a d) := fun d hd => h.ahead (by omega) (by omega) (.inl ⟨w, a, b, e, .inl rfl⟩)
    have rb : ∀ d, d ≤ k → Gf (Ahead n rows pt most i k) 1 1 2 2 (readF (rulesF rows pt most) b d) := fun d hd => h.ahead (by omega) (by omega) (.inl ⟨w, a, b, e, .inr rfl⟩)
    have rs : ∀ d, d < k → Gf (Ahead n rows pt most i k) 1 1 2 2 (readF (rulesF rows pt most) i d) := fun d hd => h.ahead (by omega) (by omega) (.inr ⟨rfl, hd⟩)
    cases w with
    | plus => exact ⟨1, by decide, one_le_BB, (((ra k (Nat.le_refl _)).add (rb k (Nat.le_refl _))).up).wk (fun _ z => z) (EE1 _ (by decide)) (by decide)⟩
    | less => exact ⟨1, by decide, one_le_BB, (((ra k (Nat.le_refl _)).off (rb k (Nat.le_refl _))).up).wk (fun _ z => z) (EE1 _ (by decide)) (by decide)⟩
    | times =>
      refine ⟨1, by decide, one_le_BB, ?_⟩
      have gt := tog_gf (S := Ahead n rows pt most i k) (R := rulesF rows pt most) (i := a) (j := b) (k := k) (least := 0) (fun d _ hd => ra d hd) (fun d h1 hd => rb (k - d) (by omega)) (k + 1) (by omega)
      exact gt.wk (fun _ z => z) (EE1 _ (by omega)) (by omega)
    | over =>
      have nz := good_div (n := n) h.good e ⟨ha, hb⟩
      have cb := h.came (i := b) (by omega)
      have gt := tog_gf (S := Ahead n rows pt most i k) (R := rulesF rows pt most) (i := b) (j := i) (k := k) (least := 1) (fun d _ hd => rb d hd) (fun d h1 hd => rs (k - d) (by omega)) k (by omega)
      have gt' : Gf (Ahead n rows pt most i k) 2 1 (8 * k) (4 * k) (togF (rulesF rows pt most) b i k 1) := gt
      obtain ⟨Z, z1, z2, gv⟩ := gd_inv EE_pos cb nz
      refine ⟨Z, z1, z2, ?_⟩
      unfold ruleF
      simp only
      rw [rules_came]
      exact (((ra k (Nat.le_refl _)).up.off gt').sc gv).wk (fun _ z => z) (Nat.mul_le_mul_right _ (by omega)) (by omega)
/-- the last form -/
theorem Pre.last_gf (h : Pre n rows pt most) : ∀ t, t ≤ most → Gf (fun m => (∃ c : Nat, c < n ∧ m = (-1, (c : Int))) ∨ ∃ e, m = mkI (rows.length - 1) e ∧ 1 ≤ e ∧ e ≤ most ∧ canTold (rulesF rows pt most) (rows.length - 1) e = true) 1 1 (1 + 2 * t) (1 + 2 * t) (lastTo (rulesF rows pt most) t) := fun t => by
  have l1 := h.l1
  induction t with
  | zero =>
    intro _
    show Gf _ 1 1 1 1 (numF ((rulesF rows pt most).came.getD ((rulesF rows pt most).rows.length - 1) 0))
    rw [rules_came, rules_rows]
    exact .num (h.came (by omega))
  | succ t ih =>
    intro ht
    have e : lastTo (rulesF rows pt most) (t + 1) = addF (lastTo (rulesF rows pt most) t) (readF (rulesF rows pt most) ((rulesF rows pt most).rows.length - 1) (t + 1)) := range_fold _ _ _
    rw [e, rules_rows]
    refine ((ih (by omega)).add (h.rd (fun c hc => .inl ⟨c, hc, rfl⟩) (show rows.length - 1 < rows.length by omega) ht fun h1 h2 h3 => .inr ⟨t + 1, rfl, h1, ht, (by
      unfold canTold
      rw [rules_dom.mpr ⟨h1, ht, by omega⟩, h2, decide_eq_true h3]; rfl)⟩)).wk (fun _ z => z) (by omega) (by omega)
theorem Pre.lf (h : Pre n rows pt most) : LastFOk (rulesF rows pt most) := by
  have l1 := h.l1
  have m5 := h.m5
  refine ⟨by rw [rules_rows]; omega, by rw [rules_came, rules_rows, valsF_len], by rw [rules_most]; omega, fun t ht => ?_⟩
  rw [rules_most] at ht
  have g1 := h.last_gf t (by omega)
  have hj : rows.length - 1 < rows.length := by omega
  have g2 := h.rd (S := fun _ => True) (fun _ _ => trivial) hj (show t + 1 ≤ most by omega) (fun _ _ _ => trivial)
  rw [rules_rows]
  refine ⟨⟨by rw [rules_rows]; exact hj, by rw [rules_came, valsF_len]; exact hj, fun _ => rules_dom.mpr ⟨by omega, by omega, hj⟩⟩, g1.fm, g1.sz (by decide) (by decide) one_le_BB (two_100 (by omega)), g2.sz (by decide) (by decide) one_le_BB (by decide), ?_⟩
  have a1 := g1.len
  have a2 := g2.len
  exact size24 (by omega)
end
end U
set_option Elab.async false
set_option linter.all false
set_option maxRecDepth 100000
set_option maxHeartbeats 4000000
/-! Plain law 5: what the rules come to. -/
namespace U
def vx (x : List Rat) (s : Nat → Nat → Rat) (m : Mark) : Rat := if m.1 = -1 then x.getD m.2.toNat 0 else s m.1.toNat m.2.toNat
theorem vx_let (x : List Rat) (s : Nat → Nat → Rat) (c : Nat) : vx x s (-1, (c : Int)) = x.getD c 0 := if_pos rfl
theorem vx_mk (x : List Rat) (s : Nat → Nat → Rat) (j e : Nat) : vx x s (mkI j e) = s j e := by
  unfold vx
  rw [if_neg (by show ¬ ((j : Int) = -1); omega)]
  rfl
theorem ev_num (v : Mark → Rat) (q : Rat) : tsum (evM v) (numF q) = q := by
  unfold numF
  split
  · rename_i h; rw [h]; rfl
  · rw [tsum_cons, tsum_nil]
    show 1 * q + 0 = q
    grind
theorem ev_mark (v : Mark → Rat) (m : Mark) : tsum (evM v) (markF m) = v m := by
  unfold markF
  rw [tsum_cons, tsum_nil]
  show (v m * 1) * 1 + 0 = v m
  grind
theorem ev_tog {v : Mark → Rat} {S : Mark → Prop} {R : Rul} {i j k least : Nat} (f g : Nat → Rat) (h1 : ∀ e, least ≤ e → e ≤ k → Gf S 1 1 2 2 (readF R i e) ∧ tsum (evM v) (readF R i e) = f e) (h2 : ∀ e, least ≤ e → e ≤ k → Gf S 1 1 2 2 (readF R j (k - e)) ∧ tsum (evM v) (readF R j (k - e)) = g (k - e)) : ∀ t, t ≤ k + 1 - least → tsum (evM v) (togTo R i j k least t) = sumR (fun u => f (least + u) * g (k - (least + u))) t
  | 0, _ => rfl
  | t + 1, ht => by
    have e : togTo R i j k least (t + 1) = addF (togTo R i j k least t) (mulF (readF R i (least + t)) (readF R j (k - (least + t)))) := range_fold _ _ _
    have gt := tog_gf (fun e a b => (h1 e a b).1) (fun e a b => (h2 e a b).1) t (by omega)
    obtain ⟨g1, e1⟩ := h1 (least + t) (by omega) (by omega)
    obtain ⟨g2, e2⟩ := h2 (least + t) (by omega) (by omega)
    rw [e, addF_sum _ gt.fm, mulF_sum v g1.lin g2.lin, e1, e2, ev_tog f g h1 h2 t (by omega)]
    rfl
section
variable {n : Nat} {rows : List Row} {pt x : List Rat} {most : Nat} {s : Nat → Nat → Rat}
theorem Pre.rd_ev (h : Pre n rows pt most) (se : Ser pt x rows rows.length s) {j e : Nat} (hj : j < rows.length) (he : e ≤ most) (ih : 1 ≤ e → tsum (evM (vx x s)) (rget (rulesF rows pt most) j e) = s j e) : tsum (evM (vx x s)) (readF (rulesF rows pt most) j e) = s j e := by
  have rq := rd_is (pt := pt) h.wf hj he
  generalize readF (rulesF rows pt most) j e = f at rq ⊢
  cases rq with
  | zero h0 => rw [ev_num, h0, ser_zero h.olds se h.good (j + 1) j (by omega) hj hj]
  | nil h1 h2 => rw [← ih h1, h2]
  | let_ c h1 ec =>
    have q : ∀ k, s j k = if k = 0 then pt.getD c 0 else if k = 1 then x.getD c 0 - pt.getD c 0 else 0 := se.eqn j _ hj ec
    have n3 := h.n3
    have hc : c < n := h.wf j _ ec
    rw [addF_sum _ (Fm.mark (.inl ⟨rfl, by show (0 : Int) ≤ (c : Int); omega, by show (c : Int) < 3; omega⟩)), ev_mark, ev_num, vx_let, q e, h1, if_neg (by decide), if_pos rfl]
    grind
  | mark h1 h2 h3 => rw [ev_mark, vx_mk]
theorem Pre.rule_ev (h : Pre n rows pt most) (se : Ser pt x rows rows.length s) : ∀ t i, i < t → i < rows.length → ∀ u k, k < u → 1 ≤ k → k ≤ most → tsum (evM (vx x s)) (rget (rulesF rows pt most) i k) = s i k := fun t => by
  induction t with
  | zero => intro i hi; omega
  | succ t iht =>
    intro i hit hi u
    induction u with
    | zero => intro k hk; omega
    | succ u ihu =>
      intro k hku hk1 hk
      have e : rows[i]? = some (rows[i]) := List.getElem?_eq_getElem hi
      generalize hr : rows[i] = r at e
      have wf := h.wf i r e
      have q := se.eqn i r hi e
      have n3 := h.n3
      rw [rule_is e hk1 hk wf]
      cases r with
      | num q' =>
        have q1 : ∀ k, s i k = if k = 0 then q' else 0 := q
        rw [q1 k, if_neg (by omega)]
        rfl
      | let_ c =>
        have hc : c < n := wf
        have q1 : ∀ k, s i k = if k = 0 then pt.getD c 0 else if k = 1 then x.getD c 0 - pt.getD c 0 else 0 := q
        rw [q1 k, if_neg (by omega)]
        unfold ruleF
        simp only
        rw [rules_point]
        split
        · rw [addF_sum _ (Fm.mark (.inl ⟨rfl, by show (0 : Int) ≤ (c : Int); omega, by show (c : Int) < 3; omega⟩)), ev_mark, ev_num, vx_let]
          grind
        · rfl
      | op w a b =>
        obtain ⟨ha, hb⟩ := wf
        have ra : ∀ d, d ≤ k → Gf (Ahead n rows pt most i k) 1 1 2 2 (readF (rulesF rows pt most) a d) ∧ tsum (evM (vx x s)) (readF (rulesF rows pt most) a d) = s a d := fun d hd => ⟨h.ahead (by omega) (by omega) (.inl ⟨w, a, b, e, .inl rfl⟩), h.rd_ev se (by omega) (by omega) fun d1 => iht a (by omega) (by omega) (d + 1) d (by omega) d1 (by omega)⟩
        have rb : ∀ d, d ≤ k → Gf (Ahead n rows pt most i k) 1 1 2 2 (readF (rulesF rows pt most) b d) ∧ tsum (evM (vx x s)) (readF (rulesF rows pt most) b d) = s b d := fun d hd => ⟨h.ahead (by omega) (by omega) (.inl ⟨w, a, b, e, .inr rfl⟩), h.rd_ev se (by omega) (by omega) fun d1 => iht b (by omega) (by omega) (d + 1) d (by omega) d1 (by omega)⟩
        have rs : ∀ d, d < k → Gf (Ahead n rows pt most i k) 1 1 2 2 (readF (rulesF rows pt most) i d) ∧ tsum (evM (vx x s)) (readF (rulesF rows pt most) i d) = s i d := fun d hd => ⟨h.ahead (by omega) (by omega) (.inr ⟨rfl, hd⟩), h.rd_ev se (by omega) (by omega) fun d1 => ihu d (by omega) d1 (by omega)⟩
        obtain ⟨ga, ea⟩ := ra k (Nat.le_refl _)
        obtain ⟨gb, eb⟩ := rb k (Nat.le_refl _)
        cases w with
        | plus =>
          have q1 : ∀ k, s i k = s a k + s b k := q
          unfold ruleF
          simp only
          rw [addF_sum _ ga.fm, ea, eb, q1 k]
        | less =>
          have q1 : ∀ k, s i k = s a k - s b k := q
          unfold ruleF
          simp only
          rw [offF_sum _ ga.fm, ea, eb, q1 k]
        | times =>
          have q1 : ∀ k, s i k = cau (s a) (s b) k := q
          have et := ev_tog (v := vx x s) (S := Ahead n rows pt most i k) (R := rulesF rows pt most) (i := a) (j := b) (k := k) (least := 0) (s a) (s b) (fun d _ hd => ra d hd) (fun d h1 hd => rb (k - d) (by omega)) (k + 1) (by omega)
          show tsum (evM (vx x s)) (togTo (rulesF rows pt most) a b k 0 (k + 1)) = s i k
          rw [et, q1 k]
          exact sumR_congr fun u _ => by rw [Nat.zero_add]
        | over =>
          have q1 : ∀ k, s a k = cau (s b) (s i) k := q
          have nz := good_div (n := n) h.good e ⟨ha, hb⟩
          have gt := tog_gf (S := Ahead n rows pt most i k) (R := rulesF rows pt most) (i := b) (j := i) (k := k) (least := 1) (fun d _ hd => (rb d hd).1) (fun d h1 hd => (rs (k - d) (by omega)).1) k (by omega)
          have et := ev_tog (v := vx x s) (S := Ahead n rows pt most i k) (R := rulesF rows pt most) (i := b) (j := i) (k := k) (least := 1) (s b) (s i) (fun d _ hd => rb d hd) (fun d h1 hd => rs (k - d) (by omega)) k (by omega)
          show tsum (evM (vx x s)) (scF (offF (readF (rulesF rows pt most) a k) (togTo (rulesF rows pt most) b i k 1 k)) (1 / (rulesF rows pt most).came.getD b 0)) = s i k
          rw [rules_came, scF_sum, offF_sum _ ga.fm, ea, et]
          have b0 := ser_zero h.olds se h.good (b + 1) b (by omega) (by omega) (by omega)
          have e2 : s a k = s b 0 * s i k + sumR (fun u => s b (1 + u) * s i (k - (1 + u))) k := by
            rw [q1 k]
            unfold cau
            rw [sumR_head]
            show s b 0 * s i (k - 0) + sumR (fun u => s b (u + 1) * s i (k - (u + 1))) k = _
            rw [Nat.sub_zero]
            congr 1
            exact sumR_congr fun u _ => by rw [Nat.add_comm u 1]
          rw [e2, b0]
          grind
theorem Pre.told_ev (h : Pre n rows pt most) (se : Ser pt x rows rows.length s) {i k : Nat} (hi : i < rows.length) (h1 : 1 ≤ k) (hk : k ≤ most) : tsum (evM (vx x s)) (rget (rulesF rows pt most) i k) = s i k := h.rule_ev se (i + 1) i (by omega) hi (k + 1) k (by omega) h1 hk
theorem Pre.last_ev (h : Pre n rows pt most) (se : Ser pt x rows rows.length s) : ∀ t, t ≤ most → tsum (evM (vx x s)) (lastTo (rulesF rows pt most) t) = sumR (s (rows.length - 1)) (t + 1) := fun t => by
  have l1 := h.l1
  have hj : rows.length - 1 < rows.length := by omega
  induction t with
  | zero =>
    intro _
    show tsum (evM (vx x s)) (numF ((rulesF rows pt most).came.getD ((rulesF rows pt most).rows.length - 1) 0)) = 0 + s (rows.length - 1) 0
    rw [ev_num, rules_came, rules_rows, ser_zero h.olds se h.good rows.length (rows.length - 1) hj hj hj]
    grind
  | succ t ih =>
    intro ht
    have e : lastTo (rulesF rows pt most) (t + 1) = addF (lastTo (rulesF rows pt most) t) (readF (rulesF rows pt most) ((rulesF rows pt most).rows.length - 1) (t + 1)) := range_fold _ _ _
    rw [e, rules_rows, addF_sum _ (h.last_gf t (by omega)).fm, ih (by omega), h.rd_ev se hj ht fun h1 => h.told_ev se hj h1 ht]
    rfl
theorem lastF_to : lastF (rulesF rows pt most) = lastTo (rulesF rows pt most) most := by
  have e : (rulesF rows pt most).most = most := rules_most
  unfold lastF lastTo
  rw [e]
/-- the last form comes to the old value -/
theorem Pre.last_val (h : Pre n rows pt most) (se : Ser pt x rows rows.length s) (g : GoodTo x rows rows.length) : tsum (evM (vx x s)) (lastF (rulesF rows pt most)) = (valsF x rows).getD (rows.length - 1) 0 := by
  have l1 := h.l1
  have hj : rows.length - 1 < rows.length := by omega
  have m5 := h.m5
  rw [lastF_to, h.last_ev se most (Nat.le_refl _), ← ser_sum (N := 7) h.olds se g (by decide) (fun i hi => h.dg5 hi) rows.length _ hj hj hj]
  have dg : ∀ k, most < k → s (rows.length - 1) k = 0 := fun k hk => (se.ok _ hj hj).dg k (by have := h.dgl; omega)
  rw [sumR_stop dg (n := 7) (by omega)]
end
end U
set_option Elab.async false
set_option linter.all false
set_option maxRecDepth 100000
set_option maxHeartbeats 4000000
/-! Plain law 6: what the maker's rows come to. -/
namespace U
open PySem (sizeLine)
def vat (x : List Rat) (M : Mkr) (i : Nat) : Rat := (valsF x M.rows).getD i 0
def bareOk (n : Nat) : Row → Prop
  | .num q => Sz 4400 q
  | .let_ c => c < n
  | .op _ _ _ => False
structure MI (x : List Rat) (v : Mark → Rat) (n : Nat) (M : Mkr) : Prop where
  wf : ∀ i r, M.rows[i]? = some r → RowWf n i r ∧ (∀ q, r = .num q → Sz 4400 q) ∧ ∀ a b, r ≠ .op .over a b
  lp : M.paper.length = M.rows.length
  sz : ∀ y ∈ valsF x M.rows, Sz 4400 y
  kr : ∀ r i, tget M.known (.row r) = some i → i < M.rows.length ∧ vat x M i = rowVal x [] r
  km : ∀ m i, tget M.known (.mark m) = some i → i < M.rows.length ∧ vat x M i = v m
structure Kep (x : List Rat) (M M' : Mkr) : Prop where
  len : M.rows.length ≤ M'.rows.length
  val : ∀ i, i < M.rows.length → vat x M' i = vat x M i
section
variable {x : List Rat} {v : Mark → Rat} {n : Nat} {M M' M'' : Mkr}
theorem Kep.rfl' : Kep x M M := ⟨Nat.le_refl _, fun _ _ => rfl⟩
theorem Kep.trans (h : Kep x M M') (g : Kep x M' M'') : Kep x M M'' := ⟨Nat.le_trans h.len g.len, fun i hi => (g.val i (Nat.lt_of_lt_of_le hi h.len)).trans (h.val i hi)⟩
theorem vat_put_lt {r : Row} {i : Nat} (h : i < M.rows.length) : vat x (mput M r) i = vat x M i := by
  unfold vat mput
  rw [valsF_snoc, getD_snoc_lt (by rw [valsF_len]; exact h)]
theorem vat_put_eq {r : Row} : vat x (mput M r) M.rows.length = rowVal x (valsF x M.rows) r := by
  unfold vat mput
  rw [valsF_snoc, getD_snoc_eq' (valsF_len x M.rows)]
theorem kep_put (r : Row) : Kep x M (mput M r) := ⟨by rw [mput_len]; omega, fun i hi => vat_put_lt hi⟩
theorem rows_put {r : Row} {i : Nat} {r' : Row} (h : (mput M r).rows[i]? = some r') : M.rows[i]? = some r' ∨ (i = M.rows.length ∧ r' = r) := by
  unfold mput at h
  by_cases q : i < M.rows.length
  · left
    rwa [List.getElem?_append_left q] at h
  · right
    have hi := (List.getElem?_eq_some_iff.mp h).1
    rw [List.length_append] at hi
    have : i = M.rows.length := by
      have h1 : [r].length = 1 := rfl
      omega
    subst this
    rw [List.getElem?_append_right (Nat.le_refl _), Nat.sub_self] at h
    injection h with h
    exact ⟨rfl, h.symm⟩
theorem mi_put (h : MI x v n M) {r : Row} (wf : RowWf n M.rows.length r) (hn : ∀ q, r = .num q → Sz 4400 q) (ho : ∀ a b, r ≠ .op .over a b) (hs : Sz 4400 (rowVal x (valsF x M.rows) r)) : MI x v n (mput M r) := by
  refine ⟨fun i r' e => ?_, ?_, fun y hy => ?_, fun r' i e => ?_, fun m i e => ?_⟩
  · rcases rows_put e with e | ⟨rfl, rfl⟩
    · exact h.wf i r' e
    · exact ⟨wf, hn, ho⟩
  · show (M.paper ++ [none]).length = (M.rows ++ [r]).length
    rw [List.length_append, List.length_append, h.lp]; rfl
  · have e : valsF x (mput M r).rows = valsF x M.rows ++ [rowVal x (valsF x M.rows) r] := valsF_snoc x M.rows r
    rw [e] at hy
    rcases List.mem_append.mp hy with q | q
    · exact h.sz y q
    · rw [List.mem_singleton] at q
      rw [q]; exact hs
  · obtain ⟨h1, h2⟩ := h.kr r' i e
    exact ⟨by rw [mput_len]; omega, by rw [vat_put_lt h1]; exact h2⟩
  · obtain ⟨h1, h2⟩ := h.km m i e
    exact ⟨by rw [mput_len]; omega, by rw [vat_put_lt h1]; exact h2⟩
/-- a row's number, and what it comes to -/
structure At (x : List Rat) (v : Mark → Rat) (n : Nat) (M : Mkr) (A : Mkr × Nat) (q : Rat) : Prop where
  mi : MI x v n A.1
  lt : A.2 < A.1.rows.length
  val : vat x A.1 A.2 = q
  kep : Kep x M A.1
theorem At.pre {A : Mkr × Nat} {q : Rat} (h : At x v n M' A q) (k : Kep x M M') : At x v n M A q := ⟨h.mi, h.lt, h.val, k.trans h.kep⟩
theorem at_put (h : MI x v n M) {r : Row} {q : Rat} (wf : RowWf n M.rows.length r) (hn : ∀ q, r = .num q → Sz 4400 q) (ho : ∀ a b, r ≠ .op .over a b) (e : rowVal x (valsF x M.rows) r = q) (hs : Sz 4400 q) : At x v n M (mput M r, M.rows.length) q :=
  ⟨mi_put h wf hn ho (by rw [e]; exact hs), (by show _ < (mput M r).rows.length; rw [mput_len]; omega), (by show vat x (mput M r) M.rows.length = q; rw [vat_put_eq, e]), kep_put r⟩
theorem at_once (h : MI x v n M) {r : Row} (hr : bareOk n r) (hs : Sz 4400 (rowVal x [] r)) : At x v n M (monce M r) (rowVal x [] r) := by
  unfold monce
  cases e : tget M.known (.row r) with
  | some i =>
    obtain ⟨h1, h2⟩ := h.kr r i e
    exact ⟨h, h1, h2, .rfl'⟩
  | none =>
    have ev : rowVal x (valsF x M.rows) r = rowVal x [] r := by
      cases r with
      | num q => rfl
      | let_ c => rfl
      | op w a b => exact absurd hr (fun z => z)
    have g : At x v n M (mput M r, M.rows.length) (rowVal x [] r) := by
      refine at_put h ?_ (fun q e => ?_) (fun a b e => ?_) ev hs
      · cases r with
        | num q => trivial
        | let_ c => exact hr
        | op w a b => exact absurd hr (fun z => z)
      · subst e; exact hr
      · subst e; exact hr
    have gm := g.mi
    have g3 : vat x (mput M r) M.rows.length = rowVal x [] r := g.val
    refine ⟨⟨gm.wf, gm.lp, gm.sz, fun r' i e' => ?_, fun m i e' => ?_⟩, g.lt, g.val, g.kep.len, g.kep.val⟩
    · have e2 : (if KK.row r' = KK.row r then some M.rows.length else tget M.known (.row r')) = some i := by rw [← tget_put]; exact e'
      by_cases q : KK.row r' = KK.row r
      · rw [if_pos q] at e2
        injection e2 with e2
        injection q with q
        subst e2
        subst q
        exact ⟨g.lt, g3⟩
      · rw [if_neg q] at e2
        exact gm.kr r' i e2
    · have e2 : (if KK.mark m = KK.row r then some M.rows.length else tget M.known (.mark m)) = some i := by rw [← tget_put]; exact e'
      rw [if_neg (fun z => nomatch z)] at e2
      exact gm.km m i e2
/-- marks that may be taken -/
def MkOk (x : List Rat) (v : Mark → Rat) (n : Nat) (M : Mkr) (m : Mark) : Prop := (∃ c : Nat, c < n ∧ m = (-1, (c : Int)) ∧ v m = x.getD c 0 ∧ Sz 4400 (x.getD c 0)) ∨ (m.1 ≠ -1 ∧ (tget M.known (.mark m)).isSome = true)
theorem MkOk.inn {m : Mark} (h : MkOk x v n M m) : MarkIn M m := by
  rcases h with ⟨c, _, rfl, _⟩ | h
  · exact .inl ⟨rfl, by show (0 : Int) ≤ (c : Int); omega⟩
  · exact .inr h
theorem MkOk.up {m : Mark} (h : MkOk x v n M m) (u : MarkIn M m → MarkIn M' m) : MkOk x v n M' m := by
  rcases h with h | h
  · exact .inl h
  · rcases u (.inr h) with q | q
    · exact absurd q.1 h.1
    · exact .inr q
theorem at_mk (h : MI x v n M) {m : Mark} (hm : MkOk x v n M m) : At x v n M (mmk M m) (v m) := by
  unfold mmk
  rcases hm with ⟨c, hc, rfl, hv, hs⟩ | ⟨h1, h2⟩
  · rw [if_pos rfl, hv]
    exact at_once h (r := .let_ c) hc hs
  · rw [if_neg h1]
    cases e : tget M.known (.mark m) with
    | none => rw [e] at h2; cases h2
    | some i =>
      obtain ⟨g1, g2⟩ := h.km m i e
      exact ⟨h, g1, g2, .rfl'⟩
theorem rowVal_op {w : Wd} {i j : Nat} : rowVal x (valsF x M.rows) (.op w i j) = deed w (vat x M i) (vat x M j) := rfl
theorem at_op {A : Mkr × Nat} {i : Nat} {q r : Rat} {w : Wd} (hw : w = .times ∨ w = .plus) (hA : At x v n M A q) (hi : i < A.1.rows.length) (hv : vat x A.1 i = r) (hs : Sz 4400 (deed w r q)) : At x v n M (mput A.1 (.op w i A.2), A.1.rows.length) (deed w r q) := by
  refine (at_put (r := .op w i A.2) hA.mi ⟨hi, hA.lt⟩ (fun _ e => nomatch e) (fun a b e => ?_) ?_ hs).pre hA.kep
  · injection e with e; rcases hw with rfl | rfl <;> cases e
  · rw [rowVal_op, hv, hA.val]
/-- a product's sizes -/
structure PrOk (v : Mark → Rat) (p : Mono) (f : Rat) : Prop where
  two : p.length ≤ 2
  sf : Sz 4400 f
  pr : Sz 4400 (evM v p)
  all : Sz 4400 (evM v p * f)
theorem at_pre (h : MI x v n M) {p : Mono} {m : Mark} {ms : Mono} (e : p = m :: ms) (hl : p.length ≤ 2) (hp : ∀ k ∈ p, MkOk x v n M k) (hs : Sz 4400 (evM v p)) : At x v n M (ms.foldl mstep (mmk M m)) (evM v p) := by
  subst e
  have h1 := at_mk h (hp m (List.mem_cons_self ..))
  match ms, hl, hp, hs with
  | [], _, _, _ =>
    have e : evM v [m] = v m := by show v m * 1 = v m; grind
    rw [e]
    exact h1
  | [k], _, hp, hs =>
    have e : evM v [m, k] = v m * v k := by show v m * (v k * 1) = v m * v k; grind
    rw [e] at hs ⊢
    have h2 := (at_mk h1.mi ((hp k (by simp)).up fun z => mmk_in z m)).pre h1.kep
    have h3 := at_mk h1.mi ((hp k (by simp)).up fun z => mmk_in z m)
    exact at_op (w := .times) (i := (mmk M m).2) (.inl rfl) h2 (Nat.lt_of_lt_of_le h1.lt h3.kep.len) ((h3.kep.val _ h1.lt).trans h1.val) hs
  | _ :: _ :: _, hl, _, _ => simp at hl
theorem at_prod (h : MI x v n M) {p : Mono} {f : Rat} (hp : ∀ k ∈ p, MkOk x v n M k) (ok : PrOk v p f) : At x v n M (mprod M p f) (evM v p * f) := by
  unfold mprod
  cases p with
  | nil =>
    have e : evM v [] * f = f := by show 1 * f = f; grind
    rw [e]
    exact at_once h (r := .num f) ok.sf ok.sf
  | cons m ms =>
    have h1 := at_pre h (p := m :: ms) rfl ok.two hp ok.pr
    simp only
    by_cases q : f = 1
    · rw [if_pos q, q]
      have e : evM v (m :: ms) * 1 = evM v (m :: ms) := by grind
      rw [e]
      exact h1
    · rw [if_neg q]
      have h2 := at_once h1.mi (r := .num f) ok.sf ok.sf
      have e : evM v (m :: ms) * f = f * evM v (m :: ms) := by grind
      have hs := ok.all
      rw [e] at hs ⊢
      generalize ms.foldl mstep (mmk M m) = A at h1 h2 ⊢
      refine (at_put (r := .op .times _ _) h2.mi ⟨h2.lt, Nat.lt_of_lt_of_le h1.lt h2.kep.len⟩ (fun _ e => nomatch e) (fun a b e => nomatch e) ?_ hs).pre (h1.kep.trans h2.kep)
      rw [rowVal_op, h2.val, h2.kep.val _ h1.lt, h1.val]
      rfl
/-- a sum under way -/
structure AtO (x : List Rat) (v : Mark → Rat) (n : Nat) (M : Mkr) (A : Mkr × Option Nat) (q : Rat) : Prop where
  mi : MI x v n A.1
  kep : Kep x M A.1
  some_ : ∀ i, A.2 = some i → i < A.1.rows.length ∧ vat x A.1 i = q
  none_ : A.2 = none → q = 0
theorem at_term {g : Form} {A : Mkr × Option Nat} {q : Rat} (h : AtO x v n M A q) {p : Mono} (hp : ∀ k ∈ p, MkOk x v n A.1 k) (ok : PrOk v p ((tget g p).getD 0)) (hs : Sz 4400 (q + evM v p * (tget g p).getD 0)) : AtO x v n M (mterm g A p) (q + evM v p * (tget g p).getD 0) := by
  have h1 := at_prod h.mi hp ok
  unfold mterm
  simp only
  generalize mprod A.1 p ((tget g p).getD 0) = B at h1 ⊢
  cases e : A.2 with
  | none =>
    refine ⟨h1.mi, h.kep.trans h1.kep, fun i ei => ?_, fun z => nomatch z⟩
    injection ei with ei
    subst ei
    refine ⟨h1.lt, ?_⟩
    rw [h.none_ e, h1.val]
    grind
  | some i =>
    obtain ⟨g1, g2⟩ := h.some_ i e
    have h2 := at_op (w := .plus) (i := i) (.inr rfl) h1 (Nat.lt_of_lt_of_le g1 h1.kep.len) ((h1.kep.val i g1).trans g2) hs
    refine ⟨h2.mi, h.kep.trans h2.kep, fun j ej => ?_, fun z => nomatch z⟩
    injection ej with ej
    subst ej
    exact ⟨h2.lt, h2.val⟩
/-- the sum of a form's products, in an order -/
def ksum (v : Mark → Rat) (g : Form) (ps : List Mono) : Rat := (ps.map fun p => evM v p * (tget g p).getD 0).foldr (· + ·) 0
theorem ksum_perm {g : Form} {ps qs : List Mono} (h : ps.Perm qs) : ksum v g ps = ksum v g qs := by
  induction h with
  | nil => rfl
  | cons p _ ih => show _ + ksum v g _ = _ + ksum v g _; rw [ih]
  | swap p q l => show _ + (_ + ksum v g l) = _ + (_ + ksum v g l); grind
  | trans _ _ h1 h2 => exact h1.trans h2
theorem ksum_sub {g : Form} : ∀ {f : Form}, (∀ p ∈ f, tget g p.1 = some p.2) → ksum v g (f.map (·.1)) = tsum (evM v) f
  | [], _ => rfl
  | p :: f, h => by
    show evM v p.1 * (tget g p.1).getD 0 + ksum v g (f.map (·.1)) = _
    rw [h p (List.mem_cons_self ..), ksum_sub fun q hq => h q (List.mem_cons_of_mem _ hq), tsum_cons]
    rfl
theorem ksum_all {g : Form} (h : Fm g) : ksum v g (fkeys g) = tsum (evM v) g := by
  have e : (fkeys g).Perm (g.map (·.1)) := List.mergeSort_perm ..
  rw [ksum_perm e]
  exact ksum_sub fun p hp => tget_of_mem h.nd hp
theorem at_terms {g : Form} {D B : Nat} (hD0 : 0 < D) (hD : D < 2 ^ 4400) : ∀ (ps : List Mono) {A : Mkr × Option Nat} {q : Rat} {t : Nat}, AtO x v n M A q → Gd D (t * B) q → (t + ps.length) * B < 2 ^ 4400 → (∀ p ∈ ps, (∀ k ∈ p, MkOk x v n A.1 k) ∧ PrOk v p ((tget g p).getD 0) ∧ Gd D B (evM v p * (tget g p).getD 0)) → AtO x v n M (ps.foldl (mterm g) A) (q + ksum v g ps)
  | [], A, q, t, h, _, _, _ => by
    have e : q + ksum v g [] = q := by show q + 0 = q; grind
    rw [e]
    exact h
  | p :: ps, A, q, t, h, hg, hl, hp => by
    obtain ⟨p1, p2, p3⟩ := hp p (List.mem_cons_self ..)
    rw [List.length_cons] at hl
    have g2 : Gd D ((t + 1) * B) (q + evM v p * (tget g p).getD 0) := by
      rw [Nat.add_mul, Nat.one_mul]
      exact hg.add p3
    have hle : (t + 1) * B ≤ (t + (ps.length + 1)) * B := Nat.mul_le_mul_right _ (by omega)
    have h2 := at_term h p1 p2 (g2.sz hD0 hD (by omega))
    have h3 := at_terms hD0 hD ps (t := t + 1) h2 g2 (by rw [show t + 1 + ps.length = t + (ps.length + 1) by omega]; exact hl) fun k hk => by
      obtain ⟨k1, k2, k3⟩ := hp k (List.mem_cons_of_mem _ hk)
      exact ⟨fun m hm => (k1 m hm).up fun z => mterm_in z p, k2, k3⟩
    have e : q + ksum v g (p :: ps) = q + evM v p * (tget g p).getD 0 + ksum v g ps := by
      show q + (evM v p * (tget g p).getD 0 + ksum v g ps) = _
      grind
    rw [e]
    exact h3
theorem sz0' : Sz 4400 0 := (Gd.zero 1 0).sz (by decide) (Nat.pow_lt_pow_right (a := 2) (m := 0) (by decide) (by decide)) (Nat.pow_pos (by decide))
theorem at_end {A : Mkr × Option Nat} {q : Rat} (h : AtO x v n M A q) : At x v n M (mend A) q := by
  unfold mend
  cases e : A.2 with
  | none =>
    rw [h.none_ e]
    exact (at_put h.mi (r := .num 0) trivial (fun q e => by injection e with e; rw [← e]; exact sz0') (fun _ _ e => nomatch e) rfl sz0').pre h.kep
  | some i =>
    obtain ⟨g1, g2⟩ := h.some_ i e
    exact ⟨h.mi, g1, g2, h.kep⟩
theorem at_szq {A : Mkr × Nat} {q : Rat} (h : At x v n M A q) : Sz 4400 q := by
  rw [← h.val]
  exact h.mi.sz _ (mem_getD (by rw [valsF_len]; exact h.lt))
theorem at_shut {A : Mkr × Nat} {q : Rat} (h : At x v n M A q) (b : Nat) (mk : Option Mark) : At x v n M (mshut b mk A) q ∧ (mshut b mk A).2 + 1 = (mshut b mk A).1.rows.length := by
  unfold mshut
  split
  · have h2 := at_once h.mi (r := .num 0) sz0' sz0'
    have e : q + 0 = q := by grind
    refine ⟨?_, by show _ + 1 = (mput _ _).rows.length; rw [mput_len]⟩
    refine (at_put (r := .op .plus _ _) h2.mi ⟨Nat.lt_of_lt_of_le h.lt h2.kep.len, h2.lt⟩ (fun _ e => nomatch e) (fun _ _ e => nomatch e) ?_ (at_szq h)).pre (h.kep.trans h2.kep)
    rw [rowVal_op, h2.val, h2.kep.val _ h.lt, h.val]
    exact e
  · rename_i z
    refine ⟨h, ?_⟩
    have lt := h.lt
    simp only [Bool.or_eq_true, decide_eq_true_eq, not_or] at z
    omega
/-- sizes of a form's products -/
structure FOk (v : Mark → Rat) (g : Form) : Prop where
  fm : Fm g
  ex : ∃ D B, 0 < D ∧ D < 2 ^ 4400 ∧ g.length * B < 2 ^ 4400 ∧ ∀ p ∈ g, PrOk v p.1 p.2 ∧ Gd D B (evM v p.1 * p.2)
theorem at_last (h : MI x v n M) {g : Form} (ok : FOk v g) (hm : ∀ p ∈ g, ∀ k ∈ p.1, MkOk x v n M k) (mk : Option Mark) : At x v n M (mlast M g mk) (tsum (evM v) g) ∧ (mlast M g mk).2 + 1 = (mlast M g mk).1.rows.length := by
  obtain ⟨D, B, d0, d1, l, hp⟩ := ok.ex
  have h0 : AtO x v n M (M, none) 0 := ⟨h, .rfl', (fun i e => nomatch e), fun _ => rfl⟩
  have h1 := at_terms (g := g) (B := B) d0 d1 (fkeys g) (t := 0) h0 (.zero _ _) (by rw [Nat.zero_add, fkeys_len]; exact l) fun p hpk => by
    obtain ⟨q, hq, rfl⟩ := List.mem_map.mp (fkeys_mem.mp hpk)
    have e : tget g q.1 = some q.2 := tget_of_mem ok.fm.nd hq
    rw [e]
    exact ⟨hm q hq, (hp q hq).1, (hp q hq).2⟩
  rw [ksum_all ok.fm] at h1
  have e0 : (0 : Rat) + tsum (evM v) g = tsum (evM v) g := by grind
  rw [e0] at h1
  obtain ⟨h2, h3⟩ := at_shut (at_end h1) M.rows.length mk
  unfold mlast
  simp only
  generalize mshut M.rows.length mk (mend ((fkeys g).foldl (mterm g) (M, none))) = A at h2 h3 ⊢
  refine ⟨⟨⟨h2.mi.wf, ?_, h2.mi.sz, h2.mi.kr, h2.mi.km⟩, h2.lt, h2.val, h2.kep.len, h2.kep.val⟩, h3⟩
  show (A.1.paper.set A.2 mk).length = A.1.rows.length
  rw [List.length_set]
  exact h2.mi.lp
theorem mi_mark (h : MI x v n M) {g : Form} (ok : FOk v g) (hm : ∀ p ∈ g, ∀ k ∈ p.1, MkOk x v n M k) {m : Mark} (e : tsum (evM v) g = v m) : MI x v n (mmark M m g) := by
  obtain ⟨h1, _⟩ := at_last h ok hm (some m)
  have h2 := h1.mi
  unfold mmark
  simp only
  generalize mlast M g (some m) = A at h1 h2 ⊢
  refine ⟨h2.wf, h2.lp, h2.sz, fun r i e' => ?_, fun k i e' => ?_⟩
  · have e2 : (if KK.row r = KK.mark m then some A.2 else tget A.1.known (.row r)) = some i := by rw [← tget_put]; exact e'
    rw [if_neg (fun z => nomatch z)] at e2
    exact h2.kr r i e2
  · have e2 : (if KK.mark k = KK.mark m then some A.2 else tget A.1.known (.mark k)) = some i := by rw [← tget_put]; exact e'
    by_cases q : KK.mark k = KK.mark m
    · rw [if_pos q] at e2
      injection e2 with e2
      injection q with q
      subst e2
      subst q
      exact ⟨h1.lt, h1.val.trans e⟩
    · rw [if_neg q] at e2
      exact h2.km k i e2
theorem mi_emp : MI x v n mEmp := ⟨(fun i r e => by simp [mEmp] at e), rfl, (fun y hy => by simp [mEmp, valsF] at hy), (fun r i e => by simp [mEmp, tget] at e), (fun m i e => by simp [mEmp, tget] at e)⟩
theorem MI.kok (h : MI x v n M) : KOk M := fun k i e => by
  cases k with
  | mark m => exact (h.km m i e).1
  | row r => exact (h.kr r i e).1
/-- what is known stays known -/
theorem mend_in {A : Mkr × Option Nat} {m : Mark} (h : MarkIn A.1 m) : MarkIn (mend A).1 m := by
  unfold mend
  cases A.2 with
  | none => exact h
  | some i => exact h
theorem mshut_in {A : Mkr × Nat} {m : Mark} (h : MarkIn A.1 m) (b : Nat) (mk : Option Mark) : MarkIn (mshut b mk A).1 m := by
  unfold mshut
  split
  · exact monce_in h _
  · exact h
theorem mlast_in {m : Mark} (h : MarkIn M m) (g : Form) (mk : Option Mark) : MarkIn (mlast M g mk).1 m := by
  have h1 : MarkIn (mshut M.rows.length mk (mend ((fkeys g).foldl (mterm g) (M, none)))).1 m := mshut_in (mend_in (tfold_in (fkeys g) (A := (M, none)) h)) _ _
  exact h1
theorem mmark_in {m : Mark} (h : MarkIn M m) (k : Mark) (g : Form) : MarkIn (mmark M k g) m := by
  rcases mlast_in h g (some k) with q | ⟨q1, q2⟩
  · exact .inl q
  · refine .inr ⟨q1, ?_⟩
    show (tget (tput _ _ _) _).isSome = true
    rw [tget_put]
    split
    · rfl
    · exact q2
theorem mmark_new {k : Mark} (h : k.1 ≠ -1) (g : Form) : MarkIn (mmark M k g) k := by
  refine .inr ⟨h, ?_⟩
  show (tget (tput _ _ _) _).isSome = true
  rw [tget_put, if_pos rfl]
  rfl
theorem mmark_len {g : Form} (h : Fm g) (k : Mark) : (mmark M k g).rows.length ≤ M.rows.length + 7 * g.length + 3 := mlast_len h (some k)
theorem mmark_off (k : Mark) (g : Form) : (mmark M k g).off = M.off + 1 := by
  show (mlast M g (some k)).1.off + 1 = _
  rw [off_last]
end
end U
set_option Elab.async false
set_option linter.all false
set_option maxRecDepth 100000
set_option maxHeartbeats 4000000
/-! Plain law 7: undivided. -/
namespace U
open PySem (sizeLine)
theorem size20 {a : Nat} (h : a < 1000000) : a < sizeLine := Nat.lt_trans h (by decide)
/-! ### the needed rows -/
theorem getD_of {rows : List Row} {i : Nat} (hi : i < rows.length) : rows[i]? = some (rows.getD i (.num 0)) := by
  rw [List.getD_eq_getElem?_getD, List.getElem?_eq_getElem hi]; rfl
theorem mem_nstep {rows : List Row} {f : List Nat} {i y : Nat} (hi : i < rows.length) : y ∈ nstep rows f i ↔ y ∈ f ∨ (i ∈ f ∧ ∃ w a b, rows[i]? = some (.op w a b) ∧ (y = a ∨ y = b)) := by
  unfold nstep
  have e := getD_of hi
  generalize rows.getD i (.num 0) = r at e ⊢
  split
  · rename_i hf
    cases r with
    | num q =>
      constructor
      · exact .inl
      · rintro (h | ⟨_, w, a, b, e2, _⟩)
        · exact h
        · rw [e] at e2; cases e2
    | let_ c =>
      constructor
      · exact .inl
      · rintro (h | ⟨_, w, a, b, e2, _⟩)
        · exact h
        · rw [e] at e2; cases e2
    | op w a b =>
      simp only [insN_mem]
      constructor
      · rintro ((h | h) | h)
        · exact .inl h
        · exact .inr ⟨hf, w, a, b, e, .inl h⟩
        · exact .inr ⟨hf, w, a, b, e, .inr h⟩
      · rintro (h | ⟨_, w', a', b', e2, h⟩)
        · exact .inl (.inl h)
        · rw [e] at e2
          cases e2
          rcases h with h | h
          · exact .inl (.inr h)
          · exact .inr h
  · rename_i hf
    constructor
    · exact .inl
    · rintro (h | ⟨h, _⟩)
      · exact h
      · exact absurd h hf
theorem needTo_close {rows : List Row} (wf : PartsOk rows) : ∀ t, t ≤ rows.length → ∀ i, i ∈ needTo rows t → rows.length - t ≤ i → ∀ w a b, rows[i]? = some (.op w a b) → a ∈ needTo rows t ∧ b ∈ needTo rows t := fun t => by
  induction t with
  | zero =>
    intro _ i _ hle w a b e
    have := (List.getElem?_eq_some_iff.mp e).1
    omega
  | succ t ih =>
    intro ht i hi hle w a b e
    have en : needTo rows (t + 1) = nstep rows (needTo rows t) (rows.length - 1 - t) := range_fold _ _ _
    have h0 : rows.length - 1 - t < rows.length := by omega
    rw [en] at hi ⊢
    rw [mem_nstep h0, mem_nstep h0]
    have mf : i ∈ needTo rows t := by
      rcases (mem_nstep h0).mp hi with h | ⟨_, w', a', b', e2, h⟩
      · exact h
      · have := wf _ _ _ _ e2
        omega
    by_cases q : i = rows.length - 1 - t
    · subst q
      exact ⟨.inr ⟨mf, w, a, b, e, .inl rfl⟩, .inr ⟨mf, w, a, b, e, .inr rfl⟩⟩
    · obtain ⟨h1, h2⟩ := ih (by omega) i mf (by omega) w a b e
      exact ⟨.inl h1, .inl h2⟩
theorem needTo_last (rows : List Row) : ∀ t, t ≤ rows.length → rows.length - 1 ∈ needTo rows t
  | 0, _ => by simp [needTo]
  | t + 1, ht => by
    have en : needTo rows (t + 1) = nstep rows (needTo rows t) (rows.length - 1 - t) := range_fold _ _ _
    rw [en, mem_nstep (by omega)]
    exact .inl (needTo_last rows t (by omega))
theorem need_mem {rows : List Row} {i : Nat} : i ∈ needF rows ↔ i ∈ needTo rows rows.length := List.mem_mergeSort
theorem need_close {rows : List Row} (wf : PartsOk rows) {i : Nat} (hi : i ∈ needF rows) {w : Wd} {a b : Nat} (e : rows[i]? = some (.op w a b)) : a ∈ needF rows ∧ b ∈ needF rows := by
  rw [need_mem] at *
  rw [need_mem]
  exact needTo_close wf rows.length (Nat.le_refl _) i hi (by omega) w a b e
theorem need_sorted (rows : List Row) : (needF rows).Pairwise (fun a b => a ≤ b) := by
  have h := List.pairwise_mergeSort (le := fun (a b : Nat) => decide (a ≤ b)) (fun a b c h1 h2 => by simp at *; omega) (fun a b => by simp; omega) (needTo rows rows.length)
  exact h.imp fun h => by simpa using h
theorem need_len {rows : List Row} (wf : PartsOk rows) (h0 : 0 < rows.length) : (needF rows).length ≤ rows.length := by
  have ok := needTo_ok wf h0 rows.length
  unfold needF
  rw [List.length_mergeSort]
  exact nd_len ok.nd ok.lt
/-- a part stands ahead -/
theorem need_ahead {rows : List Row} {i j a : Nat} (hj : (needF rows)[j]? = some i) (ha : a ∈ needF rows) (hai : a < i) : ∃ j', j' < j ∧ (needF rows)[j']? = some a := by
  obtain ⟨j', hj', e⟩ := List.mem_iff_getElem.mp ha
  refine ⟨j', ?_, by rw [List.getElem?_eq_getElem hj', e]⟩
  by_cases q : j' < j
  · exact q
  · exfalso
    obtain ⟨h1, h2⟩ := List.getElem?_eq_some_iff.mp hj
    by_cases z : j = j'
    · subst z; omega
    · have := List.pairwise_iff_getElem.mp (need_sorted rows) j j' h1 hj' (by omega)
      omega
/-! ### sizes of products -/
theorem ev_gd {v : Mark → Rat} : ∀ {p : Mono}, (∀ m ∈ p, Gd EE BB (v m)) → Gd (EE ^ p.length) (BB ^ p.length) (evM v p)
  | [], _ => .one 1
  | m :: p, h => by
    have h1 := (h m (List.mem_cons_self ..)).mul (ev_gd (p := p) fun k hk => h k (List.mem_cons_of_mem _ hk))
    rw [List.length_cons, Nat.pow_succ, Nat.pow_succ, Nat.mul_comm, Nat.mul_comm (BB ^ p.length)]
    exact h1
theorem pow_two_split {a l : Nat} (h : l ≤ 2) : a ^ (2 - l) * a ^ l = a ^ 2 := by
  rw [← Nat.pow_add]
  congr 1
  omega
theorem fok {S : Mark → Prop} {D : Nat} {g : Form} {v : Mark → Rat} (h : Gf S 2 D (50 * EE) 26 g) (d0 : 0 < D) (d1 : D ≤ BB) (hv : ∀ m, S m → Gd EE BB (v m)) : FOk v g := by
  have key : ∀ p ∈ g, p.1.length ≤ 2 ∧ Gd (EE ^ p.1.length) (BB ^ p.1.length) (evM v p.1) ∧ Gd (EE ^ 2 * D) (50 * EE * BB ^ 2) (evM v p.1 * p.2) := fun p hp => by
    obtain ⟨h1, h2⟩ := h.gr p hp
    have h3 := ev_gd (v := v) fun m hm => hv m (h.ins p hp m hm)
    refine ⟨h1, h3, ?_⟩
    have h4 := h2.mul h3
    rw [Nat.mul_right_comm, pow_two_split h1, Nat.mul_assoc, pow_two_split h1] at h4
    rwa [show evM v p.1 * p.2 = p.2 * evM v p.1 by grind]
  have dd : EE ^ 2 * D < 2 ^ 4400 := lt_44 (a := 36) (b := 1139) (c := 1175) (by decide) (by decide) (EE2 (Nat.le_refl _)) d1
  have b26 : 26 * (50 * EE * BB ^ 2) < 2 ^ 4400 := by
    rw [← Nat.mul_assoc]
    exact lt_44 (a := 40) (b := 2278) (c := 2318) (by decide) (by decide) (by decide) (BB2 (Nat.le_refl _))
  have dp : 0 < EE ^ 2 * D := Nat.mul_pos (Nat.pow_pos EE_pos) d0
  refine ⟨h.fm, EE ^ 2 * D, 50 * EE * BB ^ 2, dp, dd, Nat.lt_of_le_of_lt (Nat.mul_le_mul_right _ h.len) b26, fun p hp => ?_⟩
  obtain ⟨h1, h2, h3⟩ := key p hp
  refine ⟨⟨h1, h.sz (Nat.le_refl _) d0 d1 (by decide) p hp, ?_, h3.sz dp dd (by omega)⟩, h3⟩
  refine h2.sz (Nat.pow_pos EE_pos) ?_ ?_
  · exact Nat.lt_of_le_of_lt (EE2 h1) (Nat.pow_lt_pow_right (by decide) (by decide))
  · exact Nat.lt_of_le_of_lt (BB2 h1) (Nat.pow_lt_pow_right (by decide) (by decide))
section
variable {n : Nat} {rows : List Row} {pt x : List Rat} {most : Nat} {s : Nat → Nat → Rat}
theorem Pre.parts (h : Pre n rows pt most) : PartsOk rows := fun i w a b e => h.wf i _ e
/-- values of marks are small -/
theorem Pre.v_gd (h : Pre n rows pt most) (se : Ser pt x rows rows.length s) (hx : ∀ q ∈ x, PtOk q) (lx : x.length = n) : (∀ c, c < n → Gd EE BB (vx x s (-1, (c : Int)))) ∧ ∀ j e, j < rows.length → Gd EE BB (vx x s (mkI j e)) := by
  refine ⟨fun c hc => ?_, fun j e hj => ?_⟩
  · rw [vx_let]
    exact gd_pt (hx _ (mem_getD (by omega)))
  · rw [vx_mk]
    have ok := se.ok j hj hj
    have := h.l10
    exact gd_all ok.w1 (h.wt5 hj) (by omega) (ok.sz.at_ e)
theorem gd_sz {q : Rat} (g : Gd EE BB q) : Sz 4400 q := g.sz EE_pos (Nat.lt_of_lt_of_le (show EE < 2 ^ 18 by decide) (Nat.pow_le_pow_right (by decide) (by decide))) (Nat.pow_lt_pow_right (by decide) (by decide))
/-- the maker under way: j needed rows are done, of the next one k degrees -/
structure UI (x : List Rat) (s : Nat → Nat → Rat) (n : Nat) (rows : List Row) (pt : List Rat) (most j i k : Nat) (M : Mkr) : Prop where
  mi : MI x (vx x s) n M
  ins : ∀ i' e, ((∃ j', j' < j ∧ (needF rows)[j']? = some i') ∨ (i' = i ∧ e ≤ k)) → 1 ≤ e → e ≤ most → canTold (rulesF rows pt most) i' e = true → MarkIn M (mkI i' e)
  len : M.rows.length ≤ 185 * (j * most + k)
  off : M.off ≤ j * most + k
theorem mkI_ne {j e : Nat} : (mkI j e).1 ≠ -1 := by show ¬ ((j : Int) = -1); omega
theorem MkOk.of_mk {M : Mkr} {v : Mark → Rat} {j e : Nat} (h : MarkIn M (mkI j e)) : MkOk x v n M (mkI j e) := by
  rcases h with q | q
  · exact absurd q.1 mkI_ne
  · exact .inr q
theorem Pre.mk_let (h : Pre n rows pt most) (se : Ser pt x rows rows.length s) (hx : ∀ q ∈ x, PtOk q) (lx : x.length = n) {M : Mkr} {c : Nat} (hc : c < n) : MkOk x (vx x s) n M (-1, (c : Int)) := by
  have g := (h.v_gd se hx lx).1 c hc
  exact .inl ⟨c, hc, rfl, vx_let x s c, by rw [vx_let] at g; exact gd_sz g⟩
/-- the marks that a told rule names can be taken -/
theorem Pre.mks (h : Pre n rows pt most) (se : Ser pt x rows rows.length s) (hx : ∀ q ∈ x, PtOk q) (lx : x.length = n) {j i k : Nat} {M : Mkr} (ui : UI x s n rows pt most j i k M) (hj : (needF rows)[j]? = some i) {m : Mark} (hm : Ahead n rows pt most i (k + 1) m) : MkOk x (vx x s) n M m := by
  rcases hm with ⟨c, hc, rfl⟩ | ⟨j', e, rfl, e1, e2, hj', ct, hb⟩
  · exact h.mk_let se hx lx hc
  · refine .of_mk (ui.ins j' e ?_ e1 e2 ct)
    rcases hb with ⟨w, a, b, er, hab⟩ | ⟨rfl, he⟩
    · left
      have hi : i ∈ needF rows := List.mem_of_getElem? hj
      have cl := need_close h.parts hi er
      have lt := h.parts _ _ _ _ er
      rcases hab with rfl | rfl
      · exact need_ahead hj cl.1 lt.1
      · exact need_ahead hj cl.2 lt.2
    · exact .inr ⟨rfl, by omega⟩
theorem Pre.ahead_gd (h : Pre n rows pt most) (se : Ser pt x rows rows.length s) (hx : ∀ q ∈ x, PtOk q) (lx : x.length = n) {i k : Nat} (m : Mark) (hm : Ahead n rows pt most i k m) : Gd EE BB (vx x s m) := by
  rcases hm with ⟨c, hc, rfl⟩ | ⟨j', e, rfl, e1, e2, hj', ct, hb⟩
  · exact (h.v_gd se hx lx).1 c hc
  · exact (h.v_gd se hx lx).2 j' e hj'
theorem Pre.need_lt' (h : Pre n rows pt most) {j i : Nat} (hj : (needF rows)[j]? = some i) : i < rows.length := need_lt h.parts h.l1 (List.mem_of_getElem? hj)
theorem Pre.u_step (h : Pre n rows pt most) (se : Ser pt x rows rows.length s) (hx : ∀ q ∈ x, PtOk q) (lx : x.length = n) {j i k : Nat} {M : Mkr} (hj : (needF rows)[j]? = some i) (hk : k < most) (ui : UI x s n rows pt most j i k M) : UI x s n rows pt most j i (k + 1) (uStep (rulesF rows pt most) i M k) := by
  have hi := h.need_lt' hj
  obtain ⟨D, d0, d1, g⟩ := h.rget_gf hi (show 1 ≤ k + 1 by omega) (show k + 1 ≤ most by omega)
  unfold uStep
  split
  · rename_i ct
    have fk := fok g d0 d1 (h.ahead_gd se hx lx)
    have ev := h.told_ev se hi (show 1 ≤ k + 1 by omega) (show k + 1 ≤ most by omega)
    refine ⟨mi_mark ui.mi fk (fun p hp m hm => h.mks se hx lx ui hj (g.ins p hp m hm)) (by rw [ev, vx_mk]), fun i' e hb e1 e2 ct' => ?_, ?_, ?_⟩
    · by_cases q : i' = i ∧ e = k + 1
      · obtain ⟨rfl, rfl⟩ := q
        exact mmark_new mkI_ne _
      · refine mmark_in (ui.ins i' e ?_ e1 e2 ct') _ _
        rcases hb with hb | ⟨hb1, hb2⟩
        · exact .inl hb
        · refine .inr ⟨hb1, ?_⟩
          by_cases z : e = k + 1
          · exact absurd ⟨hb1, z⟩ q
          · omega
    · have h1 := mmark_len (M := M) g.fm (mkI i (k + 1))
      have h2 := g.len
      have h3 := ui.len
      omega
    · rw [mmark_off]
      have := ui.off
      omega
  · rename_i ct
    refine ⟨ui.mi, fun i' e hb e1 e2 ct' => ?_, ?_, ?_⟩
    · refine ui.ins i' e ?_ e1 e2 ct'
      rcases hb with hb | ⟨rfl, hb2⟩
      · exact .inl hb
      · refine .inr ⟨rfl, ?_⟩
        by_cases z : e = k + 1
        · subst z; exact absurd ct' ct
        · omega
    · have h3 := ui.len
      omega
    · have := ui.off
      omega
theorem uIn_succ {R : Rul} {j i k : Nat} : uIn R rows most j i (k + 1) = uStep R i (uIn R rows most j i k) k := range_fold _ _ _
theorem uTo_succ {R : Rul} {j i : Nat} (hj : (needF rows)[j]? = some i) : uTo R rows most (j + 1) = uIn R rows most j i most := by
  unfold uTo
  rw [List.take_add_one, hj, List.foldl_append]
  rfl
theorem Pre.u_in (h : Pre n rows pt most) (se : Ser pt x rows rows.length s) (hx : ∀ q ∈ x, PtOk q) (lx : x.length = n) {j i : Nat} (hj : (needF rows)[j]? = some i) (u0 : ∀ i, UI x s n rows pt most j i 0 (uTo (rulesF rows pt most) rows most j)) : ∀ k, k ≤ most → UI x s n rows pt most j i k (uIn (rulesF rows pt most) rows most j i k)
  | 0, _ => u0 i
  | k + 1, hk => by
    rw [uIn_succ]
    exact h.u_step se hx lx hj (by omega) (h.u_in se hx lx hj u0 k (by omega))
theorem Pre.u_to (h : Pre n rows pt most) (se : Ser pt x rows rows.length s) (hx : ∀ q ∈ x, PtOk q) (lx : x.length = n) : ∀ j, j ≤ (needF rows).length → ∀ i, UI x s n rows pt most j i 0 (uTo (rulesF rows pt most) rows most j)
  | 0, _ => fun i => ⟨mi_emp, fun i' e hb e1 e2 _ => by
      rcases hb with ⟨j', hj', _⟩ | ⟨_, hb⟩
      · omega
      · omega, Nat.zero_le _, Nat.zero_le _⟩
  | j + 1, hj => fun i => by
    have ej : (needF rows)[j]? = some ((needF rows)[j]) := List.getElem?_eq_getElem hj
    generalize (needF rows)[j] = i0 at ej
    have u := h.u_in se hx lx ej (h.u_to se hx lx j (by omega)) most (Nat.le_refl _)
    rw [uTo_succ ej]
    refine ⟨u.mi, fun i' e hb e1 e2 ct => ?_, ?_, ?_⟩
    · refine u.ins i' e ?_ e1 e2 ct
      rcases hb with ⟨j', hj', ej'⟩ | ⟨_, hb⟩
      · by_cases z : j' = j
        · subst z
          rw [ej] at ej'
          injection ej' with ej'
          exact .inr ⟨ej'.symm, e2⟩
        · exact .inl ⟨j', by omega, ej'⟩
      · omega
    · have := u.len
      rw [Nat.add_mul, Nat.one_mul]; omega
    · have := u.off
      rw [Nat.add_mul, Nat.one_mul]; omega
theorem Pre.jm (h : Pre n rows pt most) {j : Nat} (hj : j ≤ (needF rows).length) : j * most ≤ 50 := by
  have h1 := need_len h.parts h.l1
  have h2 := h.l10
  exact Nat.mul_le_mul (show j ≤ 10 by omega) h.m5
/-- the marks of the last form -/
theorem Pre.last_mks (h : Pre n rows pt most) (se : Ser pt x rows rows.length s) (hx : ∀ q ∈ x, PtOk q) (lx : x.length = n) : FOk (vx x s) (lastF (rulesF rows pt most)) ∧ Fm (lastF (rulesF rows pt most)) ∧ (lastF (rulesF rows pt most)).length ≤ 26 ∧ ∀ p ∈ lastF (rulesF rows pt most), ∀ m ∈ p.1, MkOk x (vx x s) n (uTo (rulesF rows pt most) rows most (needF rows).length) m := by
  have l1 := h.l1
  have m5 := h.m5
  have hj : rows.length - 1 < rows.length := by omega
  have g0 := h.last_gf most (Nat.le_refl _)
  rw [← lastF_to] at g0
  have u := h.u_to se hx lx (needF rows).length (Nat.le_refl _) 0
  have g := g0.up.wk (fun _ z => z) (show 1 + 2 * most ≤ 50 * EE from Nat.le_trans (show 1 + 2 * most ≤ 50 by omega) (by decide)) (show 1 + 2 * most ≤ 26 by omega)
  refine ⟨fok g (by decide) one_le_BB fun m hm => ?_, g.fm, g.len, fun p hp m hm => ?_⟩
  · rcases hm with ⟨c, hc, rfl⟩ | ⟨e, rfl, e1, e2, ct⟩
    · exact (h.v_gd se hx lx).1 c hc
    · exact (h.v_gd se hx lx).2 _ e hj
  · rcases g.ins p hp m hm with ⟨c, hc, rfl⟩ | ⟨e, rfl, e1, e2, ct⟩
    · exact h.mk_let se hx lx hc
    · refine .of_mk (u.ins _ e (.inl ?_) e1 e2 ct)
      obtain ⟨j', hj', ej⟩ := List.mem_iff_getElem.mp (need_mem.mpr (needTo_last rows rows.length (Nat.le_refl _)))
      exact ⟨j', hj', by rw [List.getElem?_eq_getElem hj', ej]⟩
theorem Pre.und_ok (h : Pre n rows pt most) : UndOk rows pt most := by
  have l10 := h.l10
  have m5 := h.m5
  obtain ⟨s, se⟩ := ser_ex h.olds h.pts h.lp h.pts h.lp rows.length
  refine ⟨h.rules, h.l1, by omega, h.parts, h.lf, fun j i k hj hk ct => ?_, ?_⟩
  · have jl : j < (needF rows).length := (List.getElem?_eq_some_iff.mp hj).1
    have u := h.u_in se h.pts h.lp hj (h.u_to se h.pts h.lp j (by omega)) k (by omega)
    have hi := h.need_lt' hj
    obtain ⟨D, d0, d1, g⟩ := h.rget_gf hi (show 1 ≤ k + 1 by omega) (show k + 1 ≤ most by omega)
    have jm := h.jm (j := j) (by omega)
    refine ⟨⟨u.mi.kok, g.fm, fun p hp m hm => (h.mks se h.pts h.lp u hj (g.ins p hp m hm)).inn, ?_⟩, ?_⟩
    · have h1 := g.len
      have h2 := u.len
      exact size20 (by omega)
    · have := u.off
      omega
  · have u := h.u_to se h.pts h.lp (needF rows).length (Nat.le_refl _) 0
    obtain ⟨_, f2, f3, f4⟩ := h.last_mks se h.pts h.lp
    have jm := h.jm (Nat.le_refl _)
    refine ⟨u.mi.kok, f2, fun p hp m hm => (f4 p hp m hm).inn, ?_⟩
    have h2 := u.len
    exact size20 (by omega)
theorem Pre.fin (h : Pre n rows pt most) (se : Ser pt x rows rows.length s) (hx : ∀ q ∈ x, PtOk q) (lx : x.length = n) : MI x (vx x s) n (undF rows pt most) ∧ (undF rows pt most).rows ≠ [] ∧ (undF rows pt most).rows.length < 100000 ∧ (GoodTo x rows rows.length → (valsF x (undF rows pt most).rows).getD ((undF rows pt most).rows.length - 1) 0 = (valsF x rows).getD (rows.length - 1) 0) := by
  have u := h.u_to se hx lx (needF rows).length (Nat.le_refl _) 0
  obtain ⟨f1, f2, f3, f4⟩ := h.last_mks se hx lx
  obtain ⟨a1, a2⟩ := at_last u.mi f1 f4 none
  have jm := h.jm (Nat.le_refl _)
  have ll := mlast_len (M := uTo (rulesF rows pt most) rows most (needF rows).length) f2 none
  have ul := u.len
  refine ⟨a1.mi, fun z => ?_, ?_, fun g => ?_⟩
  · have := a1.lt
    unfold undF at z
    rw [z] at this
    exact absurd this (Nat.not_lt_zero _)
  · unfold undF
    omega
  · have e := a1.val
    rw [h.last_val se g] at e
    have e2 : (undF rows pt most).rows.length - 1 = (mlast (uTo (rulesF rows pt most) rows most (needF rows).length) (lastF (rulesF rows pt most)) none).2 := by
      unfold undF
      omega
    rw [e2]
    exact e
theorem run_of_mi {v : Mark → Rat} {M : Mkr} (h : MI x v n M) (lx : x.length = n) (hl : M.rows.length < 100000) : RunOk x M.rows := by
  refine ⟨fun i r e => by rw [lx]; exact (h.wf i r e).1, fun i hi _ y hy => ?_, size20 (by omega)⟩
  obtain ⟨t, e⟩ := valsF_pre x M.rows i
  exact h.sz y (by rw [e]; exact List.mem_append_left _ hy)
theorem Pre.new_ok (h : Pre n rows pt most) : NewOk n rows (undF rows pt most) := by
  obtain ⟨s0, se0⟩ := ser_ex h.olds h.pts h.lp h.pts h.lp rows.length
  obtain ⟨m0, ne, few, _⟩ := h.fin se0 h.pts h.lp
  refine ⟨ne, size20 (by omega), m0.wf, m0.lp, fun x lx hx => ?_, fun x lx hx g => ?_⟩
  · have hx' : ∀ q ∈ x, PtOk q := fun q hq => (hx q hq).pt
    obtain ⟨s, se⟩ := ser_ex h.olds h.pts h.lp hx' lx rows.length
    exact run_of_mi (h.fin se hx' lx).1 lx few
  · have hx' : ∀ q ∈ x, PtOk q := fun q hq => (hx q hq).pt
    obtain ⟨s, se⟩ := ser_ex h.olds h.pts h.lp hx' lx rows.length
    exact (h.fin se hx' lx).2.2.2 g
end
theorem und_all (n : Nat) (pts : List Rat) (rows : List Row) (pt : List Rat) (most : Nat) (old : OldOk n pts rows) (lp : pt.length = n) (hp : ∀ x ∈ pt, PtOk x) (g : GoodTo pt rows rows.length) (hm : most = 4 ∨ most = 5) : UndOk rows pt most ∧ NewOk n rows (undF rows pt most) := by
  have d := old.dgl
  have p : Pre n rows pt most := ⟨old.n3, old.olds, old.l1, old.l10, lp, hp, g, by omega, by unfold dgAt; omega⟩
  exact ⟨p.und_ok, p.new_ok⟩
end U
set_option Elab.async false
set_option linter.all false
set_option maxRecDepth 100000
set_option maxHeartbeats 4000000
/-! Plain law 8: polynomials: sizes, values. -/
namespace U
open PySem (sizeLine)
def nn (D : Nat) (q : Rat) : Nat := (q * (((D : Nat) : Int) : Rat)).num.natAbs
def isI (D : Nat) (q : Rat) : Prop := (q * (((D : Nat) : Int) : Rat)).den = 1
theorem gd_of {D : Nat} {q : Rat} (h : isI D q) : Gd D (nn D q) q := by
  refine ⟨(q * (((D : Nat) : Int) : Rat)).num, ?_, Nat.le_refl _⟩
  have key : ∀ r : Rat, r.den = 1 → r = ((r.num : Int) : Rat) := fun r hr => Rat.ext (by rw [Rat.num_intCast]) (by rw [Rat.den_intCast]; exact hr)
  exact key _ h
theorem gd_is {D B : Nat} {q : Rat} (h : Gd D B q) : isI D q ∧ nn D q ≤ B := by
  obtain ⟨z, h1, h2⟩ := h
  unfold isI nn
  rw [h1, Rat.num_intCast, Rat.den_intCast]
  exact ⟨rfl, h2⟩
theorem nn_add {D : Nat} {p q : Rat} (hp : isI D p) (hq : isI D q) : isI D (p + q) ∧ nn D (p + q) ≤ nn D p + nn D q := gd_is ((gd_of hp).add (gd_of hq))
theorem nn_zero (D : Nat) : isI D 0 ∧ nn D 0 = 0 := by
  have h := gd_is (Gd.zero D 0)
  exact ⟨h.1, Nat.le_zero.mp h.2⟩
def l1 (D : Nat) : Poly → Nat
  | [] => 0
  | t :: p => nn D t.2 + l1 D p
structure LB (D B : Nat) (p : Poly) : Prop where
  i : ∀ t ∈ p, isI D t.2
  b : l1 D p ≤ B
theorem l1_app (D : Nat) : ∀ p q : Poly, l1 D (p ++ q) = l1 D p + l1 D q
  | [], q => by show l1 D q = 0 + l1 D q; omega
  | t :: p, q => by show nn D t.2 + l1 D (p ++ q) = nn D t.2 + l1 D p + l1 D q; rw [l1_app D p q]; omega
theorem l1_mem {D : Nat} {t : Pw × Rat} : ∀ {p : Poly}, t ∈ p → nn D t.2 ≤ l1 D p
  | [], h => by cases h
  | u :: p, h => by
    show _ ≤ nn D u.2 + l1 D p
    rcases List.mem_cons.mp h with rfl | h
    · omega
    · have := l1_mem (D := D) h; omega
theorem LB.at_ {D B : Nat} {p : Poly} (h : LB D B p) {t : Pw × Rat} (ht : t ∈ p) : Gd D B t.2 := (gd_of (h.i t ht)).mono (Nat.le_trans (l1_mem ht) h.b)
theorem LB.mono {D B B' : Nat} {p : Poly} (h : LB D B p) (hb : B ≤ B') : LB D B' p := ⟨h.i, Nat.le_trans h.b hb⟩
theorem LB.nil {D B : Nat} : LB D B [] := ⟨(fun t h => by cases h), Nat.zero_le _⟩
theorem LB.cons {D B B' : Nat} {t : Pw × Rat} {p : Poly} (ht : Gd D B t.2) (h : LB D B' p) : LB D (B + B') (t :: p) := by
  obtain ⟨h1, h2⟩ := gd_is ht
  refine ⟨fun u hu => ?_, Nat.add_le_add h2 h.b⟩
  rcases List.mem_cons.mp hu with rfl | hu
  · exact h1
  · exact h.i u hu
theorem LB.app {D B B' : Nat} {p q : Poly} (hp : LB D B p) (hq : LB D B' q) : LB D (B + B') (p ++ q) := by
  refine ⟨fun u hu => ?_, by rw [l1_app]; exact Nat.add_le_add hp.b hq.b⟩
  rcases List.mem_append.mp hu with hu | hu
  · exact hp.i u hu
  · exact hq.i u hu
theorem LB.take {D B : Nat} {p : Poly} (h : LB D B p) (i : Nat) : LB D B (p.take i) := by
  have e : l1 D p = l1 D (p.take i) + l1 D (p.drop i) := by rw [← l1_app, List.take_append_drop]
  have := h.b
  exact ⟨fun t ht => h.i t (List.mem_of_mem_take ht), by omega⟩
theorem LB.wide {D B : Nat} (m : Nat) : ∀ {p : Poly}, LB D B p → LB (D * m) (B * m) p := fun {p} h => by
  have key : ∀ p : Poly, (∀ t ∈ p, isI D t.2) → LB (D * m) (l1 D p * m) p := fun p => by
    induction p with
    | nil => intro _; exact .nil
    | cons t p ih =>
      intro h
      have h1 := (gd_of (h t (List.mem_cons_self ..))).wide m
      have h2 := ih fun u hu => h u (List.mem_cons_of_mem _ hu)
      show LB (D * m) ((nn D t.2 + l1 D p) * m) (t :: p)
      rw [Nat.add_mul]
      exact .cons h1 h2
  exact (key p h.i).mono (Nat.mul_le_mul_right _ h.b)
/-! ### like powers added -/
theorem l1_map {D : Nat} (a : Pw) (q : Rat) : ∀ {G : Poly}, (G.map (·.1)).Nodup → ∀ {b}, tget G a = some b → l1 D (G.map fun p => if p.1 = a then (p.1, q) else p) + nn D b = l1 D G + nn D q
  | [], _, b, h => by cases h
  | p :: G, hn, b, h => by
    rw [List.map_cons] at hn
    obtain ⟨h1, h2⟩ := List.nodup_cons.mp hn
    rw [List.map_cons]
    by_cases e : p.1 = a
    · rw [tget_pos e] at h
      cases h
      rw [if_pos e, map_keep (fun z => h1 (e ▸ z))]
      show nn D q + l1 D G + nn D p.2 = nn D p.2 + l1 D G + nn D q
      omega
    · rw [tget_neg e] at h
      rw [if_neg e]
      have := l1_map a q h2 h (D := D)
      show nn D p.2 + l1 D _ + nn D b = nn D p.2 + l1 D G + nn D q
      omega
theorem acc_lb {D B B' : Nat} {G : Poly} {t : Pw × Rat} (hn : (G.map (·.1)).Nodup) (h : LB D B G) (ht : Gd D B' t.2) : LB D (B + B') (accStep G t) := by
  obtain ⟨t1, t2⟩ := gd_is ht
  have hi : isI D ((tget G t.1).getD 0 + t.2) ∧ nn D ((tget G t.1).getD 0 + t.2) ≤ nn D ((tget G t.1).getD 0) + nn D t.2 := by
    refine nn_add ?_ t1
    cases e : tget G t.1 with
    | none => exact (nn_zero D).1
    | some b => exact h.i _ (tget_mem e)
  refine ⟨fun u hu => ?_, ?_⟩
  · rcases mem_put hu with rfl | hu
    · exact hi.1
    · exact h.i u hu
  · unfold accStep tput
    rw [tget_any]
    have hb := h.b
    cases e : tget G t.1 with
    | none =>
      rw [e] at hi
      rw [if_neg (by simp), l1_app]
      have := (nn_zero D).2
      have h2 : nn D (Option.getD (none : Option Rat) 0 + t.2) ≤ nn D 0 + nn D t.2 := hi.2
      show l1 D G + (nn D (Option.getD none 0 + t.2) + 0) ≤ _
      omega
    | some b =>
      rw [e] at hi
      rw [if_pos (by rfl)]
      have h2 : nn D (Option.getD (some b) 0 + t.2) ≤ nn D b + nn D t.2 := hi.2
      have := l1_map (D := D) t.1 (Option.getD (some b) 0 + t.2) hn e
      omega
theorem accs_lb {D : Nat} : ∀ (ts : Poly) {G : Poly} {B B' : Nat}, (G.map (·.1)).Nodup → LB D B G → LB D B' ts → LB D (B + B') (ts.foldl accStep G) ∧ ((ts.foldl accStep G).map (·.1)).Nodup
  | [], G, B, B', hn, h, _ => ⟨h.mono (Nat.le_add_right _ _), hn⟩
  | t :: ts, G, B, B', hn, h, hts => by
    have h1 : Gd D (nn D t.2) t.2 := gd_of (hts.i t (List.mem_cons_self ..))
    have h2 : LB D (l1 D ts) ts := ⟨fun u hu => hts.i u (List.mem_cons_of_mem _ hu), Nat.le_refl _⟩
    have hb : nn D t.2 + l1 D ts ≤ B' := hts.b
    obtain ⟨r1, r2⟩ := accs_lb ts (nodup_put hn _ _) (acc_lb hn h h1) h2
    exact ⟨r1.mono (by omega), r2⟩
theorem acc_key {k : Pw} : ∀ (ts : Poly) {G : Poly}, k ∈ (ts.foldl accStep G).map (·.1) → k ∈ G.map (·.1) ∨ k ∈ ts.map (·.1)
  | [], _, h => .inl h
  | t :: ts, G, h => by
    rcases acc_key ts h with h | h
    · obtain ⟨u, hu, rfl⟩ := List.mem_map.mp h
      rcases mem_put hu with rfl | hu
      · exact .inr (List.mem_map.mpr ⟨t, List.mem_cons_self .., rfl⟩)
      · exact .inl (List.mem_map.mpr ⟨u, hu, rfl⟩)
    · obtain ⟨u, hu, rfl⟩ := List.mem_map.mp h
      exact .inr (List.mem_map.mpr ⟨u, List.mem_cons_of_mem _ hu, rfl⟩)
theorem acc_sum (ev : Pw → Rat) : ∀ (ts : Poly) {G : Poly}, (G.map (·.1)).Nodup → tsum ev (ts.foldl accStep G) = tsum ev G + tsum ev ts
  | [], G, _ => by rw [tsum_nil]; show tsum ev G = _; grind
  | t :: ts, G, hn => by
    rw [List.foldl_cons, acc_sum ev ts (G := accStep G t) (nodup_put hn _ _), tsum_cons]
    unfold accStep
    rw [tsum_put ev hn]
    grind
/-- what a polynomial is put out by -/
def osum (g : Pw → Rat) (ks : List Pw) : Rat := (ks.map g).foldr (· + ·) 0
theorem osum_perm (g : Pw → Rat) {ps qs : List Pw} (h : ps.Perm qs) : osum g ps = osum g qs := by
  induction h with
  | nil => rfl
  | cons p _ ih => show _ + osum g _ = _ + osum g _; rw [ih]
  | swap p q l => show _ + (_ + osum g l) = _ + (_ + osum g l); grind
  | trans _ _ h1 h2 => exact h1.trans h2
def osn (g : Pw → Nat) (ks : List Pw) : Nat := (ks.map g).foldr (· + ·) 0
theorem osn_perm (g : Pw → Nat) {ps qs : List Pw} (h : ps.Perm qs) : osn g ps = osn g qs := by
  induction h with
  | nil => rfl
  | cons p _ ih => show _ + osn g _ = _ + osn g _; rw [ih]
  | swap p q l => show _ + (_ + osn g l) = _ + (_ + osn g l); omega
  | trans _ _ h1 h2 => exact h1.trans h2
theorem out_sum (ev : Pw → Rat) (G : Poly) : ∀ ks, tsum ev (outF G ks) = osum (fun k => ev k * (tget G k).getD 0) ks
  | [] => rfl
  | k :: ks => by
    have ih := out_sum ev G ks
    unfold outF at ih ⊢
    show _ = ev k * (tget G k).getD 0 + osum _ ks
    by_cases h : (tget G k).getD 0 = 0
    · rw [List.filter_cons_of_neg (by simp [h]), ih, h]
      grind
    · rw [List.filter_cons_of_pos (by simp [h]), List.map_cons, tsum_cons, ih]
theorem out_l1 (D : Nat) (G : Poly) : ∀ ks, l1 D (outF G ks) ≤ osn (fun k => nn D ((tget G k).getD 0)) ks
  | [] => Nat.le_refl _
  | k :: ks => by
    have ih := out_l1 D G ks
    unfold outF at ih ⊢
    show _ ≤ nn D ((tget G k).getD 0) + osn _ ks
    by_cases h : (tget G k).getD 0 = 0
    · rw [List.filter_cons_of_neg (by simp [h])]
      omega
    · rw [List.filter_cons_of_pos (by simp [h]), List.map_cons]
      show nn D ((tget G k).getD 0) + l1 D _ ≤ _
      omega
theorem keys_sum (ev : Pw → Rat) {G : Poly} : ∀ {f : Poly}, (∀ p ∈ f, tget G p.1 = some p.2) → osum (fun k => ev k * (tget G k).getD 0) (f.map (·.1)) = tsum ev f
  | [], _ => rfl
  | p :: f, h => by
    show ev p.1 * (tget G p.1).getD 0 + osum _ (f.map (·.1)) = _
    rw [h p (List.mem_cons_self ..), keys_sum ev fun q hq => h q (List.mem_cons_of_mem _ hq), tsum_cons]
    rfl
theorem keys_l1 (D : Nat) {G : Poly} : ∀ {f : Poly}, (∀ p ∈ f, tget G p.1 = some p.2) → osn (fun k => nn D ((tget G k).getD 0)) (f.map (·.1)) = l1 D f
  | [], _ => rfl
  | p :: f, h => by
    show nn D ((tget G p.1).getD 0) + osn _ (f.map (·.1)) = _
    rw [h p (List.mem_cons_self ..), keys_l1 D fun q hq => h q (List.mem_cons_of_mem _ hq)]
    rfl
theorem pkeys_perm (G : Poly) : (pkeys G).Perm (G.map (·.1)) := List.mergeSort_perm ..
theorem acc_nd (ts : Poly) : ((accF ts).map (·.1)).Nodup := by
  unfold accF
  have key : ∀ (ts G : Poly), (G.map (·.1)).Nodup → ((ts.foldl accStep G).map (·.1)).Nodup := fun ts => by
    induction ts with
    | nil => intro G h; exact h
    | cons t ts ih => intro G h; exact ih _ (nodup_put h _ _)
  exact key ts [] List.nodup_nil
theorem polyF_sum (ev : Pw → Rat) (ts : Poly) : tsum ev (polyF ts) = tsum ev ts := by
  unfold polyF
  rw [out_sum, osum_perm _ (pkeys_perm _), keys_sum ev fun p hp => tget_of_mem (acc_nd ts) hp]
  unfold accF
  rw [acc_sum ev ts (G := []) List.nodup_nil, tsum_nil]
  grind
theorem out_mem {G : Poly} {ks : List Pw} {t : Pw × Rat} (h : t ∈ outF G ks) : t.1 ∈ ks ∧ t.2 = (tget G t.1).getD 0 := by
  obtain ⟨k, hk, rfl⟩ := List.mem_map.mp h
  exact ⟨(List.mem_filter.mp hk).1, rfl⟩
theorem polyF_nd (ts : Poly) : ((polyF ts).map (·.1)).Nodup := by
  unfold polyF outF
  rw [List.map_map]
  have e : ((·.1) ∘ fun k => (k, (tget (accF ts) k).getD 0) : Pw → Pw) = id := rfl
  rw [e, List.map_id]
  exact ((pkeys_perm _).nodup_iff.mpr (acc_nd ts)).filter _
theorem polyF_key {ts : Poly} {t : Pw × Rat} (h : t ∈ polyF ts) : t.1 ∈ ts.map (·.1) := by
  have h1 := (out_mem h).1
  have h2 := (pkeys_perm _).mem_iff.mp h1
  rcases acc_key ts h2 with h3 | h3
  · cases h3
  · exact h3
theorem acc_LB {D B : Nat} {ts : Poly} (h : LB D B ts) : LB D B (accF ts) := by
  have := (accs_lb ts (G := []) (B := 0) List.nodup_nil .nil h).1
  rw [Nat.zero_add] at this
  exact this
theorem polyF_LB {D B : Nat} {ts : Poly} (h : LB D B ts) : LB D B (polyF ts) := by
  have ha := acc_LB h
  refine ⟨fun t ht => ?_, ?_⟩
  · rw [(out_mem ht).2]
    cases e : tget (accF ts) t.1 with
    | none => exact (nn_zero D).1
    | some b => exact ha.i _ (tget_mem e)
  · refine Nat.le_trans (out_l1 D _ _) ?_
    rw [osn_perm _ (pkeys_perm _), keys_l1 D fun p hp => tget_of_mem (acc_nd ts) hp]
    exact ha.b
theorem poly_ok {D B : Nat} {ts : Poly} (h : LB D B ts) (d0 : 0 < D) (d1 : D < 2 ^ 4400) (b1 : B < 2 ^ 4400) (hl : ts.length < sizeLine) : PolyOk ts :=
  ⟨hl, fun t ht => (h.at_ ht).sz d0 d1 b1, fun i _ t ht => ((acc_LB (h.take i)).at_ ht).sz d0 d1 b1⟩
/-! ### products -/
theorem mul_LB {D D' B B' : Nat} {a b : Poly} (ha : LB D B a) (hb : LB D' B' b) : LB (D * D') (B * B') (mulTs a b) := by
  have row : ∀ (t : Pw × Rat), isI D t.2 → ∀ b : Poly, (∀ u ∈ b, isI D' u.2) → LB (D * D') (nn D t.2 * l1 D' b) (b.map fun u => (addP t.1 u.1, t.2 * u.2)) := fun t ht b => by
    induction b with
    | nil => intro _; exact .nil
    | cons u b ih =>
      intro h
      have h1 := (gd_of ht).mul (gd_of (h u (List.mem_cons_self ..)))
      have h2 := ih fun v hv => h v (List.mem_cons_of_mem _ hv)
      show LB (D * D') (nn D t.2 * (nn D' u.2 + l1 D' b)) ((addP t.1 u.1, t.2 * u.2) :: _)
      rw [Nat.mul_add]
      exact .cons h1 h2
  have all : ∀ a : Poly, (∀ t ∈ a, isI D t.2) → LB (D * D') (l1 D a * l1 D' b) (mulTs a b) := fun a => by
    induction a with
    | nil => intro _; exact .nil
    | cons t a ih =>
      intro h
      have h1 := row t (h t (List.mem_cons_self ..)) b hb.i
      have h2 := ih fun v hv => h v (List.mem_cons_of_mem _ hv)
      show LB (D * D') ((nn D t.2 + l1 D a) * l1 D' b) (List.flatMap _ (t :: a))
      rw [List.flatMap_cons, Nat.add_mul]
      exact h1.app h2
  exact (all a ha.i).mono (Nat.mul_le_mul ha.b hb.b)
theorem mul_mem {a b : Poly} {t : Pw × Rat} (h : t ∈ mulTs a b) : ∃ u ∈ a, ∃ w ∈ b, t.1 = addP u.1 w.1 := by
  obtain ⟨u, hu, h2⟩ := List.mem_flatMap.mp h
  obtain ⟨w, hw, rfl⟩ := List.mem_map.mp h2
  exact ⟨u, hu, w, hw, rfl⟩
theorem turn_LB {D B : Nat} {a : Poly} (h : LB D B a) : LB D B (turnF a) := by
  have all : ∀ a : Poly, (∀ t ∈ a, isI D t.2) → LB D (l1 D a) (turnF a) := fun a => by
    induction a with
    | nil => intro _; exact .nil
    | cons t a ih =>
      intro h
      have h1 := (Gd.zero D 0).sub (gd_of (h t (List.mem_cons_self ..)))
      rw [Nat.zero_add] at h1
      exact .cons h1 (ih fun v hv => h v (List.mem_cons_of_mem _ hv))
  exact (all a h.i).mono h.b
/-! ### values -/
def pw (q : Rat) : Nat → Rat
  | 0 => 1
  | e + 1 => pw q e * q
theorem pw_add (q : Rat) (a : Nat) : ∀ b, pw q (a + b) = pw q a * pw q b
  | 0 => by show pw q a = pw q a * 1; grind
  | b + 1 => by show pw q (a + b) * q = pw q a * (pw q b * q); rw [pw_add q a b]; grind
def evm : List Rat → Pw → Rat
  | q :: x, e :: k => pw q e * evm x k
  | _, _ => 1
theorem evm_nil (x : List Rat) : evm x [] = 1 := by cases x <;> rfl
theorem evm_add : ∀ (x : List Rat) (a b : Pw), a.length = b.length → evm x (addP a b) = evm x a * evm x b
  | [], a, b, _ => by
    have e : ∀ k, evm [] k = 1 := fun k => by cases k <;> rfl
    rw [e, e, e]; grind
  | q :: x, [], b, h => by
    have : b = [] := List.eq_nil_of_length_eq_zero h.symm
    subst this
    show evm (q :: x) [] = _
    rw [evm_nil]; grind
  | q :: x, e :: a, [], h => by cases h
  | q :: x, e :: a, f :: b, h => by
    show pw q (e + f) * evm x (addP a b) = pw q e * evm x a * (pw q f * evm x b)
    rw [pw_add, evm_add x a b (by simpa using h)]
    grind
def evP (x : List Rat) (p : Poly) : Rat := tsum (evm x) p
theorem evP_mul {x : List Rat} {n : Nat} {b : Poly} (hb : ∀ u ∈ b, u.1.length = n) : ∀ {a : Poly}, (∀ t ∈ a, t.1.length = n) → evP x (mulTs a b) = evP x a * evP x b
  | [], _ => by show (0 : Rat) = 0 * _; grind
  | t :: a, ha => by
    have ht := ha t (List.mem_cons_self ..)
    have row : ∀ b : Poly, (∀ u ∈ b, u.1.length = n) → tsum (evm x) (b.map fun u => (addP t.1 u.1, t.2 * u.2)) = evm x t.1 * t.2 * tsum (evm x) b := fun b => by
      induction b with
      | nil => intro _; rw [List.map_nil, tsum_nil]; grind
      | cons u b ih =>
        intro hb
        rw [List.map_cons, tsum_cons, tsum_cons, ih fun v hv => hb v (List.mem_cons_of_mem _ hv)]
        show evm x (addP t.1 u.1) * (t.2 * u.2) + _ = _
        rw [evm_add x _ _ (ht.trans (hb u (List.mem_cons_self ..)).symm)]
        grind
    have ih := evP_mul (x := x) hb (a := a) fun v hv => ha v (List.mem_cons_of_mem _ hv)
    unfold evP at ih ⊢
    show tsum (evm x) (List.flatMap _ (t :: a)) = _
    rw [List.flatMap_cons, tsum_app, row b hb, tsum_cons]
    show _ + tsum (evm x) (mulTs a b) = _
    rw [ih]
    grind
theorem evP_poly (x : List Rat) (ts : Poly) : evP x (polyF ts) = evP x ts := polyF_sum _ _
theorem evP_app (x : List Rat) (p q : Poly) : evP x (p ++ q) = evP x p + evP x q := tsum_app _ _ _
theorem evP_turn (x : List Rat) : ∀ p : Poly, evP x (turnF p) = - evP x p
  | [] => by show (0 : Rat) = - 0; grind
  | t :: p => by
    have ih := evP_turn x p
    unfold evP at ih ⊢
    show tsum (evm x) ((t.1, 0 - t.2) :: turnF p) = _
    rw [tsum_cons, tsum_cons, ih]
    show evm x t.1 * (0 - t.2) + _ = _
    grind
/-! ### few keys -/
def enc : Pw → Nat
  | [] => 0
  | e :: k => e + 6 * enc k
theorem enc_lt : ∀ {k : Pw} {n : Nat}, k.length = n → (∀ e ∈ k, e ≤ 5) → enc k < 6 ^ n
  | [], _, h, _ => by subst h; show 0 < 6 ^ 0; decide
  | e :: k, n, h, hk => by
    subst h
    have h1 := hk e (List.mem_cons_self ..)
    have h2 := enc_lt (k := k) rfl fun f hf => hk f (List.mem_cons_of_mem _ hf)
    show e + 6 * enc k < 6 ^ (k.length + 1)
    rw [Nat.pow_succ]
    omega
theorem enc_inj : ∀ {k l : Pw}, k.length = l.length → (∀ e ∈ k, e ≤ 5) → (∀ e ∈ l, e ≤ 5) → enc k = enc l → k = l
  | [], [], _, _, _, _ => rfl
  | [], _ :: _, h, _, _, _ => by cases h
  | _ :: _, [], h, _, _, _ => by cases h
  | e :: k, f :: l, h, hk, hl, he => by
    have h1 := hk e (List.mem_cons_self ..)
    have h2 := hl f (List.mem_cons_self ..)
    have he2 : e + 6 * enc k = f + 6 * enc l := he
    have h3 : enc k = enc l := by omega
    have h4 : e = f := by omega
    rw [h4, enc_inj (by simpa using h) (fun g hg => hk g (List.mem_cons_of_mem _ hg)) (fun g hg => hl g (List.mem_cons_of_mem _ hg)) h3]
theorem sum_mem {e : Nat} : ∀ {k : Pw}, e ∈ k → e ≤ k.sum
  | [], h => by cases h
  | f :: k, h => by
    rw [List.sum_cons]
    rcases List.mem_cons.mp h with rfl | h
    · omega
    · have := sum_mem h; omega
/-- a polynomial in n letters, of degree w at most -/
structure PG (n w B : Nat) (p : Poly) : Prop where
  nd : (p.map (·.1)).Nodup
  ks : ∀ t ∈ p, t.1.length = n ∧ t.1.sum ≤ w
  lb : LB (12 ^ w) B p
theorem PG.few {n w B : Nat} {p : Poly} (h : PG n w B p) (hn : n ≤ 3) (hw : w ≤ 5) : p.length ≤ 216 := by
  have e5 : ∀ k ∈ p.map (·.1), k.length = n ∧ ∀ e ∈ k, e ≤ 5 := fun k hk => by
    obtain ⟨t, ht, rfl⟩ := List.mem_map.mp hk
    obtain ⟨h1, h2⟩ := h.ks t ht
    exact ⟨h1, fun e he => by have := sum_mem he; omega⟩
  have h1 : ((p.map (·.1)).map enc).Nodup := nodup_map_of_inj enc h.nd fun a ha b hb e => enc_inj ((e5 a ha).1.trans (e5 b hb).1.symm) (e5 a ha).2 (e5 b hb).2 e
  have h2 := nd_len (n := 6 ^ n) h1 fun y hy => by
    obtain ⟨k, hk, rfl⟩ := List.mem_map.mp hy
    exact enc_lt (e5 k hk).1 (e5 k hk).2
  rw [List.length_map, List.length_map] at h2
  exact Nat.le_trans h2 (Nat.le_trans (Nat.pow_le_pow_right (by decide) hn) (by decide))
theorem addP_len {a b : Pw} {n : Nat} (ha : a.length = n) (hb : b.length = n) : (addP a b).length = n := by
  unfold addP
  rw [List.length_zipWith, ha, hb, Nat.min_self]
theorem addP_sum : ∀ {a b : Pw}, a.length = b.length → (addP a b).sum = a.sum + b.sum
  | [], [], _ => rfl
  | [], _ :: _, h => by cases h
  | _ :: _, [], h => by cases h
  | e :: a, f :: b, h => by
    show (e + f) + (addP a b).sum = _
    rw [addP_sum (by simpa using h), List.sum_cons, List.sum_cons]
    omega
theorem PG.mul {n w w' B B' : Nat} {a b : Poly} (ha : PG n w B a) (hb : PG n w' B' b) : PG n (w + w') (B * B') (polyF (mulTs a b)) := by
  refine ⟨polyF_nd _, fun t ht => ?_, ?_⟩
  · obtain ⟨u, hu, e⟩ := List.mem_map.mp (polyF_key ht)
    obtain ⟨c, hc, d, hd, e2⟩ := mul_mem hu
    obtain ⟨c1, c2⟩ := ha.ks c hc
    obtain ⟨d1, d2⟩ := hb.ks d hd
    rw [← e, e2]
    refine ⟨addP_len c1 d1, ?_⟩
    rw [addP_sum (c1.trans d1.symm)]
    omega
  · rw [Nat.pow_add]
    exact polyF_LB (mul_LB ha.lb hb.lb)
theorem PG.up {n w w' B : Nat} {a : Poly} (h : PG n w B a) (hw : w ≤ w') : PG n w' (B * 12 ^ (w' - w)) a := by
  refine ⟨h.nd, fun t ht => ⟨(h.ks t ht).1, Nat.le_trans (h.ks t ht).2 hw⟩, ?_⟩
  have e : 12 ^ w' = 12 ^ w * 12 ^ (w' - w) := by rw [← Nat.pow_add]; congr 1; omega
  rw [e]
  exact h.lb.wide _
theorem PG.mono {n w B B' : Nat} {a : Poly} (h : PG n w B a) (hb : B ≤ B') : PG n w B' a := ⟨h.nd, h.ks, h.lb.mono hb⟩
theorem PG.plus {n w B B' : Nat} {a b : Poly} (ha : PG n w B a) (hb : PG n w B' b) : PG n w (B + B') (polyF (a ++ b)) := by
  refine ⟨polyF_nd _, fun t ht => ?_, polyF_LB (ha.lb.app hb.lb)⟩
  obtain ⟨u, hu, e⟩ := List.mem_map.mp (polyF_key ht)
  rw [← e]
  rcases List.mem_append.mp hu with hu | hu
  · exact ha.ks u hu
  · exact hb.ks u hu
theorem PG.turn {n w B : Nat} {a : Poly} (h : PG n w B a) : PG n w B (turnF a) := by
  refine ⟨?_, fun t ht => ?_, turn_LB h.lb⟩
  · unfold turnF
    rw [List.map_map]
    exact h.nd
  · obtain ⟨u, hu, rfl⟩ := List.mem_map.mp ht
    exact h.ks u hu
end U
set_option Elab.async false
set_option linter.all false
set_option maxRecDepth 100000
set_option maxHeartbeats 4000000
/-! Plain law 9: quotients are small, and their divisors not nought. -/
namespace U
open PySem (sizeLine)
def w2 (rows : List Row) (i : Nat) : Nat := ((wtsF rows).getD i (0, 0)).2
structure QI (n : Nat) (pts : List Rat) (rows : List Row) (j : Nat) (p : PQ) : Prop where
  n1 : PG n (wt rows j) (bnd (wt rows j) j) p.1
  n2 : PG n (w2 rows j) (bnd (w2 rows j) j) p.2
  ev : evP pts p.1 = (valsF pts rows).getD j 0 * evP pts p.2
  nz : evP pts p.2 ≠ 0
  w1 : 1 ≤ wt rows j
theorem bnd_num {a i c j : Nat} (hac : a ≤ c) (hij : i < j) (hc1 : 1 ≤ c) : bnd a i * 12 ^ (c - a) ≤ 2 ^ (c * (28 + 20 * j) - 1) := by
  have h1 : 12 ^ (c - a) ≤ 2 ^ (4 * (c - a)) := by
    rw [Nat.pow_mul]
    exact Nat.pow_le_pow_left (by decide) _
  have h2 : bnd a i * 12 ^ (c - a) ≤ 2 ^ (a * (28 + 20 * i)) * 2 ^ (4 * (c - a)) := Nat.mul_le_mul_left _ h1
  refine Nat.le_trans h2 ?_
  rw [← Nat.pow_add]
  refine Nat.pow_le_pow_right (by decide) ?_
  have h3 : a * (28 + 20 * i) ≤ c * (28 + 20 * i) := Nat.mul_le_mul_right _ hac
  have h4 : c * (28 + 20 * j) = c * (28 + 20 * i) + c * (20 * (j - i)) := by rw [← Nat.mul_add]; congr 1; omega
  have h5 : c * 20 ≤ c * (20 * (j - i)) := Nat.mul_le_mul_left _ (by omega)
  omega
theorem bnd_mul {a b i j m : Nat} (hi : i ≤ m) (hj : j ≤ m) : bnd a i * bnd b j ≤ bnd (a + b) m := by
  unfold bnd
  rw [← Nat.pow_add]
  refine Nat.pow_le_pow_right (by decide) ?_
  rw [Nat.add_mul]
  exact Nat.add_le_add (Nat.mul_le_mul_left _ (by omega)) (Nat.mul_le_mul_left _ (by omega))
theorem bnd_5 {w j : Nat} (hw : w ≤ 5) (hj : j < 10) : bnd w j ≤ 2 ^ 1140 := by
  unfold bnd
  refine Nat.pow_le_pow_right (by decide) ?_
  have : w * (28 + 20 * j) ≤ 5 * 228 := Nat.mul_le_mul hw (by omega)
  omega
theorem p12 {w : Nat} (hw : w ≤ 10) : 12 ^ w ≤ 2 ^ 40 := by
  refine Nat.le_trans (Nat.pow_le_pow_right (by decide) hw) ?_
  decide
theorem times_ok {n w w' B B' : Nat} {a b : Poly} (hn : n ≤ 3) (ha : PG n w B a) (hb : PG n w' B' b) (hw : w ≤ 5) (hw' : w' ≤ 5) (hB : B ≤ 2 ^ 1140) (hB' : B' ≤ 2 ^ 1140) : TimesOk a b := by
  have la := ha.few hn hw
  have lb := hb.few hn hw'
  have d44 : ∀ w, w ≤ 10 → 12 ^ w < 2 ^ 4400 := fun w h => Nat.lt_of_le_of_lt (p12 h) (Nat.pow_lt_pow_right (by decide) (by decide))
  have b44 : ∀ B, B ≤ 2 ^ 1140 → B < 2 ^ 4400 := fun B h => Nat.lt_of_le_of_lt h (Nat.pow_lt_pow_right (by decide) (by decide))
  refine ⟨fun t ht => (ha.lb.at_ ht).sz (Nat.pow_pos (by decide)) (d44 _ (by omega)) (b44 _ hB), fun t ht => (hb.lb.at_ ht).sz (Nat.pow_pos (by decide)) (d44 _ (by omega)) (b44 _ hB'), fun t ht => size20 (by have := (ha.ks t ht).1; omega), ?_, size20 (by omega)⟩
  refine poly_ok (mul_LB ha.lb hb.lb) (Nat.mul_pos (Nat.pow_pos (by decide)) (Nat.pow_pos (by decide))) (by rw [← Nat.pow_add]; exact d44 _ (by omega)) (lt_44 (a := 1140) (b := 1140) (c := 2280) (by decide) (by decide) hB hB') ?_
  rw [mulTs_len]
  have : a.length * b.length ≤ 216 * 216 := Nat.mul_le_mul la lb
  exact size20 (by omega)
theorem zeros_len (n : Nat) : (zeros n).length = n := List.length_replicate
theorem zeros_sum : ∀ n, (zeros n).sum = 0
  | 0 => rfl
  | n + 1 => by
    show (0 :: zeros n).sum = 0
    rw [List.sum_cons, zeros_sum n]
theorem evm_zeros : ∀ (x : List Rat) (n : Nat), evm x (zeros n) = 1
  | [], n => by cases zeros n <;> rfl
  | q :: x, 0 => rfl
  | q :: x, n + 1 => by
    show 1 * evm x (zeros n) = 1
    rw [evm_zeros x n]; grind
theorem unit_zero (n : Nat) : unitP (n + 1) 0 = 1 :: zeros n := by
  unfold unitP zeros
  rw [List.range_succ_eq_map, List.map_cons, List.map_map]
  congr 1
  rw [List.eq_replicate_iff]
  refine ⟨by simp, fun b hb => ?_⟩
  obtain ⟨j, _, rfl⟩ := List.mem_map.mp hb
  rfl
theorem unit_succ (n k : Nat) : unitP (n + 1) (k + 1) = 0 :: unitP n k := by
  unfold unitP
  rw [List.range_succ_eq_map, List.map_cons, List.map_map]
  congr 1
  refine List.map_congr_left fun j _ => ?_
  show (if j + 1 = k + 1 then 1 else 0) = if j = k then 1 else 0
  by_cases q : j = k
  · rw [if_pos q, if_pos (by omega)]
  · rw [if_neg q, if_neg (by omega)]
theorem unit_len (n k : Nat) : (unitP n k).length = n := by unfold unitP; rw [List.length_map, List.length_range]
theorem unit_sum : ∀ {n k : Nat}, k < n → (unitP n k).sum = 1
  | 0, k, h => by omega
  | n + 1, 0, _ => by rw [unit_zero, List.sum_cons, zeros_sum]
  | n + 1, k + 1, h => by rw [unit_succ, List.sum_cons, unit_sum (by omega)]
theorem evm_unit : ∀ {x : List Rat} {n k : Nat}, k < n → x.length = n → evm x (unitP n k) = x.getD k 0
  | [], n, k, h, e => by simp at e; omega
  | q :: x, 0, k, h, e => by omega
  | q :: x, n + 1, 0, _, _ => by
    rw [unit_zero]
    show (1 * q) * evm x (zeros n) = q
    rw [evm_zeros]; grind
  | q :: x, n + 1, k + 1, h, e => by
    rw [unit_succ]
    show 1 * evm x (unitP n k) = x.getD k 0
    rw [evm_unit (by omega) (by simpa using e)]; grind
theorem one_PG (n B w : Nat) {q : Rat} {k : Pw} (hk : k.length = n) (hs : k.sum ≤ w) (hq : Gd (12 ^ w) B q) : PG n w B (polyF [(k, q)]) := by
  have h0 : LB (12 ^ w) (B + 0) [(k, q)] := .cons hq .nil
  refine ⟨polyF_nd _, fun t ht => ?_, polyF_LB h0⟩
  obtain ⟨u, hu, e⟩ := List.mem_map.mp (polyF_key ht)
  rw [List.mem_singleton] at hu
  subst hu
  rw [← e]
  exact ⟨hk, hs⟩
theorem one_ok {q : Rat} {k : Pw} {D B : Nat} (hq : Gd D B q) (d0 : 0 < D) (hD : D ≤ 2 ^ 40) (hB : B ≤ 2 ^ 1140) : PolyOk [(k, q)] := by
  have h0 : LB D (B + 0) [(k, q)] := .cons hq .nil
  exact poly_ok h0 d0 (Nat.lt_of_le_of_lt hD (Nat.pow_lt_pow_right (by decide) (by decide))) (Nat.lt_of_le_of_lt hB (Nat.pow_lt_pow_right (by decide) (by decide))) (size20 (by show 1 < 1000000; decide))
theorem evP_one (x : List Rat) (k : Pw) (q : Rat) : evP x (polyF [(k, q)]) = evm x k * q := by
  rw [evP_poly]
  unfold evP
  rw [tsum_cons, tsum_nil]
  grind
theorem pqAt_lt {acc : List PQ} {y : PQ} {j : Nat} (h : j < acc.length) : pqAt (acc ++ [y]) j = pqAt acc j := getD_snoc_lt h
theorem pqAt_eq {acc : List PQ} {y : PQ} {j : Nat} (h : acc.length = j) : pqAt (acc ++ [y]) j = y := getD_snoc_eq' h
section
variable {n : Nat} {pts : List Rat} {rows : List Row}
theorem q_step (old : OldOk n pts rows) {m : Nat} {r : Row} (e : rows[m]? = some r) {acc : List PQ} (qi : ∀ j, j < m → QI n pts rows j (pqAt acc j)) : QOk n acc r ∧ QI n pts rows m (quotOf n acc r) := by
  have hm : m < rows.length := (List.getElem?_eq_some_iff.mp e).1
  have l10 := old.l10
  have n3 := old.n3
  have wf := old.olds.wf m r e
  have rok := old.olds m r e
  have hw : (wt rows m, w2 rows m) = wtOf (wtsF rows) r := by
    show (((wtsF rows).getD m (0, 0)).1, ((wtsF rows).getD m (0, 0)).2) = _
    rw [wt_eq e wf]
  have hw1 : wt rows m = (wtOf (wtsF rows) r).1 := congrArg Prod.fst hw
  have hw2 : w2 rows m = (wtOf (wtsF rows) r).2 := congrArg Prod.snd hw
  have w5 : wt rows m ≤ 5 := by rw [hw1, ← wt_eqT e wf]; exact rok.w1
  have w5' : w2 rows m ≤ 5 := by rw [hw2, ← wt_eqT e wf]; exact rok.w2
  have lt5 : ∀ j, j < m → wt rows j ≤ 5 ∧ w2 rows j ≤ 5 := fun j hj => by
    have ej : rows[j]? = some (rows[j]) := List.getElem?_eq_getElem (by omega)
    have rj := old.olds j _ ej
    have wj := old.olds.wf j _ ej
    unfold wt w2
    rw [wt_eq ej wj, ← wt_eqT ej wj]
    exact ⟨rj.w1, rj.w2⟩
  have hv := val_eq pts e wf
  have onePG : PG n 0 (bnd 0 m) (polyF (oneTs n)) := one_PG n _ 0 (zeros_len n) (by rw [zeros_sum]; exact Nat.le_refl _) ((Gd.one 1).mono (by unfold bnd; exact Nat.pow_pos (by decide)))
  have oneEv : evP pts (polyF (oneTs n)) = 1 := by
    unfold oneTs
    rw [evP_one, evm_zeros]; grind
  cases r with
  | num q =>
    have hq : Gd 12 (12 * 1000000) q := rok.num q rfl
    have e1 : wt rows m = 1 := hw1
    have e2 : w2 rows m = 0 := hw2
    refine ⟨one_ok hq (by decide) (by decide) (Nat.le_trans (show 12 * 1000000 ≤ 2 ^ 28 by decide) (Nat.pow_le_pow_right (by decide) (by decide))), ?_, ?_, ?_, ?_, by omega⟩
    · rw [e1]
      exact one_PG n _ 1 (zeros_len n) (by rw [zeros_sum]; omega) (Gd.mono hq (Nat.le_trans (show 12 * 1000000 ≤ 2 ^ (1 * 28) by decide) (Nat.pow_le_pow_right (by decide) (by show 1 * 28 ≤ 1 * (28 + 20 * m); omega))))
    · rw [e2]; exact onePG
    · show evP pts (polyF [(zeros n, q)]) = _ * evP pts (polyF (oneTs n))
      rw [oneEv, evP_one, evm_zeros, hv]
      show 1 * q = q * 1
      grind
    · show evP pts (polyF (oneTs n)) ≠ 0
      rw [oneEv]; decide
  | let_ k =>
    have hk : k < n := wf
    have e1 : wt rows m = 1 := hw1
    have e2 : w2 rows m = 0 := hw2
    refine ⟨one_ok (Gd.one 1) (by decide) (by decide) (Nat.pow_pos (by decide)), ?_, ?_, ?_, ?_, by omega⟩
    · rw [e1]
      exact one_PG n _ 1 (unit_len n k) (by rw [unit_sum hk]; exact Nat.le_refl _) ((Gd.one 12).mono (Nat.le_trans (show 12 ≤ 2 ^ (1 * 28) by decide) (Nat.pow_le_pow_right (by decide) (by show 1 * 28 ≤ 1 * (28 + 20 * m); omega))))
    · rw [e2]; exact onePG
    · show evP pts (polyF [(unitP n k, 1)]) = _ * evP pts (polyF (oneTs n))
      rw [oneEv, evP_one, evm_unit hk old.lp, hv]
      show pts.getD k 0 * 1 = pts.getD k 0 * 1
      rfl
    · show evP pts (polyF (oneTs n)) ≠ 0
      rw [oneEv]; decide
  | op w a b =>
    obtain ⟨ha, hb⟩ := wf
    have qa := qi a ha
    have qb := qi b hb
    obtain ⟨a5, a5'⟩ := lt5 a ha
    obtain ⟨b5, b5'⟩ := lt5 b hb
    have a1 := qa.w1
    have b1 := qb.w1
    have ea := qa.ev
    have eb := qb.ev
    have za := qa.nz
    have zb := qb.nz
    have ka1 := fun t ht => (qa.n1.ks t ht).1
    have ka2 := fun t ht => (qa.n2.ks t ht).1
    have kb1 := fun t ht => (qb.n1.ks t ht).1
    have kb2 := fun t ht => (qb.n2.ks t ht).1
    have ba1 := bnd_5 a5 (show a < 10 by omega)
    have ba2 := bnd_5 a5' (show a < 10 by omega)
    have bb1 := bnd_5 b5 (show b < 10 by omega)
    have bb2 := bnd_5 b5' (show b < 10 by omega)
    have sum2 : ∀ c, 1 ≤ c → ∀ X Y : Nat, X ≤ 2 ^ (c * (28 + 20 * m) - 1) → Y ≤ 2 ^ (c * (28 + 20 * m) - 1) → X + Y ≤ bnd c m := fun c hc X Y hX hY => by
      have : 28 ≤ c * (28 + 20 * m) := Nat.le_trans (by omega) (Nat.mul_le_mul hc (show 28 ≤ 28 + 20 * m by omega))
      have e2 : bnd c m = 2 ^ (c * (28 + 20 * m) - 1) + 2 ^ (c * (28 + 20 * m) - 1) := by
        unfold bnd
        rw [← Nat.two_mul, ← Nat.pow_succ']
        congr 1
        omega
      omega
    -- the sum of two products, for plus and less
    have sums : (w = .plus ∨ w = .less) → (TimesOk (pqAt acc a).1 (pqAt acc b).2 ∧ TimesOk (pqAt acc b).1 (pqAt acc a).2 ∧ TimesOk (pqAt acc a).2 (pqAt acc b).2) ∧ ∃ X Y c, c = wt rows m ∧ 1 ≤ c ∧ PG n c X (polyF (mulTs (pqAt acc a).1 (pqAt acc b).2)) ∧ PG n c Y (polyF (mulTs (pqAt acc b).1 (pqAt acc a).2)) ∧ X + Y ≤ bnd c m ∧ PG n (w2 rows m) (bnd (w2 rows m) m) (polyF (mulTs (pqAt acc a).2 (pqAt acc b).2)) := fun hpl => by
      have e1 : wt rows m = max (wt rows a + w2 rows b) (wt rows b + w2 rows a) := by rcases hpl with rfl | rfl <;> exact hw1
      have e2 : w2 rows m = w2 rows a + w2 rows b := by rcases hpl with rfl | rfl <;> exact hw2
      have c1 : 1 ≤ wt rows m := by omega
      have p1 := qa.n1.mul qb.n2
      have p2 := qb.n1.mul qa.n2
      have p3 := qa.n2.mul qb.n2
      refine ⟨⟨times_ok n3 qa.n1 qb.n2 a5 b5' ba1 bb2, times_ok n3 qb.n1 qa.n2 b5 a5' bb1 ba2, times_ok n3 qa.n2 qb.n2 a5' b5' ba2 bb2⟩, _, _, wt rows m, rfl, c1, p1.up (show wt rows a + w2 rows b ≤ wt rows m by omega), p2.up (show wt rows b + w2 rows a ≤ wt rows m by omega), sum2 _ c1 _ _ ?_ ?_, ?_⟩
      · exact Nat.le_trans (Nat.mul_le_mul_right _ (bnd_mul (m := max a b) (by omega) (by omega))) (bnd_num (by omega) (by omega) c1)
      · exact Nat.le_trans (Nat.mul_le_mul_right _ (bnd_mul (m := max a b) (by omega) (by omega))) (bnd_num (by omega) (by omega) c1)
      · rw [e2]
        exact p3.mono (bnd_mul (by omega) (by omega))
    have s44 : ∀ c, c ≤ 5 → ∀ X Y, X + Y ≤ bnd c m → X + Y < 2 ^ 4400 := fun c hc X Y h => Nat.lt_of_le_of_lt (Nat.le_trans h (bnd_5 hc (by omega))) (Nat.pow_lt_pow_right (by decide) (by decide))
    have d44 : ∀ w, w ≤ 10 → 12 ^ w < 2 ^ 4400 := fun w h => Nat.lt_of_le_of_lt (p12 h) (Nat.pow_lt_pow_right (by decide) (by decide))
    cases w with
    | plus =>
      obtain ⟨⟨t1, t2, t3⟩, X, Y, c, hc, c1, p1, p2, hXY, p3⟩ := sums (.inl rfl)
      have pl := p1.plus p2
      rw [hc] at p1 p2 hXY pl
      have l1 := p1.few n3 w5
      have l2 := p2.few n3 w5
      refine ⟨⟨t1, t2, poly_ok (p1.lb.app p2.lb) (Nat.pow_pos (by decide)) (d44 _ (by omega)) (s44 _ w5 _ _ hXY) (by rw [List.length_append]; exact size20 (by omega)), t3⟩, pl.mono hXY, p3, ?_, ?_, by omega⟩
      · show evP pts (polyF (polyF (mulTs (pqAt acc a).1 (pqAt acc b).2) ++ polyF (mulTs (pqAt acc b).1 (pqAt acc a).2))) = _ * evP pts (polyF (mulTs (pqAt acc a).2 (pqAt acc b).2))
        rw [evP_poly, evP_app, evP_poly, evP_poly, evP_poly, evP_mul kb2 ka1, evP_mul ka2 kb1, evP_mul kb2 ka2, ea, eb, hv]
        show _ = ((valsF pts rows).getD a 0 + (valsF pts rows).getD b 0) * _
        grind
      · show evP pts (polyF (mulTs (pqAt acc a).2 (pqAt acc b).2)) ≠ 0
        rw [evP_poly, evP_mul kb2 ka2]
        grind
    | less =>
      obtain ⟨⟨t1, t2, t3⟩, X, Y, c, hc, c1, p1, p2, hXY, p3⟩ := sums (.inr rfl)
      have pl := p1.plus p2.turn
      rw [hc] at p1 p2 hXY pl
      have l1 := p1.few n3 w5
      have l2 := p2.turn.few n3 w5
      refine ⟨⟨t1, t2, fun t ht => (p2.lb.at_ ht).sz (Nat.pow_pos (by decide)) (d44 _ (by omega)) (by have := s44 _ w5 _ _ hXY; omega), poly_ok (p1.lb.app p2.turn.lb) (Nat.pow_pos (by decide)) (d44 _ (by omega)) (s44 _ w5 _ _ hXY) (by rw [List.length_append]; exact size20 (by omega)), t3⟩, pl.mono hXY, p3, ?_, ?_, by omega⟩
      · show evP pts (polyF (polyF (mulTs (pqAt acc a).1 (pqAt acc b).2) ++ turnF (polyF (mulTs (pqAt acc b).1 (pqAt acc a).2)))) = _ * evP pts (polyF (mulTs (pqAt acc a).2 (pqAt acc b).2))
        rw [evP_poly, evP_app, evP_poly, evP_turn, evP_poly, evP_poly, evP_mul kb2 ka1, evP_mul ka2 kb1, evP_mul kb2 ka2, ea, eb, hv]
        show _ = ((valsF pts rows).getD a 0 - (valsF pts rows).getD b 0) * _
        grind
      · show evP pts (polyF (mulTs (pqAt acc a).2 (pqAt acc b).2)) ≠ 0
        rw [evP_poly, evP_mul kb2 ka2]
        grind
    | times =>
      have e1 : wt rows m = wt rows a + wt rows b := hw1
      have e2 : w2 rows m = w2 rows a + w2 rows b := hw2
      refine ⟨⟨times_ok n3 qa.n1 qb.n1 a5 b5 ba1 bb1, times_ok n3 qa.n2 qb.n2 a5' b5' ba2 bb2⟩, ?_, ?_, ?_, ?_, by omega⟩
      · rw [e1]; exact (qa.n1.mul qb.n1).mono (bnd_mul (by omega) (by omega))
      · rw [e2]; exact (qa.n2.mul qb.n2).mono (bnd_mul (by omega) (by omega))
      · show evP pts (polyF (mulTs (pqAt acc a).1 (pqAt acc b).1)) = _ * evP pts (polyF (mulTs (pqAt acc a).2 (pqAt acc b).2))
        rw [evP_poly, evP_poly, evP_mul kb1 ka1, evP_mul kb2 ka2, ea, eb, hv]
        show _ = ((valsF pts rows).getD a 0 * (valsF pts rows).getD b 0) * _
        grind
      · show evP pts (polyF (mulTs (pqAt acc a).2 (pqAt acc b).2)) ≠ 0
        rw [evP_poly, evP_mul kb2 ka2]
        grind
    | over =>
      have e1 : wt rows m = wt rows a + w2 rows b := hw1
      have e2 : w2 rows m = w2 rows a + wt rows b := hw2
      have nz := good_div (n := n) old.good e ⟨ha, hb⟩
      refine ⟨⟨fun z => ?_, times_ok n3 qa.n1 qb.n2 a5 b5' ba1 bb2, times_ok n3 qa.n2 qb.n1 a5' b5 ba2 bb1⟩, ?_, ?_, ?_, ?_, by omega⟩
      · rw [z] at eb
        have : (0 : Rat) = (valsF pts rows).getD b 0 * evP pts (pqAt acc b).2 := eb
        grind
      · rw [e1]; exact (qa.n1.mul qb.n2).mono (bnd_mul (by omega) (by omega))
      · rw [e2]; exact (qa.n2.mul qb.n1).mono (bnd_mul (by omega) (by omega))
      · show evP pts (polyF (mulTs (pqAt acc a).1 (pqAt acc b).2)) = _ * evP pts (polyF (mulTs (pqAt acc a).2 (pqAt acc b).1))
        rw [evP_poly, evP_poly, evP_mul kb2 ka1, evP_mul kb1 ka2, ea, eb, hv]
        show _ = ((valsF pts rows).getD a 0 / (valsF pts rows).getD b 0) * _
        grind
      · show evP pts (polyF (mulTs (pqAt acc a).2 (pqAt acc b).1)) ≠ 0
        rw [evP_poly, evP_mul kb1 ka2, eb]
        grind
theorem q_all (old : OldOk n pts rows) : ∀ m, m ≤ rows.length → ∀ j, j < m → QI n pts rows j (pqAt (quotF n (rows.take m)) j)
  | 0, _ => fun j hj => absurd hj (Nat.not_lt_zero _)
  | m + 1, hm => fun j hj => by
    have e : rows[m]? = some (rows[m]) := List.getElem?_eq_getElem (by omega)
    have ih := q_all old m (by omega)
    have la : (quotF n (rows.take m)).length = m := by rw [quotF_len, List.length_take]; omega
    rw [quotF_take e]
    by_cases q : j = m
    · subst q
      rw [pqAt_eq la]
      exact (q_step old e ih).2
    · rw [pqAt_lt (by omega)]
      exact ih j (by omega)
theorem quot_ok (old : OldOk n pts rows) : QuotOk n rows := by
  refine ⟨old.n1, old.n3, old.olds.wf, size20 (by have := old.l10; omega), one_ok (Gd.one 1) (by decide) (by decide) (Nat.pow_pos (by decide)), fun i r e => ?_⟩
  have hi : i < rows.length := (List.getElem?_eq_some_iff.mp e).1
  exact (q_step old e (q_all old i (by omega))).1
end
end U
set_option Elab.async false
set_option linter.all false
set_option maxRecDepth 100000
set_option maxHeartbeats 4000000
/-! Plain law 10: a good point is found; all of the plain laws. -/
namespace U
open PySem (sizeLine)
abbrev nr (m : Nat) : Rat := (((m : Nat) : Int) : Rat)
def PolyD : Nat → (Rat → Rat) → Prop
  | 0, h => ∃ c, ∀ t, h t = c
  | D + 1, h => ∃ c g, PolyD D g ∧ ∀ t, h t = c + t * g t
theorem PolyD.cong {h h' : Rat → Rat} : ∀ {D : Nat}, PolyD D h → (∀ t, h' t = h t) → PolyD D h'
  | 0, ⟨c, e⟩, q => ⟨c, fun t => by rw [q, e]⟩
  | D + 1, ⟨c, g, p, e⟩, q => ⟨c, g, p, fun t => by rw [q, e]⟩
theorem PolyD.const (c : Rat) : ∀ D, PolyD D (fun _ => c)
  | 0 => ⟨c, fun _ => rfl⟩
  | D + 1 => ⟨c, fun _ => 0, .const 0 D, fun t => by grind⟩
theorem PolyD.up1 {h : Rat → Rat} : ∀ {D : Nat}, PolyD D h → PolyD (D + 1) h
  | 0, ⟨c, e⟩ => ⟨c, fun _ => 0, .const 0 0, fun t => by rw [e]; grind⟩
  | D + 1, ⟨c, g, p, e⟩ => ⟨c, g, p.up1, e⟩
theorem PolyD.up {h : Rat → Rat} {D E : Nat} (p : PolyD D h) (hE : D ≤ E) : PolyD E h := by
  obtain ⟨k, rfl⟩ : ∃ k, E = D + k := ⟨E - D, by omega⟩
  clear hE
  induction k with
  | zero => exact p
  | succ k ih => exact ih.up1
theorem PolyD.add {f g : Rat → Rat} : ∀ {D : Nat}, PolyD D f → PolyD D g → PolyD D (fun t => f t + g t)
  | 0, ⟨c, e⟩, ⟨d, e'⟩ => ⟨c + d, fun t => by dsimp only; rw [e, e']⟩
  | D + 1, ⟨c, f', p, e⟩, ⟨d, g', p', e'⟩ => ⟨c + d, fun t => f' t + g' t, p.add p', fun t => by dsimp only; rw [e, e']; grind⟩
theorem PolyD.smul (q : Rat) {f : Rat → Rat} : ∀ {D : Nat}, PolyD D f → PolyD D (fun t => q * f t)
  | 0, ⟨c, e⟩ => ⟨q * c, fun t => by dsimp only; rw [e]⟩
  | D + 1, ⟨c, f', p, e⟩ => ⟨q * c, fun t => q * f' t, p.smul q, fun t => by dsimp only; rw [e]; grind⟩
theorem PolyD.sub {f g : Rat → Rat} {D : Nat} (hf : PolyD D f) (hg : PolyD D g) : PolyD D (fun t => f t - g t) := (hf.add (hg.smul (-1))).cong fun t => by grind
theorem PolyD.mul {f g : Rat → Rat} : ∀ {D E : Nat}, PolyD D f → PolyD E g → PolyD (D + E) (fun t => f t * g t)
  | 0, E, ⟨c, e⟩, hg => ((hg.smul c).up (by omega)).cong fun t => by rw [e]
  | D + 1, E, ⟨c, f', p, e⟩, hg => by
    have h1 : PolyD (D + E + 1) (fun t => c * g t) := (hg.smul c).up (by omega)
    have h2 : PolyD (D + E + 1) (fun t => t * (f' t * g t)) := ⟨0, fun t => f' t * g t, p.mul hg, fun t => by grind⟩
    rw [show D + 1 + E = D + E + 1 by omega]
    exact (h1.add h2).cong fun t => by rw [e]; grind
theorem PolyD.id : PolyD 1 (fun t => t) := ⟨0, fun _ => 1, .const 1 0, fun t => by grind⟩
theorem PolyD.part {h : Rat → Rat} : ∀ {D : Nat}, PolyD (D + 1) h → ∀ r, ∃ g, PolyD D g ∧ ∀ t, h t = h r + (t - r) * g t
  | 0, ⟨c, g, ⟨d, e'⟩, e⟩, r => ⟨fun _ => d, .const d 0, fun t => by rw [e t, e r, e', e']; grind⟩
  | D + 1, ⟨c, g, p, e⟩, r => by
    obtain ⟨g', p', e'⟩ := PolyD.part p r
    refine ⟨fun t => g t + r * g' t, p.add ((p'.smul r).up1), fun t => ?_⟩
    rw [e t, e r]
    have := e' t
    grind
theorem nr_sub {m i : Nat} (h : m < i) : nr i - nr m ≠ 0 := fun e => by
  have e2 : nr i = nr m := by grind
  have : (i : Int) = (m : Int) := by exact_mod_cast e2
  omega
theorem PolyD.roots : ∀ (D : Nat) {h : Rat → Rat} (m : Nat), PolyD D h → (∀ i, i ≤ D → h (nr (m + i)) = 0) → ∀ t, h t = 0
  | 0, h, m, ⟨c, e⟩, z, t => by rw [e, ← e (nr (m + 0))]; exact z 0 (Nat.le_refl _)
  | D + 1, h, m, p, z, t => by
    obtain ⟨g, pg, e⟩ := p.part (nr m)
    have z0 : h (nr m) = 0 := z 0 (Nat.zero_le _)
    have hg : ∀ t, g t = 0 := PolyD.roots D (m + 1) pg fun i hi => by
      have h1 := z (i + 1) (by omega)
      rw [show m + (i + 1) = m + 1 + i by omega, e, z0] at h1
      have h2 := nr_sub (m := m) (i := m + 1 + i) (by omega)
      grind
    rw [e t, z0, hg t]
    grind
/-! ### the rows as functions, the quotients solved -/
def FRow (f : Nat → List Rat → Rat) (i : Nat) : Row → Prop
  | .num q => ∀ x, f i x = q
  | .let_ c => ∀ x, f i x = x.getD c 0
  | .op .plus a b => ∀ x, f i x = f a x + f b x
  | .op .less a b => ∀ x, f i x = f a x - f b x
  | .op .times a b => ∀ x, f i x = f a x * f b x
  | .op .over a b => ∀ x, f a x = f b x * f i x
structure Fv (rows : List Row) (m : Nat) (f : Nat → List Rat → Rat) : Prop where
  eqn : ∀ i r, i < m → rows[i]? = some r → FRow f i r
  po : ∀ i, i < m → i < rows.length → ∀ (k : Nat) (x : List Rat), PolyD (dgAt rows i) (fun t => f i (x.set k t))
theorem fRow_congr {f f' : Nat → List Rat → Rat} {n i : Nat} {r : Row} (wf : RowWf n i r) (h : ∀ j, j ≤ i → f' j = f j) (e : FRow f i r) : FRow f' i r := by
  have hi := h i (Nat.le_refl _)
  cases r with
  | num q => show ∀ x, f' i x = _; rw [hi]; exact e
  | let_ c => show ∀ x, f' i x = _; rw [hi]; exact e
  | op w a b =>
    have ha := h a (Nat.le_of_lt wf.1)
    have hb := h b (Nat.le_of_lt wf.2)
    cases w with
    | plus => show ∀ x, f' i x = f' a x + f' b x; rw [hi, ha, hb]; exact e
    | less => show ∀ x, f' i x = f' a x - f' b x; rw [hi, ha, hb]; exact e
    | times => show ∀ x, f' i x = f' a x * f' b x; rw [hi, ha, hb]; exact e
    | over => show ∀ x, f' a x = f' b x * f' i x; rw [hi, ha, hb]; exact e
theorem set_getD {x : List Rat} {k c : Nat} {t : Rat} : (x.set k t).getD c 0 = if c = k ∧ k < x.length then t else x.getD c 0 := by
  rw [List.getD_eq_getElem?_getD, List.getD_eq_getElem?_getD, List.getElem?_set]
  by_cases q : k = c
  · subst q
    rw [if_pos rfl]
    by_cases z : k < x.length
    · rw [if_pos z, if_pos ⟨rfl, z⟩]; rfl
    · rw [if_neg z, if_neg (fun h => z h.2), List.getElem?_eq_none (by omega)]
  · rw [if_neg q, if_neg (fun h => q h.1.symm)]
theorem fv_ex {n : Nat} {rows : List Row} (h : Olds n 5 rows) : ∀ m, ∃ f, Fv rows m f := fun m => by
  induction m with
  | zero => exact ⟨fun _ _ => 0, fun i r hi => absurd hi (Nat.not_lt_zero _), fun i hi => absurd hi (Nat.not_lt_zero _)⟩
  | succ m ih =>
    obtain ⟨f, fe⟩ := ih
    by_cases hm : m < rows.length
    · have e : rows[m]? = some (rows[m]) := List.getElem?_eq_getElem hm
      generalize hr : rows[m] = r at e
      have rok := h m r e
      have wf := h.wf m r e
      have hde : dgAt rows m = dgOf (dgF rows) r := by unfold dgAt; rw [dg_eq e wf]
      have up : ∀ g : List Rat → Rat, (∀ (k : Nat) (x : List Rat), PolyD (dgAt rows m) (fun t => g (x.set k t))) → (∀ f' : Nat → List Rat → Rat, f' m = g → (∀ j, j < m → f' j = f j) → FRow f' m r) → ∃ f, Fv rows (m + 1) f := fun g go gr => by
        refine ⟨fun i => if i = m then g else f i, fun i r' hi ei => ?_, fun i hi hl => ?_⟩
        · by_cases q : i = m
          · subst q
            rw [e] at ei
            cases ei
            exact gr _ (if_pos rfl) fun j hj => if_neg (by omega)
          · refine fRow_congr (h.wf i r' ei) (fun j hj => ?_) (fe.eqn i r' (by omega) ei)
            exact if_neg (by omega)
        · by_cases q : i = m
          · subst q
            show ∀ (k : Nat) (x : List Rat), PolyD (dgAt rows i) (fun t => (if i = i then g else f i) (x.set k t))
            rw [if_pos rfl]
            exact go
          · show ∀ (k : Nat) (x : List Rat), PolyD (dgAt rows i) (fun t => (if i = m then g else f i) (x.set k t))
            rw [if_neg q]
            exact fe.po i (by omega) hl
      cases r with
      | num q => exact up (fun _ => q) (fun k x => .const q _) fun f' e1 _ x => by rw [e1]
      | let_ c =>
        have d1 : dgAt rows m = 1 := hde
        refine up (fun x => x.getD c 0) (fun k x => ?_) fun f' e1 _ x => by rw [e1]
        rw [d1]
        by_cases q : c = k ∧ k < x.length
        · exact PolyD.id.cong fun t => by rw [set_getD, if_pos q]
        · exact (PolyD.const (x.getD c 0) 1).cong fun t => by rw [set_getD, if_neg q]
      | op w a b =>
        obtain ⟨ha, hb⟩ := wf
        have oa := fe.po a ha (by omega)
        have ob := fe.po b hb (by omega)
        cases w with
        | plus =>
          have hd : dgAt rows m = max (dgAt rows a) (dgAt rows b) := hde
          exact up (fun x => f a x + f b x) (fun k x => ((oa k x).up (by omega)).add ((ob k x).up (by omega))) fun f' e1 e2 x => by rw [e1, e2 a ha, e2 b hb]
        | less =>
          have hd : dgAt rows m = max (dgAt rows a) (dgAt rows b) := hde
          exact up (fun x => f a x - f b x) (fun k x => ((oa k x).up (by omega)).sub ((ob k x).up (by omega))) fun f' e1 e2 x => by rw [e1, e2 a ha, e2 b hb]
        | times =>
          have hd : dgAt rows m = dgAt rows a + dgAt rows b := hde
          exact up (fun x => f a x * f b x) (fun k x => by rw [hd]; exact (oa k x).mul (ob k x)) fun f' e1 e2 x => by rw [e1, e2 a ha, e2 b hb]
        | over =>
          obtain ⟨c, d, ec, hcd⟩ := rok.ov a b rfl
          have ec' : rows[a]? = some (.op .times c d) := by
            rw [List.getElem?_take_of_lt ha] at ec
            exact ec
          obtain ⟨hc, hd⟩ := h.wf a _ ec'
          have hdm : dgAt rows m = dgAt rows a - dgAt rows b := hde
          have da : dgAt rows a = dgAt rows c + dgAt rows d := by unfold dgAt; rw [dg_eq ec' (n := n) ⟨hc, hd⟩]; rfl
          have ea : ∀ x, f a x = f c x * f d x := fe.eqn a _ ha ec'
          have key : ∀ g, g < m → dgAt rows g ≤ dgAt rows m → (∀ x, f a x = f b x * f g x) → ∃ f, Fv rows (m + 1) f := fun g hg hdg ev => by
            refine up (f g) (fun k x => (fe.po g hg (by omega) k x).up hdg) fun f' e1 e2 x => ?_
            rw [e1, e2 a ha, e2 b hb]
            exact ev x
          rcases hcd with rfl | rfl
          · exact key d (by omega) (by omega) ea
          · exact key c (by omega) (by omega) fun x => by rw [ea x]; grind
    · exact ⟨f, fun i r hi ei => fe.eqn i r (by have := (List.getElem?_eq_some_iff.mp ei).1; omega) ei, fun i hi hl => fe.po i (by omega) hl⟩
section
variable {n : Nat} {rows : List Row} {f : Nat → List Rat → Rat}
theorem vals_f (h : Olds n 5 rows) (fe : Fv rows rows.length f) {x : List Rat} (hd : ∀ (i a b : Nat), rows[i]? = some (Row.op .over a b) → (valsF x rows).getD b 0 ≠ 0 ∨ f b x ≠ 0) : ∀ t i, i < t → i < rows.length → (valsF x rows).getD i 0 = f i x := fun t => by
  induction t with
  | zero => intro i hi; omega
  | succ t ih =>
    intro i hit hi
    have e : rows[i]? = some (rows[i]) := List.getElem?_eq_getElem hi
    generalize hr : rows[i] = r at e
    have wf := h.wf i r e
    have q := fe.eqn i r hi e
    rw [val_eq x e wf]
    cases r with
    | num q' => exact (q x).symm
    | let_ c => exact (q x).symm
    | op w a b =>
      obtain ⟨ha, hb⟩ := wf
      have va := ih a (by omega) (by omega)
      have vb := ih b (by omega) (by omega)
      cases w with
      | plus => show _ + _ = _; rw [va, vb]; exact (q x).symm
      | less => show _ - _ = _; rw [va, vb]; exact (q x).symm
      | times => show _ * _ = _; rw [va, vb]; exact (q x).symm
      | over =>
        have q1 : f a x = f b x * f i x := q x
        have nz : f b x ≠ 0 := by
          rcases hd i a b e with z | z
          · rwa [vb] at z
          · exact z
        show _ / _ = _
        rw [va, vb, q1]
        grind
def divs (rows : List Row) : List Nat := rows.filterMap fun
  | .op .over _ b => some b
  | _ => none
theorem mem_divs {i a b : Nat} (e : rows[i]? = some (.op .over a b)) : b ∈ divs rows := List.mem_filterMap.mpr ⟨_, List.mem_of_getElem? e, rfl⟩
theorem divs_mem {b : Nat} (h : b ∈ divs rows) : ∃ i a : Nat, rows[i]? = some (Row.op .over a b) := by
  obtain ⟨r, hr, e⟩ := List.mem_filterMap.mp h
  obtain ⟨i, hi, er⟩ := List.mem_iff_getElem.mp hr
  cases r with
  | num q => cases e
  | let_ c => cases e
  | op w a b' =>
    cases w with
    | over =>
      injection e with e
      subst e
      exact ⟨i, a, by rw [List.getElem?_eq_getElem hi, er]⟩
    | plus => cases e
    | less => cases e
    | times => cases e
def prodF (f : Nat → List Rat → Rat) (ds : List Nat) (x : List Rat) : Rat := (ds.map fun b => f b x).foldr (· * ·) 1
theorem prod_ne {x : List Rat} : ∀ {ds : List Nat}, prodF f ds x ≠ 0 ↔ ∀ b ∈ ds, f b x ≠ 0
  | [] => ⟨(fun _ b hb => by cases hb), fun _ => by show (1 : Rat) ≠ 0; decide⟩
  | d :: ds => by
    have ih := prod_ne (x := x) (ds := ds)
    have e : prodF f (d :: ds) x = f d x * prodF f ds x := rfl
    rw [e]
    constructor
    · intro h b hb
      rcases List.mem_cons.mp hb with rfl | hb
      · intro z; rw [z] at h; exact h (by grind)
      · refine ih.mp (fun z => ?_) b hb
        rw [z] at h; exact h (by grind)
    · intro h z
      have h1 := h d (List.mem_cons_self ..)
      have h2 := ih.mpr fun b hb => h b (List.mem_cons_of_mem _ hb)
      grind
theorem prod_poly (hp : ∀ b, b < rows.length → ∀ (k : Nat) (x : List Rat), PolyD 5 (fun t => f b (x.set k t))) (k : Nat) (x : List Rat) : ∀ {ds : List Nat}, (∀ b ∈ ds, b < rows.length) → PolyD (5 * ds.length) (fun t => prodF f ds (x.set k t))
  | [], _ => .const 1 _
  | d :: ds, h => by
    have h1 := hp d (h d (List.mem_cons_self ..)) k x
    have h2 := prod_poly hp k x (ds := ds) fun b hb => h b (List.mem_cons_of_mem _ hb)
    rw [List.length_cons, show 5 * (ds.length + 1) = 5 + 5 * ds.length by omega]
    exact h1.mul h2
/-- one coordinate after another -/
theorem coords (hp : ∀ b, b < rows.length → ∀ (k : Nat) (x : List Rat), PolyD 5 (fun t => f b (x.set k t))) (hd : ∀ b ∈ divs rows, b < rows.length) (hl : (divs rows).length ≤ 10) {x0 : List Rat} (lx : x0.length = n) (h0 : prodF f (divs rows) x0 ≠ 0) : ∀ k, k ≤ n → ∃ x : List Rat, x.length = n ∧ prodF f (divs rows) x ≠ 0 ∧ ∀ c, c < k → ∃ m : Nat, m ≤ 50 ∧ x.getD c 0 = nr m
  | 0, _ => ⟨x0, lx, h0, fun c hc => absurd hc (Nat.not_lt_zero _)⟩
  | k + 1, hk => by
    obtain ⟨x, l, hx, hc⟩ := coords hp hd hl lx h0 k (by omega)
    have po := (prod_poly hp k x hd).up (show 5 * (divs rows).length ≤ 50 by omega)
    by_cases q : ∃ m : Nat, m ≤ 50 ∧ prodF f (divs rows) (x.set k (nr m)) ≠ 0
    · obtain ⟨m, hm, hz⟩ := q
      refine ⟨x.set k (nr m), by rw [List.length_set]; exact l, hz, fun c hck => ?_⟩
      rw [set_getD]
      by_cases z : c = k
      · rw [if_pos ⟨z, by omega⟩]
        exact ⟨m, hm, rfl⟩
      · rw [if_neg (fun w => z w.1)]
        exact hc c (by omega)
    · exfalso
      have all := PolyD.roots 50 0 po fun i hi => by
        show prodF f (divs rows) (x.set k (nr (0 + i))) = 0
        by_cases z : prodF f (divs rows) (x.set k (nr (0 + i))) = 0
        · exact z
        · exact absurd ⟨0 + i, by omega, z⟩ q
      have e : x.set k (x.getD k 0) = x := by
        have hk2 : k < x.length := by omega
        have : x.getD k 0 = x[k] := by rw [List.getD_eq_getElem?_getD, List.getElem?_eq_getElem hk2]; rfl
        rw [this, List.set_getElem_self]
      have := all (x.getD k 0)
      rw [e] at this
      exact hx this
theorem nats_of : ∀ {x : List Rat}, (∀ q ∈ x, ∃ m : Nat, m ≤ 50 ∧ q = nr m) → ∃ p : List Nat, ratP p = x ∧ ∀ y ∈ p, y ≤ 50
  | [], _ => ⟨[], rfl, (fun y hy => by cases hy)⟩
  | q :: x, h => by
    obtain ⟨m, hm, e⟩ := h q (List.mem_cons_self ..)
    obtain ⟨p, ep, hp⟩ := nats_of (x := x) fun r hr => h r (List.mem_cons_of_mem _ hr)
    refine ⟨m :: p, ?_, fun y hy => ?_⟩
    · show nr m :: ratP p = q :: x
      rw [ep, e]
    · rcases List.mem_cons.mp hy with rfl | hy
      · exact hm
      · exact hp y hy
end
theorem good_all (n : Nat) (pts : List Rat) (rows : List Row) (old : OldOk n pts rows) : ∃ TT, GoodOk n rows TT := by
  have l10 := old.l10
  refine ⟨50, quot_ok old, by decide, by decide, fun p hp hx => ?_, ?_⟩
  · refine old_run old.olds (by decide) l10 (fun q hq => ?_) (by unfold ratP; rw [List.length_map]; exact hp)
    obtain ⟨m, hm, rfl⟩ := List.mem_map.mp hq
    have h50 := hx m hm
    refine ⟨((m * 12 : Nat) : Int), ?_, by omega⟩
    rw [Int.natCast_mul, Rat.intCast_mul]
  · obtain ⟨f, fe⟩ := fv_ex old.olds rows.length
    have dg5 : ∀ b, b < rows.length → dgAt rows b ≤ 5 := fun b hb => by
      have h1 := dg_le old.olds (b + 1) b (by omega) hb
      have ej : rows[b]? = some (rows[b]) := List.getElem?_eq_getElem hb
      have rj := old.olds b _ ej
      have wj := old.olds.wf b _ ej
      rw [wt_eq ej wj, ← wt_eqT ej wj] at h1
      exact Nat.le_trans h1 rj.w1
    have hd : ∀ b ∈ divs rows, b < rows.length := fun b hb => by
      obtain ⟨i, a, e⟩ := divs_mem hb
      have hi := (List.getElem?_eq_some_iff.mp e).1
      have := (old.olds.wf i _ e).2
      omega
    have nz0 : ∀ (i a b : Nat), rows[i]? = some (Row.op .over a b) → (valsF pts rows).getD b 0 ≠ 0 := fun i a b e => good_div (n := n) old.good e (old.olds.wf i _ e)
    have v0 := vals_f old.olds fe (x := pts) fun i a b e => .inl (nz0 i a b e)
    have h0 : prodF f (divs rows) pts ≠ 0 := prod_ne.mpr fun b hb => by
      obtain ⟨i, a, e⟩ := divs_mem hb
      rw [← v0 rows.length b (hd b hb) (hd b hb)]
      exact nz0 i a b e
    obtain ⟨x, lx, hx, hc⟩ := coords (fun b hb k x => (fe.po b hb hb k x).up (dg5 b hb)) hd (Nat.le_trans (List.length_filterMap_le ..) l10) old.lp h0 n (Nat.le_refl _)
    obtain ⟨p, ep, hp⟩ := nats_of (x := x) fun q hq => by
      obtain ⟨c, hcl, e⟩ := List.mem_iff_getElem.mp hq
      obtain ⟨m, hm, em⟩ := hc c (by omega)
      refine ⟨m, hm, ?_⟩
      rw [← em, ← e, List.getD_eq_getElem?_getD, List.getElem?_eq_getElem hcl]
      rfl
    have nz := prod_ne.mp hx
    have vx := vals_f old.olds fe (x := x) fun i a b e => .inr (nz b (mem_divs e))
    refine ⟨p, ?_, hp, ?_⟩
    · rw [← lx, ← ep]; unfold ratP; rw [List.length_map]
    · rw [ep]
      intro j r hj e
      cases r with
      | num q => rfl
      | let_ c => rfl
      | op w a b =>
        cases w with
        | plus => rfl
        | less => rfl
        | times => rfl
        | over =>
          have wf := old.olds.wf j _ e
          show decide ((valsF x (rows.take j)).getD b 0 = 0) = false
          rw [valsF_at x wf.2 (by omega), vx rows.length b (hd b (mem_divs e)) (hd b (mem_divs e))]
          exact decide_eq_false (nz b (mem_divs e))
theorem plain : Plain := ⟨good_all, und_all⟩
end U
set_option Elab.async false
set_option linter.all false
set_option maxRecDepth 100000
set_option maxHeartbeats 0
open PySem PySem.W PySem.Calls PyProof.Rows
theorem PySem.Challenge.cw_undivide_k24_whole_undivided_holds : PySem.Challenge.rw_undivide_k24_whole_undivided.Holds := by
  w_on; o_law
  refine HandSHeadRun.head_any (r := OpenLaw.row PySem.Challenge.rw_undivide_k24_whole_undivided) (q := U.qv) (H := U.hk) (ob := U.ob) (M := 6000) (loose := U.loose) (d := HandSHeadRun.topDef (OpenLaw.row PySem.Challenge.rw_undivide_k24_whole_undivided).prog 66) (kwd := []) U.ob_eq
    (by kernel_rfl) (fun s => by kernel_rfl) U.run (by kernel_rfl) (by kernel_rfl) (by kernel_rfl) (by rfl) (by first | assumption | decide +kernel) (by decide +kernel) ⟨rfl, rfl, rfl, rfl, rfl, by decide +kernel⟩ ?hw ?hc
  case hw => w_witness2
  case hc =>
    refine L2.walk_ofE (l := PySem.Challenge.rw_undivide_k24_whole_undivided) (n := 63) (k := 12) (x := "_law_script") (CX := L2.CX0) rfl (by decide) (by kernel_rfl) ⟨rfl, by decide, by decide⟩ ?F (fun _ _ _ _ z => z)
    intro w mg fa h Y G hmg0
    obtain ⟨K, KX, c⟩ := Y
    have hmg : mg ("law" : PySem.Str) = some (.ref fa) := by
      have e : (HandSHeadRun.topDef (OpenLaw.row PySem.Challenge.rw_undivide_k24_whole_undivided).prog 66).name = ("law" : PySem.Str) := by kernel_rfl
      rw [← e]
      exact hmg0
    obtain ⟨fd, hb, hF⟩ := U.law_fn (P := (PySem.Challenge.rw_undivide_k24_whole_undivided).prog) (w := w) (U.txt_of KX G c.t.d c.more) (U.nov_of KX G c.t.d c.more) (U.mkr_of KX G c.t.d) (U.rul_of KX G c.t.d) U.plain hmg
    exact ⟨K, fd, U.spLaw K, KX, hb, fun H a ns hl _ hS => ⟨a, ns, rfl, hS, hl, fun _ => rfl⟩, fun base _ _ => hF base⟩
